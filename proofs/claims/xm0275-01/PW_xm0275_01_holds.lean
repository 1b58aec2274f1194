import PyProof.Rows.All
import OpenK.KLine
import Lean
import PySem.Challenge.RW_xm0275_01
section
set_option autoImplicit true
set_option Elab.async false
set_option maxRecDepth 100000
set_option linter.all false
set_option genSizeOf false
open And renaming intro->dE
open Array renaming any_toList->aIz,forIn_toList->aH4,getElem?_eq_getElem->SN,getElem?_toList->SP,length_toList->IZ,mk->rT
open Bool renaming and_eq_true->iV,and_eq_true_iff->bi,and_false->IB,eq_iff_iff->aHj,false_and->DU,false_eq_true->ti,false_ne_true->yA,not_eq_true->DQ,not_eq_true'->IW,not_true->IY,or_eq_true->xw,or_eq_true_iff->vm,true_and->Hy
open Decidable renaming decide->aJ
open False renaming elim->DV
open ForInStep renaming yield->Rt
open Int renaming eq_ofNat_of_zero_le->Sa,fmod->IF,fmod_eq_emod_of_nonneg->aHm,le_trans->Hr,lt_of_lt_of_le->RK,lt_trans->Ig,natCast_add->vj,natCast_nonneg->j1,ne_of_gt->aIv,not_le->aIf,not_lt->AM,ofNat->ip,ofNat_inj->hZ,ofNat_le->AI,ofNat_lt->fT,ofNat_sub->aGV,toNat_lt->aH8,toNat_sub->aHc,zero_add->aHd
open LawfulBEq renaming eq_of_beq->oT
open List renaming Sublist->aHo,all_congr->aH0,all_cons->IE,all_eq_true->eI,any_cons->Ih,any_eq_true->Ib,append_assoc->d6,append_inj'->aHk,append_nil->cI,casesOn->bk,cons_append->aG2,drop_eq_getElem_cons->aHa,ext_getElem?->ID,find?_append->DR,find?_cons->gA,find?_eq_none->xz,find?_map->aHs,find?_some->vr,findIdx?_cons->aHZ,findIdx?_eq_some_iff_getElem->SR,flatMap->R0,flatMap_append->nD,flatMap_cons->kc,flatMap_map->Rk,flatMap_nil->IH,flatten_cons->aIo,foldl->aIm,foldl_append->oW,foldl_cons->H_,forIn_cons->IS,forIn_nil->Ru,getElem?_append_left->jL,getElem?_append_right->kf,getElem?_cons_succ->IJ,getElem?_eq_getElem->f7,getElem?_eq_none->ey,getElem?_eq_some_iff->jM,getElem?_map->jJ,getElem?_of_mem->mM,getElem?_range->aHq,getElem?_replicate->aHw,getElem?_reverse->aIi,getElem?_set->Rx,getElem?_set_ne->qY,getElem?_set_self->vg,getElem?_take_of_lt->aHr,getElem_idxOf->RQ,getElem_range->aHb,idxOf_lt_length_iff->AN,isEmpty_iff->Rq,length->gB,length_append->b9,length_cons->rV,length_drop->aG9,length_eq_zero_iff->vq,length_erase_of_mem->RR,length_map->ai,length_pos_of_mem->RS,length_range->te,length_reverse->h_,length_set->vh,length_take->aHu,lookup_cons->kG,map->aIw,map_append->cL,map_congr_left->mL,map_cons->g9,map_id->RY,map_map->iv,map_nil->aHl,map_reverse->RU,map_set->Hz,map_take->aG7,mem_append->eO,mem_append_left->dI,mem_append_right->dT,mem_cons->dA,mem_erase_of_ne->aG3,mem_flatMap->rU,mem_iff_getElem?->IN,mem_map->bc,mem_of_find?_eq_some->oX,mem_of_getElem?->dU,mem_of_mem_take->RV,mem_or_eq_of_mem_set->aG8,mem_range->oU,mem_reverse->xx,mem_singleton->bg,nil_append->aHt,nil_sublist->Rj,nodup_append->iu,nodup_cons->gN,nodup_nil->fU,not_mem_nil->c_,pairwise_iff_getElem->Rs,prefix_append->IU,prefix_refl->f8,range->cF,range'->aHR,range'_succ->aHT,range_succ->kg,range_succ_eq_map->aHp,rec->RL,replicate->jK,replicate_succ->aIn,reverse_append->RW,reverse_cons->jn,reverse_reverse->IA,set_set->IG,size_toArray->j4,sum_cons->RT,tail->aHz,tail_drop->aHA,take_add_one->aHe,take_append_drop->aHf,take_of_length_le->DT,zip_cons_cons->aHB
open List.Sublist renaming refl->Ri
open List.cons renaming inj->dP
open Nat renaming add->ir,add_assoc->DL,add_comm->RH,add_le_add->vc,add_le_add_left->IC,add_lt_add_left->DM,add_sub_cancel_left->Rf,beq->nB,casesAuxOn->iJ,div_le_self->Rh,eq_of_beq_eq_true->aGR,eq_zero_of_add_eq_zero_right->SV,le_add_left->vl,le_add_right->jZ,le_antisymm->bj,le_max_left->tZ,le_max_right->I0,le_of_ble_eq_true->xu,le_of_eq->AH,le_of_lt->RZ,le_of_not_lt->RI,le_of_succ_le->AO,le_of_succ_le_succ->aG6,le_refl->aK,le_succ->vo,le_succ_of_le->tY,le_trans->dN,lt_add_of_pos_right->aGS,lt_irrefl->vd,lt_of_le_of_lt->lV,lt_of_le_of_ne->Ra,lt_of_lt_of_eq->DS,lt_of_lt_of_le->kE,lt_or_ge->fV,lt_succ_of_lt->x_,lt_succ_self->tc,lt_trans->lW,lt_trichotomy->IR,max_eq_left->aG5,max_eq_right->aG4,max_le->Hw,min_le_left->aHv,mod_lt->aHn,mul_add->aGQ,mul_le_mul_left->II,mul_one->aGP,ne_of_gt->aGU,ne_of_lt->j0,not_le_of_lt->RJ,not_lt_of_le->ve,not_lt_zero->aHS,one_mul->tW,one_ne_zero->D7,pos_of_ne_zero->nF,rec->DN,sub_add_cancel->bY,sub_le->j3,sub_self->lX,succ_le_succ->iW,succ_pos->aGT,zero_add->DJ,zero_le->jI,zero_mul->aGO
open Ne renaming symm->iX
open Option renaming bind_eq_some_iff->DW,bind_some->SQ,isNone_iff_eq_none->Rr,isSome_iff_exists->pc,isSome_map->RX,map->oV,map_eq_none_iff->Hx,map_eq_some_iff->kF,map_some->AP,none->aA,some->J
open Option.some renaming inj->ao
open Or renaming elim->aU
open Prod renaming ext->aG1,fst->bI
open Pure renaming pure->gc
open PyProof.Rows renaming Call_Name->Sp,Constant_none->aIE,Subscript_->Dl,UnaryOp_->Io,callWith_type->aIK,ge_int->aMv,gt_int->aMu,le_int->aMt,len_tuple->aMw,subscriptTail->vy,truthy_int->aMx
open PySem renaming Addr->cO,Around->nG,Call_name1->Dm,Comprehension->aHM,DictEntry->iq,Env->kH,Expr->bp,FuncData->IM,Heap->e_,ItemOn->Dc,NameKind->qZ,Obj->kb,Operator->IV,OsState->AJ,Params->iI,Pos->nC,Program->vx,Scope->mK,Sem->rW,Shared->bG,Stmt->dm,Str->ac,Tok->jo,Value->aQ,World->cz,assign->vu,assignEach->Su,atKey->AV,binaryOp->Df,bindArgs->Ro,bindC->IQ,bindL->IP,builtinsNs->DP,cLine->iY,call->pZ,callEnvC->AQ,callWith->Sc,callWith_type1->Iu,call_list_seq->aIg,call_meets->D5,codeAny->yD,codeAny_loop->aHE,codeAny_mono->Hv,compTurn->DY,compareOp->nI,comprehension->R_,eqIsQuiet->Da,eqIsQuiet_byValue->aH5,eval->gC,evalThenUse->aHL,eval_ListComp->aHJ,getItem->SZ,importedModules->AK,intKind->nJ,interactive->aHx,isTrue->AS,letOwnedTupleGo->IK,mainGlobals->kC,mem_of_lookup->yB,methodCallForm->aIF,methodCallPos->aIG,model->bL,moduleNames->aGY,newList->SA,operate->SY,pyHash->Ia,pyIter->yC,pyNext->AR,rangeSize_one->aIJ,rawInt->IL,recursionLimit->aIC,reduceHash->SU,seqIndex?->S1,seqSlot_of->aIl,setItem->S6,sizeLine_eq->kI,sliceBounds->aIj,slicePick->Sf,slot_dict_getitem->S4,slot_list_getitem->aIa,slot_list_setitem->aId,spliced->Sk,standAt->SC,starEach->rZ,subscripted->SW,swapsWith->Rm,sysModules->rX,theTreesLotGoes->aHF,treeTable->RM,typeIs_int->Ij,valueAt->Db,wpAny->aq,wpAny_BinOp->Iq,wpAny_Compare1->Sn,wpAny_Constant_int->Sl,wpAny_Slice->Ip,wpAny_Tuple->aIH,wpAny_assign_Name->SD,wpAny_binaryOp_repeat_ref->aIp,wpAny_bind->bC,wpAny_call->Hu,wpAny_call_entry->IX,wpAny_comp_letGo->aHI,wpAny_dictEntries->D6,wpAny_dictEpoch->aHP,wpAny_execs_nil->Rn,wpAny_forIn_list->aHQ,wpAny_getItem_of->aIb,wpAny_holding->pd,wpAny_in_of->aH7,wpAny_isInstance->SO,wpAny_isTrue_Compare1->Sq,wpAny_loadPart->aIx,wpAny_mkText->aIy,wpAny_mono->iw,wpAny_notOrdered_dict->aHW,wpAny_noted->aHG,wpAny_of_eq->Rw,wpAny_pure->bm,wpAny_richCompare_same_room->aHU,wpAny_standAt->th,wpAny_truthy_bool->Il
open PySem.Around renaming in1_units->to
open PySem.Builtin renaming bitAnd->aHg,bitNot->aHi,bitOr->aHh
open PySem.Builtin.Dict renaming samePairs->SM,showsAll->aMr
open PySem.Builtin.Range renaming rangeFitsLong->aMy,rangeSize->Dn,small->Sr
open PySem.Builtin.Str renaming strSliceIndices->Ii
open PySem.Builtin.Tuple renaming tupleHashOf->I8,tupleItemsOf->aMs
open PySem.Calls renaming Name_function_global->aID,evalArgs_plain->Sm,spliced_cons->AX,spliced_nil->So
open PySem.Challenge renaming pw_xm0275_01->aL9,rw_xm0275_01->Hs
open PySem.Data renaming ctorIdx->aHO,noConfusion->AT
open PySem.Env renaming kindOf->tj
open PySem.Expr renaming ListComp->aHK,ctorIdx->mO
open PySem.Expr.Attribute renaming elim->SG
open PySem.Expr.Compare renaming elim->SJ
open PySem.Expr.Constant renaming elim->SF
open PySem.Expr.ListComp renaming elim->SK
open PySem.Expr.Subscript renaming elim->SH
open PySem.Expr.UnaryOp renaming elim->SI
open PySem.F renaming args_int_rmul_2->aIt,entry_int_rmul->aIs,fills_int_mul->aIq,plainAttrs_list->aII,slot_dict_eq->aHV,slot_dict_len->aIe,slot_dict_ne->aHY,slot_int_index->aIr,slot_int_rmul->Ik,slot_list_append->aHD,slot_tuple_mul->Sg,slot_tuple_rmul->aIk,sub_dict_dict->aHX
open PySem.Heap renaming ExtBut->AY,SameBut->Rz,get?_none_of_le->DX,get?_push_of_some->iA,get?_push_size->oY,get?_update_other->aIc,lt_size->aHH,size_push->IT
open PySem.NameKind renaming casesOn->aMa,cell->DZ,free->Rv
open PySem.Obj renaming mapSeq->yF,putName->aIA
open PySem.PyData renaming canLayAll0->SS,depthAll->AU,eqv->q8,eqvAll->vv,keyHash->tX
open PySem.ScopeKind renaming function->Ry
open PySem.SeqAt renaming compareEq_shaped->aH1,compareNe_shaped->aH2,shaped->aH3
open PySem.Stmt renaming ctorIdx->yE
open PySem.Stmt.AugAssign renaming elim->SL
open PySem.Str renaming append->aIu,length->nK,ofString->aM
open PySem.Txt renaming item->aH9,slice->Dh,sliceBy->aIh
open PySem.Value renaming bool->Ie,ctorIdx->aHN,isInt->aH6,noConfusion->rY,ref->aHy,type->Im
open PySem.W renaming Frag->nH,behindTheImports->aGW,boot_drawn->RN,boot_heap->qW,boot_toks->RO,builtinNamed->aG0,cellsFrom_some->aHC,dictOf->Dj,emptyDict->Ir,findIn->v_,getL->Di,hasDictIn->Sh,instObj->AW,keepIn->Dk,look_both->eH,looseW->AL,namesMeet->Ht,nsIn->qX,piece_app->j2,plainGet_of->Sj,plainOver->Si,putL->vz,putName_dict->aIB
open PySem.W.Fast renaming te10110043849684766642->aMc,te11892475500146522536->aMk,te13343964577679436407->aMm,te14082659384304107361->aMj,te14364793385576792824->aGX,te14374325043358763698->aMi,te15667345088766844465->aMh,te17119622794617984870->aMo,te17868728402115742887->aMp,te482687673346738481->aMq,te5923862056798008813->aMn,te8326940854005059898->aGZ,te8377067652309620493->aMl,tw10110043849684766642->aMb,tw11892475500146522536->aMe,tw14082659384304107361->aMg,tw14364793385576792824->DO,tw14374325043358763698->aMf,tw15667345088766844465->aMd
open PySem.W.WData renaming bool->vf,int->RP
section
namespace Mine.Hd
open PySem PySem.W
noncomputable abbrev pw:Program:=aL9
noncomputable def st(i:Nat):Stmt:=(pw.main.body[i]?).getD<|.Pass ⟨0,0,0,0⟩
noncomputable def ar:dm->Arguments|.FunctionDef _ a _ _ _ _ _ _ _ _=>a|_=>⟨[],[],aA,[],[],aA,[]⟩
noncomputable def bd:dm->List dm|.FunctionDef _ _ b _ _ _ _ _ _ _=>b|.ClassDef _ _ _ b _ _ _ _ _ _ _=>b|_=>[]
noncomputable def sc:dm->mK|.FunctionDef _ _ _ _ _ _ s _ _ _=>s|_=>default
noncomputable def en:bp->ac|.Name x _=>x|_=>default
noncomputable def nm:dm->ac|.FunctionDef n _ _ _ _ _ _ _ _ _=>n|.ClassDef n _ _ _ _ _ _ _ _ _ _=>n|.Assign l _ _=>en<|l.headD default|_=>default
noncomputable def ev:bp->Int|.Constant (.int v) _ _=>v|_=>0
noncomputable def av:dm->Int|.Assign _ v _=>ev v|_=>0
noncomputable def sa:dm->List ac|.ClassDef _ _ _ _ _ _ _ _ _ l _=>l|_=>[]
noncomputable def ln(t:dm):Int:=ip t.pos.line
noncomputable def vn(t:dm):List Str:=(sc t).names.filterMap λp=>@aMa (λ_=>Option ac) p.2 (J p.1) aA aA aA aA
noncomputable def f(i:Nat):Stmt:=st i
noncomputable def g(i j:Nat):Stmt:=((bd<|st i)[j]?).getD<|.Pass ⟨0,0,0,0⟩
noncomputable abbrev N:Value:=.none
noncomputable abbrev b(x:Bool):Value:=.bool x
noncomputable abbrev i(n:Int)(t:Nat):Value:=.int n t
noncomputable abbrev s(x:String)(t:Nat):Value:=.str (aM x) t
noncomputable abbrev y(x:String):Value:=.type x
noncomputable abbrev u(x:String):Value:=.builtin x
noncomputable abbrev r(a:Nat):Value:=.ref a
noncomputable def tp(l:List aQ):Obj:=⟨.type "tuple",aA,.seq ⟨l⟩ 0,⟨[]⟩⟩
noncomputable def fl(c:aQ)(l:List aQ):Obj:=⟨c,aA,.fields ⟨l⟩,⟨[]⟩⟩
noncomputable def ob(c:aQ)(d:Data)(sl:List<|Option aQ):Obj:=⟨c,aA,d,⟨sl⟩⟩
noncomputable def K'(x:ac)(t:Nat)(v:aQ)(P:iI):DictEntry:=⟨tX P x,.str x t,v⟩
noncomputable abbrev k(x:String):=K'<|aM x
noncomputable def j(h:Int)(q v:aQ)(_:iI):DictEntry:=⟨h,q,v⟩
noncomputable def dd(l:List<|iI->iq)(n:Nat)(P:iI):Data:=.dict ⟨l.map (· P)⟩ n
noncomputable def dc(l:List<|iI->iq)(n:Nat)(P:iI):Obj:=⟨.type "dict",aA,dd l n P,⟨[]⟩⟩
noncomputable def fo(c:aQ)(n q:ac)(t:dm)(gl:Nat)(d kd m co:aQ):Obj:=
 ⟨c,aA,.func {name:=n,qualname:=q,params:=ar t,body:=.stmts<|bd t,scope:=sc t,globals:=gl,closure:=[],defaults:=d,kwdefaults:=kd,pyModule:=m,code:=co},⟨[]⟩⟩
noncomputable def cl(n:ac)(bs mro:List aQ)(ns:Nat)(yG:List aQ)(sl:List<|Option aQ):Obj:=
 ⟨y "type",aA,.cls {name:=n,bases:=bs,mro:=mro,ns:=ns,qualname:=n,subclasses:=yG},⟨sl⟩⟩
noncomputable abbrev o(x:String):Str:=aM x
noncomputable abbrev wz(t:Nat):Value:=s "/claim/cut.py" t
noncomputable def Pu(t:Nat):List ac->List aQ|[]=>[]|x::l=>.str x t::Pu (t+1) l
noncomputable def co(n q:ac)(ln aIM fg:Int)(k v a:Nat)(z:Bool)(l:List aQ):Obj:=
 fl (y "code") ([.str n k,.str q<|k+1,wz<|k+2,i ln 0,i aIM 0,i 0 0,i 0 0,i fg 0,r a,b z,i 181 0,r<|a+1,N]++l++[i (ip<|k+3+v) 0,i ln 0,wz<|k+4+v])
noncomputable def bf(l:List aQ):Obj:=fl (y "builtin_function_or_method") l
noncomputable def pp:Obj:=bf [u "type.__prepare__",y "type"]
noncomputable def bs(v:aQ):Obj:=bf [u "object.__init_subclass__",v]
noncomputable def su(v:aQ):Obj:=fl (y "super") [v,v,v]
noncomputable def fr(c g:Nat)(m:aQ):Obj:=ob (y "frame") .plain [J<|r c,J<|r 3,J<|r g,aA,J m,aA,J<|r 0]
noncomputable def h(i:Nat):List Str:=vn<|f i
noncomputable def hm(i j:Nat):List Str:=vn<|g i j
noncomputable def F(a:Nat)(t:dm)(q:ac)(k:Nat)(m:aQ)(l:List kb):List Obj:=
 tp []::fl N []::tp (Pu (k+3)<|vn t)::tp []::fo N (nm t) q t 0 N N N N::co (nm t) q (ln t) (ip (ar t).args.length) 3 k (vn t).length a true [r<|a+2,r<|a+3,r<|a+4]::fo (y "function") (nm t) q t 3 N N m (r<|a+5)::l
noncomputable abbrev De:=iI->iq
noncomputable def Fr(m i' a k:Nat)(v:aQ)(l:List kb):List Obj:=
 @DN (λ_=>Nat->Nat->Nat->List kb) (λ_ _ _=>l) (λ_ h i a k=>F a (f i) (nm<|f i) k v<|h (i+1) (a+7)<|k+6+(vn<|f i).length) m i' a k
noncomputable def Gr(m i' a k:Nat)(l:List De):List De:=
 @DN (λ_=>Nat->Nat->Nat->List De) (λ_ _ _=>l) (λ_ h i a k=>K' (nm<|f i) (k+5+(vn<|f i).length) (r<|a+6)::h (i+1) (a+7) (k+6+(vn<|f i).length)) m i' a k
noncomputable def Lr(m i' a:Nat)(l:List aQ):List Value:=
 @DN (λ_=>Nat->Nat->List aQ) (λ_ _=>l) (λ_ h j a=>i (ln<|f j) 0::i 0 0::r (a+5)::h (j+1) (a+7)) m i' a
noncomputable def Lx(j a:Nat)(l:List aQ):List Value:=i (ln<|f j) 0::i 0 0::r a::l
noncomputable def Fs(a:Nat)(t:dm)(k:Nat)(m:aQ)(l:List kb):List Obj:=
 tp []::fl N []::fo N (nm t) (nm t) t 0 N N N N::co (nm t) (nm t) (ln t) (ip (ar t).args.length) 3 k 0 a true [N,N,r<|a+2]::fo (y "function") (nm t) (nm t) t 3 N N m (r<|a+3)::l
noncomputable def Cs(n i' k:Nat)(l:List De):List De:=
 @DN (λ_=>Nat->Nat->List De) (λ_ _=>l) (λ_ h j k=>K' (nm<|f j) (k+1) (i (av<|f j) k)::h (j+1) (k+2)) n i' k
noncomputable def Mr:List (dm×ac)->Nat->Nat->List (dm×ac×Nat×Nat)|[],_,_=>[]|(t,q)::l,a,k=>(t,q,a,k)::Mr l (a+7) (k+6+(vn t).length)
noncomputable def Kl(t:dm)(a k':Nat)(m:aQ)(ms:List<|dm×ac)(P:iI)(l:List kb):List Obj:=
 let me:=Mr ms (a+7)<|k'+10
 let A:=a+7+7*ms.length
 let k1:=k'+10+(ms.map λx=>6+(vn x.1).length).sum
 let k2:=k1+(sa t).length
 let kk:=me.map λp=>K' (nm p.1) (p.2.2.2+5+(vn p.1).length)<|r<|p.2.2.1+6
 let x:=r<|A+2
 let z:=K' (o "__static_attributes__") k2<|r A
 let w:=[k "__firstlineno__" (k'+9)<|i (ln t)<|k'+8]
 tp []::pp::dc ([k "__module__" (k'+5) m,k "__qualname__" (k'+7)<|.str (nm t)<|k'+6]++w++kk++[z]) (4+ms.length) P::tp []::fl N (me.flatMap λp=>[i (ln p.1) 0,i 4 0,r<|p.2.2.1+5])::co (nm t) (nm t) (ln t) 0 0 k' 0 (a+3) false [N,N,N]::fr (a+5) (a+2) m::@RL _ (λ_=>List kb)
  (tp (Pu k1 (sa t))::dc ([k "__module__" (k'+5) m]++w++kk++[z,k "__dict__" (k2+2) (r (A+3)),k "__weakref__" (k2+4) (r (A+4)),k "__doc__" (k2+5) N]) 4 P::
   cl (nm t) [y "object"] [x,y "object"] (A+1) [] [aA,aA,J (.str (nm t) (k'-2)),J (.str (nm t) (k'+6)),J (u "object.__new__"),J (b true)]::fl (y "getset_descriptor") [s "__dict__" (k2+1),x,u "function.__dict__",u "function.__dict__#set"]::fl (y "getset_descriptor") [s "__weakref__" (k2+3),x,u "ExceptionGroup.__weakref__",N]::su x::bs x::l)
  (λp _ h=>F p.2.2.1 p.1 p.2.1 p.2.2.2 m h) me
noncomputable abbrev m0:Value:=s "__main__" 164
noncomputable abbrev m1:Value:=s "framerune.faults" 206
noncomputable abbrev m2:Value:=s "framerune.kinds" 281
noncomputable abbrev m3:Value:=s "framerune.store" 675
noncomputable abbrev m4:Value:=s "framerune.kindline" 1033
noncomputable abbrev m5:Value:=s "framerune.kindrel" 1069
noncomputable abbrev m6:Value:=s "framerune.layout" 1153
noncomputable abbrev m7:Value:=s "framerune.vtable" 1165
noncomputable abbrev m8:Value:=s "framerune.imap" 1361
noncomputable abbrev m9:Value:=s "law_xm0275_01" 1507
noncomputable def VI(x2 x3 lD E_:kb)(P:iI):List Obj:=boot_o_0 P::boot_o_1 P::x2::x3::boot_o_4 P::boot_o_5 P::boot_o_6 P::boot_o_7 P::boot_o_8 P::boot_o_9 P::boot_o_10 P::tp []::lD::co (o "<module>") (o "<module>") 1 0 0 182 0 11 false [N,N,N]::fr 13 3 m0::(Fr 1 0 15 187 m0<|tp [y "Exception"]::pp::dc [k "__module__" 225 m1,k "__qualname__" 227<|s "RuneError" 226,k "__firstlineno__" 229<|i 16 228,k "__init__" 238<|r 35,k "__static_attributes__" 241<|r 36] 5 P::tp []::fl N [i 18 0,i 4 0,r 34]::co (o "RuneError") (o "RuneError") 16 0 0 220 0 25 false [N,N,N]::fr 27 24 m1::(F 29 (g 13 0) (o "RuneError.__init__") 230 m1<|tp [s "at" 239,s "code" 240]::dc [k "__module__" 225 m1,k "__firstlineno__" 229<|i 16 228,k "__init__" 238<|r 35,k "__static_attributes__" 241<|r 36,k "__weakref__" 243<|r 39,k "__doc__" 244 N] 3 P::E_::fl (y "getset_descriptor") [s "__weakref__" 242,r 38,u "ExceptionGroup.__weakref__",N]::su (r 38)::bs (r 38)::tp [r 38]::pp::dc [k "__module__" 256 m1,k "__qualname__" 258<|s "BadKind" 257,k "__firstlineno__" 260<|i 21 259,k "__static_attributes__" 261<|r 49] 4 P::tp []::fl N []::co (o "BadKind") (o "BadKind") 21 0 0 251 0 45 false [N,N,N]::fr 47 44 m1::tp []::dc [k "__module__" 256 m1,k "__firstlineno__" 260<|i 21 259,k "__static_attributes__" 261<|r 49,k "__doc__" 262 N] 2 P::cl (o "BadKind") [r 38] [r 51,r 38,y "Exception",y "BaseException",y "object"] 50 [] [J<|r 42,aA,J<|s "BadKind" 249,J<|s "BadKind" 257,J<|u "Exception.__new__",J<|b true]::su (r 51)::bs (r 51)::tp [r 38]::pp::dc [k "__module__" 272 m1,k "__qualname__" 274<|s "LoadFault" 273,k "__firstlineno__" 276<|i 23 275,k "__static_attributes__" 277<|r 61] 4 P::tp []::fl N []::co (o "LoadFault") (o "LoadFault") 23 0 0 267 0 57 false [N,N,N]::fr 59 56 m1::tp []::dc [k "__module__" 272 m1,k "__firstlineno__" 276<|i 23 275,k "__static_attributes__" 277<|r 61,k "__doc__" 278 N] 2 P::cl (o "LoadFault") [r 38] [r 63,r 38,y "Exception",y "BaseException",y "object"] 62 [] [J<|r 54,aA,J<|s "LoadFault" 265,J<|s "LoadFault" 273,J<|u "Exception.__new__",J<|b true]::su (r 63)::bs (r 63)::dc [j 0 (i 0 283)<|i 20 341,j 1 (i 1 285)<|i 9 342,j 2 (i 2 287)<|i 10 343,j 3 (i 3 289)<|i 11 344,j 4 (i 4 291)<|i 12 345,j 5 (i 5 293)<|i 13 346,j 6 (i 6 295)<|i 14 347,j 7 (i 7 297)<|i 15 348,j 8 (i 8 299)<|i 16 349,j 9 (i 9 301)<|i 17 350,j 10 (i 10 303)<|i 18 351,j 11 (i 11 305)<|i 19 352,j 12 (i 12 307)<|i 1 353,j 13 (i 13 309)<|i 4 354] 14 P::dc [j 20 (i 20 370)<|i 0 283,j 9 (i 9 371)<|i 1 285,j 10 (i 10 372)<|i 2 287,j 11 (i 11 373)<|i 3 289,j 12 (i 12 374)<|i 4 291,j 13 (i 13 375)<|i 5 293,j 14 (i 14 376)<|i 6 295,j 15 (i 15 377)<|i 7 297,j 16 (i 16 378)<|i 8 299,j 17 (i 17 379)<|i 9 301,j 18 (i 18 380)<|i 10 303,j 19 (i 19 381)<|i 11 305,j 1 (i 1 382)<|i 12 307,j 4 (i 4 383)<|i 13 309] 14 P::(Kl (f 50) 68 405 m2 [(g 50 0,o "KindTable.__init__"),(g 50 1,o "KindTable.row"),(g 50 2,o "KindTable.put")] P<|Fr 24 51 103 460 m2<|Kl (f 97) 271 721 m3 [(g 97 0,o "TypeDef.__init__")] P<|Kl (f 98) 292 775 m3 [(g 98 0,o "MethodDef.__init__")] P<|Kl (f 99) 313 823 m3 [(g 99 0,o "Store.__init__")] P<|Fr 18 100 334 855 m3<|Fr 3 119 460 1035 m4<|Kl (f 123) 481 1073 m5 [(g 123 0,o "LineHost.__init__"),(g 123 1,o "LineHost.base"),(g 123 2,o "LineHost.ifaces_at"),(g 123 3,o "LineHost.sort"),(g 123 4,o "LineHost.variance"),(g 123 5,o "LineHost.under")] P<|Fr 1 124 537 1144 m5<|Fr 1 126 544 1155 m6<|dc [j 1 (i 1 194)<|i 0 1167,j 2 (i 2 196)<|i 1 1168,j 3 (i 3 198)<|i 3 1169,j 4 (i 4 200)<|i 5 1170,j 5 (i 5 202)<|i 7 1171,j 6 (i 6 204)<|i 15 1172] 6 P::(Kl (f 130) 552 1184 m7 [(g 130 0,o "VTable.__init__")] P<|Fr 12 131 573 1213 m7<|Kl (f 144) 657 1365 m8 [(g 144 0,o "IMap.__init__")] P<|Fr 1 145 678 1394 m8<|Fs 685 (f 146) 1410 m8<|Fr 6 147 690 1416 m8<|Fr 11 154 732 1509 m9<|Fs 809 (f 165) 1679 m9<|Fr 1 166 814 1685 m9<|Fs 821 (f 167) 1700 m9<|[]))))
noncomputable def Kx(P:iI):Obj:=ob N (dd [] 0 P) []
noncomputable def ig(P:iI):Obj:=ob N (dd [k "type.__subclasses__.Exception.0" 245<|i 38 0,k "type.__subclasses__.Exception.n" 246<|i 1 0] 2 P) []
noncomputable def gl(v:aQ):List De:=k "__name__" 165 v::k "__doc__" 166 N::k "__package__" 167 N::k "__loader__" 168 (u "__main__.__loader__#opaque")::k "__spec__" 169 N::k "__annotations__" 170 (r 6)::k "__builtins__" 171 (r 4)::k "__file__" 173 (s "/claim/cut.py" 172)::k "__cached__" 174 N::(Gr 1 0 15 187<|Cs 6 1 194<|Cs 5 8 208<|K' (nm<|f 13) 248 (r 38)::K' (nm<|f 14) 264 (r 51)::K' (nm<|f 15) 280 (r 63)::(Cs 29 17 283<|k "PRIM_TID" 369 (r 66)::k "TID_PRIM" 398 (r 67)::(Cs 2 48 399<|K' (nm<|f 50) 459 (r 98)::(Gr 24 51 103 460<|Cs 21 76 677<|K' (nm<|f 97) 772 (r 287)::K' (nm<|f 98) 820 (r 308)::K' (nm<|f 99) 854 (r 329)::(Gr 18 100 334 855<|Gr 3 119 460 1035<|K' (nm<|f 123) 1143 (r 532)::(Gr 1 124 537 1144<|Gr 1 126 544 1155<|k "REACH" 1179 (r 551)::(Cs 1 129 1180<|K' (nm<|f 130) 1212 (r 568)::(Gr 12 131 573 1213<|K' (nm<|f 144) 1393 (r 673)::(Gr 1 145 678 1394<|K' (nm<|f 146) 1415 (r 689)::(Gr 6 147 690 1416<|Gr 11 154 732 1509<|K' (nm<|f 165) 1684 (r 813)::(Gr 1 166 814 1685<|K' (nm<|f 167) 1705 (r 825)::[])))))))))))
noncomputable def VJ:List Value:=Lr 1 0 15<|Lx 13 27<|Lx 14 47<|Lx 15 59<|Lx 50 73<|Lr 24 51 103<|Lx 97 276<|Lx 98 297<|Lx 99 318<|Lr 18 100 334<|Lr 3 119 460<|Lx 123 486<|Lr 1 124 537<|Lr 1 126 544<|Lx 130 557<|Lr 12 131 573<|Lx 144 662<|Lr 1 145 678<|Lx 146 688<|Lr 6 147 690<|Lr 11 154 732<|Lx 165 812<|Lr 1 166 814<|Lx 167 824<|[]
noncomputable def x3(nm:aQ)(n:Nat)(P:iI):Obj:=dc ((gl nm).take n) n P
noncomputable def lD(n:Nat):Obj:=fl N<|VJ.take n
noncomputable def E_(l:List aQ)(P:iI):Obj:=cl (o "RuneError") [y "Exception"] [r 38,y "Exception",y "BaseException",y "object"] 37 l [J<|r 22,aA,J<|s "RuneError" 218,J<|s "RuneError" 226,J<|u "Exception.__new__",J<|b true]
noncomputable def eo(l:List kb):List kb×List Obj:=@RL kb (λ_=>List kb×List kb) ([],[]) (λx _ h=>(x::h.2,h.1)) l
noncomputable def bt(n:Nat):List kb->BT:=@DN (λ_=>List kb->BT) (λ_=>.nil) (λ_ h l=>@RL kb (λ_=>BT) .nil (λx l _=>.node x (h (eo l).1)<|h (eo l).2) l) n
noncomputable def L(x2:iI->kb)(m:aQ)(n c:Nat)(l:List aQ)(j:Nat)(P:iI):List Obj:=(VI (x2 P) (x3 m n P) (lD c) (E_ l P) P).take j
noncomputable abbrev Zs:=(iI->BT)×Nat×Nat×nC
noncomputable def T(x:iI->kb)(m:aQ)(n c:Nat)(l:List aQ)(j k:Nat)(p:nC):Zs:=(λP=>bt 12<|L x m n c l j P,j,k,p)
noncomputable def z2:=T Kx m0 9 0 [] 15 187 ⟨0,0,0,0⟩
noncomputable def z3:=T ig m1 22 6 [] 42 249 ⟨16,0,20,20⟩
noncomputable def z4:=T ig m1 23 9 [r 51] 54 265 ⟨21,0,22,8⟩
noncomputable def z5:=T ig m2 43 12 [r 51,r 63] 66 321 ⟨44,0,44,7⟩
noncomputable def z6:=T ig m2 54 12 [r 51,r 63] 67 370 ⟨55,0,55,8⟩
noncomputable def z7:=T ig m2 57 12 [r 51,r 63] 68 403 ⟨58,0,58,12⟩
noncomputable def z8:=T ig m2 61 24 [r 51,r 63] 124 482 ⟨121,0,126,12⟩
noncomputable def z9:=T ig m2 74 63 [r 51,r 63] 215 595 ⟨194,0,198,13⟩
noncomputable def sW:=T ig m3 97 87 [r 51,r 63] 271 707 ⟨267,0,267,8⟩
noncomputable def nZ:=T ig m3 104 90 [r 51,r 63] 292 773 ⟨274,0,299,21⟩
noncomputable def mc:=T ig m3 105 93 [r 51,r 63] 313 821 ⟨300,0,316,23⟩
noncomputable def n0:=T ig m3 111 111 [r 51,r 63] 369 905 ⟨355,0,358,29⟩
noncomputable def nc:=T ig m3 123 147 [r 51,r 63] 453 1026 ⟨437,0,444,98⟩
noncomputable def Ky:=T ig m5 127 159 [r 51,r 63] 481 1071 ⟨472,0,472,8⟩
noncomputable def Bl:=T ig m5 128 162 [r 51,r 63] 537 1144 ⟨473,0,495,41⟩
noncomputable def Bm:=T ig m7 132 168 [r 51,r 63] 552 1182 ⟨516,0,516,15⟩
noncomputable def Kz:=T ig m7 138 186 [r 51,r 63] 608 1273 ⟨555,0,571,38⟩
noncomputable def K_:=T ig m8 145 207 [r 51,r 63] 657 1363 ⟨628,0,628,8⟩
noncomputable def LA:=T ig m8 150 222 [r 51,r 63] 704 1451 ⟨677,0,689,15⟩
noncomputable def LB:=T ig m9 161 255 [r 51,r 63] 781 1592 ⟨763,0,777,39⟩
noncomputable def E':=T ig m9 168 276 [r 51,r 63] 826 1706 ⟨893,0,925,15⟩
noncomputable def l1:=L Kx m0 9 0 [] 15
noncomputable def LD:=L ig m9 168 276 [r 51,r 63] 826
noncomputable def uj(P:iI):BT:=bt 12<|LD P
noncomputable def Bn:PySem.Env:={scope:=pw.main.scope,locals:=mainNs,globals:=mainNs,cells:=[],code:=.ref 13,frame:=J 14}
noncomputable def bE:List Stmt:=aGW pw
noncomputable def cE:Code:=.body bE Bn
noncomputable abbrev B0:List Frame:=[topFrame ⟨0,0,0,0⟩]
noncomputable def sl(a n:Nat):List Stmt:=(bE.drop a).take n
noncomputable def S(x:Zs)(w:cz)(os:AJ):SharedT:=SharedT.mk (x.1 w.params) x.2.1 {} (rT []) {} x.2.2.1 os
noncomputable def LF(n:Nat)(x:Zs)(l:List dm)(w:cz)(os:AJ):Option (Flow×SharedT×Code×nC):=
 aMb DO pw w 11 (J<|.ref 6) 1 n (S x w os) (piecesOf l Bn cE x.2.2.2 B0)
def G1(n:Nat)(x:Zs)(a c:Nat)(z:Zs)(w:cz):Prop:=(λos=>LF n x (sl a c) w os)=λos=>J (Flow.next,S z w os,cE,z.2.2.2)
theorem sg(h:G1 n x a c z w)(os:AJ):segRun RM pw w 11 (J<|.ref 6) 1 n (S x w os).abs (piecesOf (sl a c) Bn cE x.2.2.2 B0)=J (Flow.next,(S z w os).abs,cE,z.2.2.2):=by have h:=congrFun h os;unfold LF at h;rw [<-aMc,<-aGX]at h;exact segRun_of h
theorem p0(w:cz):G1 368 z2 0 14 z3 w:=by delta G1;kernel_rfl
theorem p1(w:cz):G1 214 z3 14 1 z4 w:=by delta G1;kernel_rfl
theorem p2(w:cz):G1 394 z4 15 21 z5 w:=by delta G1;kernel_rfl
theorem p3(w:cz):G1 297 z5 36 11 z6 w:=byRow2 "special-get-raises" (P:=G1 297 z5 36 11 z6) (λw=>by delta G1;kernel_rfl) (λw=>by delta G1;kernel_rfl) w
theorem p4(w:cz):G1 225 z6 47 3 z7 w:=byRow2 "special-get-raises" (P:=G1 225 z6 47 3 z7) (λw=>by delta G1;kernel_rfl) (λw=>by delta G1;kernel_rfl) w
theorem p5(w:cz):G1 387 z7 50 4 z8 w:=by delta G1;kernel_rfl
theorem p6(w:cz):G1 400 z8 54 13 z9 w:=by delta G1;kernel_rfl
theorem p7(w:cz):G1 401 z9 67 24 sW w:=by delta G1;kernel_rfl
theorem p8(w:cz):G1 302 sW 91 7 nZ w:=by delta G1;kernel_rfl
theorem p9(w:cz):G1 242 nZ 98 1 mc w:=by delta G1;kernel_rfl
theorem VK(w:cz):G1 388 mc 99 6 n0 w:=by delta G1;kernel_rfl
theorem VL(w:cz):G1 386 n0 105 12 nc w:=by delta G1;kernel_rfl
theorem VM(w:cz):G1 148 nc 117 6 Ky w:=by delta G1;kernel_rfl
theorem VN(w:cz):G1 387 Ky 123 1 Bl w:=by delta G1;kernel_rfl
theorem VO(w:cz):G1 185 Bl 124 6 Bm w:=byRow2 "special-get-raises" (P:=G1 185 Bl 124 6 Bm) (λw=>by delta G1;kernel_rfl) (λw=>by delta G1;kernel_rfl) w
theorem VP(w:cz):G1 395 Bm 130 6 Kz w:=by delta G1;kernel_rfl
theorem VQ(w:cz):G1 252 Kz 136 8 K_ w:=by delta G1;kernel_rfl
theorem VR(w:cz):G1 368 K_ 144 5 LA w:=by delta G1;kernel_rfl
theorem VS(w:cz):G1 391 LA 149 12 LB w:=by delta G1;kernel_rfl
theorem VU(w:cz):G1 265 LB 161 7 E' w:=by delta G1;kernel_rfl
theorem dK(w:cz):(λos=>aMd DO pw w 11 (J<|.ref 6) 12 ⟨qW w.params,rT [],RN,RO,os⟩<|topStub pw)=
 λos=>J (⟨⟨⟨l1 w.params⟩,{}⟩,rT [],{},187,os⟩,⟨aMe DO cE,cE,⟨0,0,0,0⟩,B0⟩):=by kernel_rfl
theorem VV(w:cz):(λos=>aMf DO pw w 11 (J<|.ref 6) 1 1 ⟨⟨⟨l1 w.params⟩,{}⟩,rT [],{},187,os⟩<|blockOf bE Bn cE ⟨0,0,0,0⟩ B0)=
 λos=>J (Flow.next,(S z2 w os).abs,cE,⟨0,0,0,0⟩):=by kernel_rfl
noncomputable def H1(P:iI):Heap:=⟨⟨LD P⟩,{}⟩
theorem fC(w:cz):(λos=>aMg DO pw w 11 (J<|.ref 6) 2 (S E' w os).abs ⟨doneF .next,cE,E'.2.2.2,B0⟩)=
 λos=>J ⟨H1 w.params,rT [],{},1706,os⟩:=by kernel_rfl
theorem split:bE=sl 0 14++(sl 14 1++(sl 15 21++(sl 36 11++(sl 47 3++(sl 50 4++(sl 54 13++(sl 67 24++(sl 91 7++(sl 98 1++(sl 99 6++(sl 105 12++(sl 117 6++(sl 123 1++(sl 124 6++(sl 130 6++(sl 136 8++(sl 144 5++(sl 149 12++(sl 161 7++[]))))))))))))))))))):=by kernel_rfl
noncomputable def M:Nat:=ir 12<|ir 1<|ir 368<|ir 214<|ir 394<|ir 297<|ir 225<|ir 387<|ir 400<|ir 401<|ir 302<|ir 242<|ir 388<|ir 386<|ir 148<|ir 387<|ir 185<|ir 395<|ir 252<|ir 368<|ir 391<|ir 265<|2
theorem VW(w:cz)(os:AJ):topRun RM pw w 11 (J<|.ref 6) M ⟨qW w.params,rT [],RN,RO,os⟩ (topStub pw)=J ⟨H1 w.params,rT [],{},1706,os⟩:=by have T:=aGX;have h0:=congrFun (dK w) os;have hb:=congrFun (VV w) os;have hf:=congrFun (fC w) os;simp only [<-aMh,<-aMi,<-aMj,<-aMk,<-T]at h0 hb hf;refine go_top h0<|piece_block hb ?_;rw [split];exact j2 (sg (p0 w) os)<|j2 (sg (p1 w) os)<|j2 (sg (p2 w) os)<|j2 (sg (p3 w) os)<|j2 (sg (p4 w) os)<|j2 (sg (p5 w) os)<|j2 (sg (p6 w) os)<|j2 (sg (p7 w) os)<|j2 (sg (p8 w) os)<|j2 (sg (p9 w) os)<|j2 (sg (VK w) os)<|j2 (sg (VL w) os)<|j2 (sg (VM w) os)<|j2 (sg (VN w) os)<|j2 (sg (VO w) os)<|j2 (sg (VP w) os)<|j2 (sg (VQ w) os)<|j2 (sg (VR w) os)<|j2 (sg (VS w) os)<|j2 (sg (VU w) os)<|piece_nil hf
end Mine.Hd
end
section
namespace Mine.Hd
open PySem PyProof.Rows PySem.Calls PySem.W
noncomputable def qv:Program:=view pw [167]
noncomputable def loose:List Str:=[(0,7),(8,8),(17,58),(76,42),(119,3),(123,2),(126,1),(128,15),(144,9),(154,14)].flatMap λ(p:Nat×Nat)=>(cF p.2).map λj=>nm<|f<|p.1+j
noncomputable def ks:List Nat:=[3,21,35,37,38,50,51,62,63,66,67,80,81,87,88,94,95,97,98,108,109,115,116,122,123,129,130,136,137,143,144,150,151,157,158,165,172,178,179,185,186,192,193,200,206,207,213,214,221,228,234,235,241,242,248,249,256,262,263,269,270,283,284,286,287,304,305,307,308,325,326,328,329,339,340,346,347,353,354,360,361,367,368,374,375,381,382,388,389,395,396,402,403,409,410,416,417,423,424,430,431,437,438,444,445,451,452,459,465,466,472,473,479,480,493,494,500,501,507,508,515,522,529,531,532,543,549,550,551,564,565,567,568,578,579,585,586,592,593,599,600,606,607,614,620,621,627,628,634,635,641,642,648,649,655,656,669,670,672,673,683,684,688,689,695,696,702,703,709,710,716,717,723,724,730,731,737,738,744,745,751,752,758,759,765,766,772,773,779,780,786,787,793,794,800,801,807,808,812,813,819,820,824,825]
noncomputable def Kf(P:iI):Frag:=ks.map λa=>(a,((uj P).get a).getD default)
theorem VX(P:iI):ks=(Kf P).map (·.1):=by kernel_rfl
noncomputable abbrev rr:OpenRow:=Hs.row
noncomputable def Hk:Hook:=kHook Kf ks VX
noncomputable def Xt(s:bG):Bool:=xlAt qv [] s&&recOk (OpenRow.toRowW rr).records s
theorem VY(w:cz):(fencedOpening RM pw w 20000).map (λs=>(s.heap,s.gens,s.drawn,s.toks))=J (qW w.params,rT [],RN,RO):=
 boot_open (by kernel_rfl) (by decide) (λs=>by kernel_rfl) w
theorem VZ(w:cz):((qW w.params).isNs kC&&(rT []:Array GenState).size==0,(qW w.params).objs.size,(qW w.params).nsMap kC "__annotations__")=(true,11,J<|.ref 6):=by kernel_rfl
noncomputable abbrev sF(w:cz)(os:AJ):Shared:=⟨H1 w.params,rT [],{},1706,os⟩
theorem k1(w:cz):staticsOk (AK pw.main.body) (qW w.params) (H1 w.params)=true:=by kernel_rfl
theorem k2(w:cz):namesBound pw (H1 w.params)=true:=by kernel_rfl
theorem k3(w:cz):(λos=>gensDone<|sF w os)=λ_=>true:=by kernel_rfl
theorem k4(w:cz):laidKept (qW w.params) (H1 w.params)=true:=by kernel_rfl
theorem k5(w:cz):(λos=>seen ((recsOf qv).map (·.name)) (ownsOf qv) [] {sF w os with gens:=#[]})=λ_=>expectedOf qv:=by kernel_rfl
theorem k6(w:cz):(λos=>(sF w os).heap.bltView)=λ_=>bltViewBooted:=by kernel_rfl
theorem k7(w:cz):(H1 w.params).keysOk (AL qv loose) ((recsOf qv).map (·.name)) ((litsOf qv).map (·.1)) ((clssOf qv<|AL qv loose).map (·.name))=true:=by kernel_rfl
theorem k8(w:cz):((H1 w.params).accountedOkI (AK pw.main.body)&&(H1 w.params).isNs kC&&(H1 w.params).isNs DP&&tablesOk qv (H1 w.params))=true:=by kernel_rfl
theorem k9(w:cz):(λos=>Xt<|sF w os)=λ_=>true:=by kernel_rfl
theorem V0(w:cz):(λos=>tabsOk qv<|sF w os)=λ_=>true:=by kernel_rfl
theorem Vd(w:cz):(λos=>pinSeenD qv (drecsOf qv)<|sF w os)=λ_=>pinGoodD (drecsOf qv):=by kernel_rfl
theorem Ve(w:cz):(λos=>plainSeenE qv (AL qv loose)<|sF w os)=λ_=>plainGoodE qv (AL qv loose):=by kernel_rfl
theorem Vf(w:cz):(λos=>plainSeenD qv loose<|sF w os)=λ_=>plainGoodD qv loose:=by kernel_rfl
theorem Vg(w:cz):(λos=>wideSeen qv<|sF w os)=λ_=>wideGood qv:=by kernel_rfl
theorem Vh(w:cz):(λos=>clsSeenW qv loose<|sF w os)=λ_=>clsGoodW qv loose:=by kernel_rfl
theorem Vi(w:cz):(λos=>Hk.obs<|sF w os)=λ_=>Hk.val w:=by kernel_rfl
noncomputable abbrev ll:OpenLaw:=Hs
theorem Vj:(sreFenced pw.main)=true:=by kernel_rfl
theorem Vk:(((aGY pw.main.body).isEmpty||lookedIntoSs (aGY pw.main.body) pw.main.body))=true:=by kernel_rfl
theorem Vl:(namesResolve pw)=true:=by rw [aMl];kernel_rfl
theorem Vm:(pw.boundNames.all λn=>!worldNames.contains n)=true:=by kernel_rfl
theorem Vn:(noRoadLSs {strict:=!(AK pw.main.body).all cThrough.contains,foot:=aA,bare:=(["vars","dir","locals"]:List ac).filter<|readsOut pw pw.main.body} pw.main.body)=true:=by rw [aGZ,aMm,aMn];kernel_rfl
theorem Vo:(Ht pw pw.main.body λ_ n=>attrL n)=true:=by rw [aMo,aMp];kernel_rfl
theorem Vp:((rr.loose.isEmpty&&rr.makers.isEmpty&&(rr.records.isEmpty||rr.raises.all λct=>ct.1 !=.builtin "AttributeError"&&ct.1 !=.builtin "TypeError")))=true:=by kernel_rfl
theorem Vq:((rr.raises.all λct=>match ct.1 with|.builtin n=>!rr.prog.boundNames.contains (aM n)&&!ofTheWorld.contains n|.own _=>true))=true:=by kernel_rfl
theorem Vr:(rr.toRowW.solid)=true:=by kernel_rfl
theorem Vs:((rr.pre.litsOk&&rr.post.litsOk&&rr.raises.all (·.2.litsOk)))=true:=by kernel_rfl
theorem Vt:((rr.prog.boundNames.contains rr.name&&!startupNames.contains rr.name))=true:=by kernel_rfl
theorem Vu:((aJ (ll.foot<=(aGW ll.prog).length)&&ll.footing.all footLine))=true:=by kernel_rfl
theorem Vv:(noClassBlock ll.prog ll.footing)=true:=by kernel_rfl
theorem Vw:(noRoadLSs {strict:=true,foot:=J ll.bound',writes:=ll.writes,may:=ll.may} ll.footing)=true:=by rw [aGZ];kernel_rfl
theorem Vx:(defStands ll.about ll.above)=true:=by kernel_rfl
theorem Vy:(ll.namesIt)=true:=by kernel_rfl
theorem Vz:((["type","isinstance","issubclass","getattr","hasattr"]:List ac).all λn=>ll.about !=[n])=true:=by kernel_rfl
theorem V_:(ll.bound'.all λn=>!aG0 n||ll.about==[n]||!ll.reads n)=true:=by kernel_rfl
theorem WA:((ll.prog.main.body.flatMap importedNames).all λn=>!ll.reads n||(drawsOf n ll.prog.main.body).all λmn=>mn.2 !=("attrgetter":ac)&&mn.2 !=("methodcaller":ac))=true:=by rw [aMq];kernel_rfl
theorem WB:(Ht ll.prog ll.footing λsc n=>(!(["type","isinstance","issubclass","getattr","hasattr"]:List ac).contains n||sc.names.lookup n==J .globalImplicit)&&(ll.may !=J n||sc.kind==.module||sc.names.lookup n==J .globalImplicit))=true:=by kernel_rfl
theorem WD:((ll.own.contains ll.name&&ll.own.eraseDups.length==ll.own.length))=true:=by kernel_rfl
theorem WE:(ll.own.all λn=>!aG0 n)=true:=by kernel_rfl
theorem WF:(Ht ll.prog ll.above λ_ n=>!ll.own.contains n)=true:=by kernel_rfl
theorem WG:(Ht ll.prog ll.footing λsc n=>sc.kind==.module||sc.names.lookup n !=J .globalExplicit)=true:=by kernel_rfl
theorem WH:rr.partSaid=true:=by
 unfold OpenRow.partSaid looksOpen
 have h1:=bi.mp Vp
 have h2:=bi.mp h1.1
 have h3:=bi.mp Vs
 have h4:=bi.mp h3.1
 exact eH (eH (eH (eH (eH (eH (eH (eH (eH (eH (eH (eH (eH
  (eH (eH (eH (eH (eH Vj Vk) Vl) Vm) Vn) Vo) h2.1) h2.2) h1.2) Vq) (by rfl)) (by rfl)) Vr) h4.1) h4.2) h3.2) (by rfl)) (by rfl)) (by rfl)
theorem WI:rr.wellSaid=true:=by unfold OpenRow.wellSaid;have h:=bi.mp Vt;exact eH (eH WH h.1) h.2
theorem WJ:ll.wellSaid=true:=by
 unfold OpenLaw.wellSaid
 have h1:=bi.mp Vu
 have h2:=bi.mp WD
 exact eH (eH (eH (eH (eH (eH (eH (eH (eH (eH (eH (eH (eH (eH (eH (eH (eH (eH
  WI h1.1) h1.2) Vv) (by rfl)) (by rfl)) Vw) Vx) Vy) Vz) V_) (by rfl)) WA) WB) h2.1) h2.2) WE) WF) WG
theorem left:LeftO pw qv loose Xt Hk.obs Hk.val 20000:=
 LeftO.of_pieces (H₀:=qW) (H₁:=H1) VY VZ VW (by decide) λw=>by
  funext os;refine aG1 ?_<|aG1 ?_ ?_;·show(staticsOk (AK pw.main.body) (qW w.params) (H1 w.params)&&namesBound pw (H1 w.params)&&gensDone (sF w os)&&laidKept (qW w.params) (H1 w.params))=true;rw [k1 w,k2 w,congrFun (k3 w) os,k4 w];rfl
  ·have h8:=k8 w;simp only [iV]at h8;obtain⟨⟨⟨a1,a2⟩,a3⟩,a4⟩:=h8;show openSeen qv loose (AK pw.main.body) Xt true (sF w os)=openGood qv loose;unfold openSeen openGood;have e5:=congrFun (k5 w) os;have e6:=congrFun (k6 w) os;have e9:=congrFun (k9 w) os;have Sx:=congrFun (V0 w) os;have Sy:=congrFun (Vd w) os;have Sz:=congrFun (Ve w) os;have S_:=congrFun (Vf w) os;have TA:=congrFun (Vg w) os;have TB:=congrFun (Vh w) os;dsimp only at e5 e6 e9 Sx Sy Sz S_ TA TB;rw [e5,e6,e9,Sx,Sy,Sz,S_,TA,TB];have e7:=k7 w;show(expectedOf qv,bltViewBooted,((H1 w.params).keysOk (AL qv loose) ((recsOf qv).map (·.name)) ((litsOf qv).map (·.1)) ((clssOf qv<|AL qv loose).map (·.name))&&(H1 w.params).accountedOkI (AK pw.main.body)&&(H1 w.params).isNs kC&&(H1 w.params).isNs DP&&tablesOk qv (H1 w.params)&&true&&_),_)=_;rw [e7,a1,a2,a3,a4];rfl
  exact congrFun (Vi w) os
noncomputable def dL:DefRec:=⟨aM "law",ar<|f 167,bd<|f 167,sc<|f 167,⟨893,0,925,15⟩⟩
theorem WK:defOf qv rr.name=J (dL,[]):=by kernel_rfl
theorem hd(hc:WalkO qv loose (XL qv []) Hk.says rr.toRowW dL [] λf vs=>pZ f vs):PySem.Challenge.rw_xm0275_01.Holds:=by
 refine holds_law WJ λaIN=>?_;refine holds_open (q:=qv) (loose:=loose) (Xt:=Xt) (XP:=XL qv []) (Yf:=Hk.obs) (Ya:=Hk.val) (YP:=Hk.says) (N:=20000) left Hk.of Hk.keeps (λs e=>xl_of s (bi.mp e).1) XL.keeps WK ?d2 ?d3
  (λs e=>recFacts_of (bi.mp e).2) (by rfl) aIN ?d4 ?d5 ?hw hc
 case d2=>kernel_rfl
 case d3=>kernel_rfl
 case d4=>decide+kernel
 case d5=>exact⟨rfl,rfl,rfl,rfl,rfl,by decide+kernel⟩
 case hw=>w_witness2
end Mine.Hd
end
section
namespace Mine
set_option genInjectivity false
@[elab_as_elim] theorem aD{c:Sort _}{motive:c->Prop}{a b:c}(h:a=b)(q:motive b):motive a:=h▸q
@[elab_as_elim] theorem aF{c:Sort _}{motive:c->Prop}{a b:c}(h:b=a)(q:motive b):motive a:=h▸q
theorem aX{v:a}{P:Prop}(e:(aA:Option a)=J v):P:=by cases e
theorem iC{v:a}{P:Prop}(e:J v=(aA:Option a)):P:=by cases e
theorem iN{l:List a}{P:Prop}(e:[]=v::l):P:=by cases e
theorem hI{l:List a}{P:Prop}(e:v::l=[]):P:=by cases e
theorem tf{P:Prop}(e:true=false):P:=by cases e
theorem ft{P:Prop}(e:false=true):P:=by cases e
theorem cQ{P:a->Prop}{x y:a}(e:x=y)(h:let r:=y;P r):P x:=by subst e;exact h
set_option genCtorIdx false in
inductive Lx
 |n (k:Nat)
 |v (i:Nat)
 |p (i k:Nat)
 |a (x y:Lx)
 |m (k:Nat) (x:Lx)
set_option genCtorIdx false in
inductive Lc
 |l (x y:Lx)
 |t (x y:Lx)
 |e (x y:Lx)
 |g (x y:Lx)
noncomputable def sD:List Nat->Nat->Nat|[],_=>0|x::_,0=>x|_::r,i+1=>sD r i
noncomputable def Lx.d(c:List Nat):Lx->Nat|.n k=>k|.v i=>sD c i|.p i k=>sD c i+k|.a x y=>x.d c+y.d c|.m k x=>k*x.d c
noncomputable def Lc.a(c:List Nat):Lc->Prop|.l x y=>x.d c<=y.d c|.t x y=>x.d c<y.d c|.e x y=>x.d c=y.d c|.g x y=>x.d c=y.d c
noncomputable def qi(c:List Nat)(P:Prop):List Lc->Prop|[]=>P|x::r=>x.a c->qi c P r
noncomputable def kq(w:Nat):Nat->List Nat->List Nat|0,[]=>[w]|0,x::r=>(x+w)::r|i+1,[]=>0::kq w i []|i+1,x::r=>x::kq w i r
noncomputable def Lx.b(w:Nat):Lx->List Nat->List Nat|.n k,u=>kq (w*k) 0 u|.v i,u=>kq w (i+1) u|.p i k,u=>kq w (i+1)<|kq (w*k) 0 u|.a x y,u=>y.b w<|x.b w u|.m k x,u=>x.b (w*k) u
noncomputable def Lc.b:Lc->List Nat->List Nat|.l x _,p=>x.b 1 p|.t x _,p=>kq 1 0<|x.b 1 p|.e x _,p=>x.b 1 p|.g _ y,p=>y.b 1 p
noncomputable def Lc.d:Lc->List Nat->List Nat|.l _ y,p=>y.b 1 p|.t _ y,p=>y.b 1 p|.e _ y,p=>y.b 1 p|.g x _,p=>x.b 1 p
noncomputable def Be:List Nat->List Nat->Bool|[],_=>true|x::r,[]=>nB x 0&&Be r []|x::r,y::s=>Nat.ble x y&&Be r s
noncomputable def yc:List Lc->List Nat->List Nat->Bool|[],p,q=>Be (kq 1 0 q) p|c::r,p,q=>yc r (c.b p)<|c.d q
noncomputable def fK:List Nat->List Nat->Nat|_,[]=>0|[],x::_=>0|y::c,x::r=>x*y+fK c r
theorem Bf(c:List Nat):fK c []=0:=by induction c<;>rfl
theorem sG(w:Nat):∀(i:Nat)(c p:List Nat),fK c (kq w i p)=fK c p+w*sD c i|0,[],[]=>rfl|0,[],_::_=>rfl|0,y::c,[]=>by refine(?_:w*y+fK c []=0+w*y);rw [Bf,DJ];rfl|0,y::c,x::r=>by refine(?_:(x+w)*y+fK c r=x*y+fK c r+w*y);rw [Nat.add_mul,Nat.add_right_comm]|i+1,[],[]=>rfl|i+1,[],_::_=>rfl|i+1,y::c,[]=>by refine(?_:0*y+fK c (kq w i [])=0+w*sD c i);rw [sG w i c [],Bf,aGO,DJ]|i+1,y::c,x::r=>by refine(?_:x*y+fK c (kq w i r)=x*y+fK c r+w*sD c i);rw [sG w i c r,DL]
theorem ol(c:List Nat):∀(x:Lx)(w:Nat)(p:List Nat),fK (1::c) (x.b w p)=fK (1::c) p+w*x.d c|.n k,w,p=>by refine(?_:fK (1::c) (kq (w*k) 0 p)=_);rw [sG];refine(?_:_+w*k*1=_);rw [aGP];rfl|.v i,w,p=>sG w (i+1) (1::c) p|.p i k,w,p=>by refine(?_:fK (1::c) (kq w (i+1)<|kq (w*k) 0 p)=_+w*(sD c i+k));rw [sG,sG];refine(?_:_+w*k*1+w*sD c i=_);rw [aGP,aGQ,DL,RH<|w*k]|.a x y,w,p=>by refine(?_:fK (1::c) (y.b w<|x.b w p)=_+w*(x.d c+y.d c));rw [ol c y,ol c x,aGQ,DL]|.m k x,w,p=>by refine(?_:fK (1::c) (x.b (w*k) p)=_+w*(k*x.d c));rw [ol c x,Nat.mul_assoc]
theorem Ek:∀(p q c:List Nat),Be p q=true->fK c p<=fK c q|[],q,c,_=>by rw [Bf];exact jI _|_::_,_,[],_=>jI _|x::r,[],y::c,h=>by have h:=bi.mp h;haveI e:=Ek r [] c h.2;haveI z:x=0:=aGR h.1;rw [Bf]at e;refine(?_:x*y+fK c r<=0);rw [z,aGO,DJ];exact e|x::r,y::s,z::c,h=>by haveI h:=bi.mp h;exact vc (Nat.mul_le_mul_right z<|xu h.1)<|Ek r s c h.2
theorem yd{P:Prop}(c:List Nat):∀(a:List Lc)(p q:List Nat),yc a p q=true->fK (1::c) p<=fK (1::c) q->qi c P a
 |[],p,q,h,g=>by
  haveI:=Ek _ _ (1::c) h
  rw [sG]at this
  exact absurd (dN this g)<|Nat.not_succ_le_self _
 |.l x y::r,p,q,h,g=>λi=>yd c r _ _ h (by
  refine(?_:fK (1::c) (x.b 1 p)<=fK (1::c) (y.b 1 q))
  rw [ol,ol,tW,tW];exact vc g i)
 |.e x y::r,p,q,h,g=>λi=>yd c r _ _ h (by
  refine(?_:fK (1::c) (x.b 1 p)<=fK (1::c) (y.b 1 q))
  rw [ol,ol,tW,tW];exact vc g (AH i))
 |.g x y::r,p,q,h,g=>λi=>yd c r _ _ h (by
  refine(?_:fK (1::c) (y.b 1 p)<=fK (1::c) (x.b 1 q))
  rw [ol,ol,tW,tW];exact vc g (AH (Eq.symm i)))
 |.t x y::r,p,q,h,g=>λi=>yd c r _ _ h (by
  refine(?_:fK (1::c) (kq 1 0<|x.b 1 p)<=fK (1::c) (y.b 1 q))
  rw [sG,ol,ol,tW,tW,tW]
  refine(?_:fK (1::c) p+(x.d c+1)<=fK (1::c) q+y.d c)
  exact vc g i)
theorem U:true=true:=rfl
theorem nQ{P:Prop}(c:List Nat)(a:List Lc)(h:yc a [] []=true):qi c P a:=yd c a [] [] h<|aK _
theorem El{P Q:Prop}(c:List Nat):∀(a:List Lc),(Q->qi c P a)->qi c (Q->P) a|[],h=>h|_::r,h=>λi=>El c r λq=>h q i
theorem Em{P Q:Prop}(f:P->Q)(c:List Nat):∀(a:List Lc),qi c P a->qi c Q a|[],h=>f h|_::r,h=>λi=>Em f c r<|h i
theorem dy(c:List Nat)(x y:Lx)(a:List Lc)(h:yc (.t y x::a) [] []=true):qi c (x.d c<=y.d c) a:=
 Em RI c a (El c a<|nQ (P:=False) c (.t y x::a) h)
theorem fe(c:List Nat)(x y:Lx)(a:List Lc)(h:yc (.l y x::a) [] []=true):qi c (x.d c<y.d c) a:=
 Em Nat.lt_of_not_le c a (El c a<|nQ (P:=False) c (.l y x::a) h)
noncomputable def bQ:Lx:=.n 0
noncomputable def au:Lx:=.n 1
noncomputable def iF:Lx:=.n 10
noncomputable def lj:Lx:=.n 100
noncomputable def dz:Lx:=.n 1000
noncomputable def qj:Lx:=.n 100000
noncomputable def eX:Lx:=.n 1000000
noncomputable def wh:Lx:=.n 1000000000
noncomputable def j8:Lx:=.n 12
noncomputable def dB:Lx:=.n 2
noncomputable def js:Lx:=.n 20
noncomputable def lq:Lx:=.n 21
noncomputable def bq:Lx:=.n 3
noncomputable def sH:Lx:=.n 50000
noncomputable def fh:Lx:=.n 6
noncomputable def cg:Lx:=.n 66
noncomputable def iG:Lx:=.n 8
noncomputable def pz:Lx:=.n 900
noncomputable def aR:Lx:=.p 0 1
noncomputable def nR:Lx:=.p 0 10
noncomputable def kO:Lx:=.p 0 14
noncomputable def kP:Lx:=.p 0 16
noncomputable def cm:Lx:=.p 0 2
noncomputable def fL:Lx:=.p 0 3
noncomputable def fZ:Lx:=.p 0 4
noncomputable def bu:Lx:=.p 0 5
noncomputable def cJ:Lx:=.p 0 6
noncomputable def nT:Lx:=.p 0 80
noncomputable def aY:Lx:=.p 1 1
noncomputable def kQ:Lx:=.p 1 2
noncomputable def oq:Lx:=.p 1 5
noncomputable def bN:Lx:=.p 2 1
noncomputable def fM:Lx:=.p 3 1
noncomputable def dq:Lx:=.p 4 1
noncomputable def ku:Lx:=.p 5 1
noncomputable def ky:Lx:=.p 6 1
noncomputable def oz:Lx:=.p 9 1
noncomputable def Y:Lx:=.v 0
noncomputable def Z:Lx:=.v 1
noncomputable def gW:Lx:=.v 10
noncomputable def o_:Lx:=.v 11
noncomputable def lr:Lx:=.v 12
noncomputable def aB:Lx:=.v 2
noncomputable def aI:Lx:=.v 3
noncomputable def bF:Lx:=.v 4
noncomputable def bO:Lx:=.v 5
noncomputable def cR:Lx:=.v 6
noncomputable def cU:Lx:=.v 7
noncomputable def dJ:Lx:=.v 8
noncomputable def gg:Lx:=.v 9
noncomputable def cA{a:Nat}:=dy [a]
noncomputable def aV{a b:Nat}:=dy [a,b]
noncomputable def bb{a b c:Nat}:=dy [a,b,c]
noncomputable def de{a b c d:Nat}:=dy [a,b,c,d]
noncomputable def jt{a b c d e:Nat}:=dy [a,b,c,d,e]
noncomputable def mY{a b c d e f:Nat}:=dy [a,b,c,d,e,f]
noncomputable def ye{a b c d e f g:Nat}:=dy [a,b,c,d,e,f,g]
noncomputable def sI{a b c d e f g h:Nat}:=dy [a,b,c,d,e,f,g,h]
noncomputable def qk{a b c d e f g h i:Nat}:=dy [a,b,c,d,e,f,g,h,i]
noncomputable def Bg{a b c d e f g h i j:Nat}:=dy [a,b,c,d,e,f,g,h,i,j]
noncomputable def yf{a b c d e f g h i j k:Nat}:=dy [a,b,c,d,e,f,g,h,i,j,k]
noncomputable def En{a b c d e f g h i j k l m n o p q:Nat}:=dy [a,b,c,d,e,f,g,h,i,j,k,l,m,n,o,p,q]
noncomputable def bA{a:Nat}:=fe [a]
noncomputable def be{a b:Nat}:=fe [a,b]
noncomputable def dg{a b c:Nat}:=fe [a,b,c]
noncomputable def jA{a b c d:Nat}:=fe [a,b,c,d]
noncomputable def yg{a b c d e f:Nat}:=fe [a,b,c,d,e,f]
theorem dF{a b:Nat}(c:Nat)(h:a<=b):a<=b+c:=dN h<|jZ _ _
theorem bP{a b:Nat}(c:Nat)(h:a<=b):a<b+(c+1):=lV h<|aGS<|aGT _
theorem lu{a b:Nat}(h:a=b):a<=b:=dy [a,b] (.v 0) (.v 1) [.e (.v 0)<|.v 1] U h
theorem VB{a b c:Nat}(h:a=b)(g:b=c):a<=c:=dy [a,b,c] (.v 0) (.v 2) [.e (.v 0)<|.v 1,.e (.v 1)<|.v 2] U h g
theorem Kh{a b c:Nat}(h:a=b)(g:c=b):a<=c:=dy [a,b,c] (.v 0) (.v 2) [.e (.v 0)<|.v 1,.g (.v 2)<|.v 1] U h g
theorem mZ{a b c:Nat}(h:a=b)(g:b<=c):a<=c:=dy [a,b,c] (.v 0) (.v 2) [.e (.v 0)<|.v 1,.l (.v 1)<|.v 2] U h g
theorem a9{a b:Nat}(h:b<a):¬a=b:=aGU h
theorem VC{a b c j:Nat}(h:a=b)(g:c=b+(j+1)):a<=c:=dy [a,b,c,j] (.v 0) (.v 2) [.e (.v 0)<|.v 1,.g (.v 2)<|.a (.v 1)<|.p 3 1] U h g
theorem Bh{a b c j:Nat}(h:a=b)(g:b+j<c):a<c:=fe [a,b,c,j] (.v 0) (.v 2) [.e (.v 0)<|.v 1,.t (.a (.v 1)<|.v 3)<|.v 2] U h g
theorem yh{a b c:Nat}(h:a=b)(g:b<c):a<c:=fe [a,b,c] (.v 0) (.v 2) [.e (.v 0)<|.v 1,.t (.v 1)<|.v 2] U h g
theorem VD{a b:Nat}(h:b=a):a<=b:=dy [a,b] (.v 0) (.v 1) [.g (.v 1)<|.v 0] U h
theorem yi{a b c:Nat}(h:b=a)(g:b=c):a<=c:=dy [a,b,c] (.v 0) (.v 2) [.g (.v 1)<|.v 0,.e (.v 1)<|.v 2] U h g
theorem nU{a:Nat}{P:Prop}(h:a<a):P:=absurd h<|vd _
theorem Ki{a b c j:Nat}(h:b=a)(g:c=b+(j+1)):a<c:=fe [a,b,c,j] (.v 0) (.v 2) [.g (.v 1)<|.v 0,.g (.v 2)<|.a (.v 1)<|.p 3 1] U h g
theorem yj{a b c:Nat}(h:b=a)(g:b<c):a<=c:=dy [a,b,c] (.v 0) (.v 2) [.g (.v 1)<|.v 0,.t (.v 1)<|.v 2] U h g
theorem yk{a b c:Nat}(h:b=a)(g:b<c):a<c:=fe [a,b,c] (.v 0) (.v 2) [.g (.v 1)<|.v 0,.t (.v 1)<|.v 2] U h g
theorem Kj{a b c:Nat}(h:a<=b)(g:b=c):a<=c:=dy [a,b,c] (.v 0) (.v 2) [.l (.v 0)<|.v 1,.e (.v 1)<|.v 2] U h g
theorem sJ{a b c:Nat}(h:a<=b)(g:c=b):a<=c:=dy [a,b,c] (.v 0) (.v 2) [.l (.v 0)<|.v 1,.g (.v 2)<|.v 1] U h g
theorem aH{a b c:Nat}(h:a<=b)(g:b<=c):a<=c:=dy [a,b,c] (.v 0) (.v 2) [.l (.v 0)<|.v 1,.l (.v 1)<|.v 2] U h g
theorem cM{a b c j:Nat}(h:a<=b)(g:c=b+(j+1)):a<=c:=dy [a,b,c,j] (.v 0) (.v 2) [.l (.v 0)<|.v 1,.g (.v 2)<|.a (.v 1)<|.p 3 1] U h g
theorem Km{a b c j:Nat}(h:a<=b)(g:c=b+(j+1)):a<c:=fe [a,b,c,j] (.v 0) (.v 2) [.l (.v 0)<|.v 1,.g (.v 2)<|.a (.v 1)<|.p 3 1] U h g
theorem nV{a b c j:Nat}(h:a<=b)(g:b+j<c):a<=c:=dy [a,b,c,j] (.v 0) (.v 2) [.l (.v 0)<|.v 1,.t (.a (.v 1)<|.v 3)<|.v 2] U h g
theorem VE{a b c j:Nat}(h:a<=b)(g:b+j<c):a<c:=fe [a,b,c,j] (.v 0) (.v 2) [.l (.v 0)<|.v 1,.t (.a (.v 1)<|.v 3)<|.v 2] U h g
theorem cY{a b c:Nat}(h:a<=b)(g:b<c:=by decide):a<=c:=dy [a,b,c] (.v 0) (.v 2) [.l (.v 0)<|.v 1,.t (.v 1)<|.v 2] U h g
theorem cN{a b c:Nat}(h:a<=b)(g:b<c:=by decide):a<c:=fe [a,b,c] (.v 0) (.v 2) [.l (.v 0)<|.v 1,.t (.v 1)<|.v 2] U h g
theorem lz{a b i:Nat}(h:a+(i+1)<=b):a<=b:=dy [a,b,i] (.v 0) (.v 1) [.l (.a (.v 0)<|.p 2 1)<|.v 1] U h
theorem kz{a b i:Nat}(h:a+(i+1)<=b):a<b:=fe [a,b,i] (.v 0) (.v 1) [.l (.a (.v 0)<|.p 2 1)<|.v 1] U h
theorem aj{a b:Nat}(h:a<b):¬a=b:=j0 h
theorem wj{a b i c:Nat}(h:a+(i+1)<=b)(g:b<c:=by decide):a<c:=fe [a,b,i,c] (.v 0) (.v 3) [.l (.a (.v 0)<|.p 2 1)<|.v 1,.t (.v 1)<|.v 3] U h g
theorem ql{a b i:Nat}(h:b=a+(i+1)):a<=b:=dy [a,b,i] (.v 0) (.v 1) [.g (.v 1)<|.a (.v 0)<|.p 2 1] U h
theorem nW{a b i:Nat}(h:b=a+(i+1)):a<b:=fe [a,b,i] (.v 0) (.v 1) [.g (.v 1)<|.a (.v 0)<|.p 2 1] U h
theorem gE{a b i c:Nat}(h:b=a+(i+1))(g:b=c):a<c:=fe [a,b,i,c] (.v 0) (.v 3) [.g (.v 1)<|.a (.v 0)<|.p 2 1,.e (.v 1)<|.v 3] U h g
theorem nX{a b i c:Nat}(h:b=a+(i+1))(g:b<=c):a<c:=fe [a,b,i,c] (.v 0) (.v 3) [.g (.v 1)<|.a (.v 0)<|.p 2 1,.l (.v 1)<|.v 3] U h g
theorem wn{a b i c j:Nat}(h:b=a+(i+1))(g:c=b+(j+1)):a<c:=fe [a,b,i,c,j] (.v 0) (.v 3) [.g (.v 1)<|.a (.v 0)<|.p 2 1,.g (.v 3)<|.a (.v 1)<|.p 4 1] U h g
theorem uR{a b i:Nat}(h:a+i<b):a<b:=fe [a,b,i] (.v 0) (.v 1) [.t (.a (.v 0)<|.v 2)<|.v 1] U h
theorem VF{a b i c:Nat}(h:a+i<b)(g:b<=c):a<c:=fe [a,b,i,c] (.v 0) (.v 3) [.t (.a (.v 0)<|.v 2)<|.v 1,.l (.v 1)<|.v 3] U h g
theorem jB{a b:Nat}(h:a<b):a<=b:=dy [a,b] (.v 0) (.v 1) [.t (.v 0)<|.v 1] U h
theorem nY{a b c:Nat}(h:a<b)(g:b=c):a<c:=fe [a,b,c] (.v 0) (.v 2) [.t (.v 0)<|.v 1,.e (.v 1)<|.v 2] U h g
theorem eY{a b c:Nat}(h:a<b)(g:c=b):a<c:=fe [a,b,c] (.v 0) (.v 2) [.t (.v 0)<|.v 1,.g (.v 2)<|.v 1] U h g
theorem VG{a b c:Nat}(h:a<b)(g:b<=c):a<=c:=dy [a,b,c] (.v 0) (.v 2) [.t (.v 0)<|.v 1,.l (.v 1)<|.v 2] U h g
theorem bz{a b c:Nat}(h:a<b)(g:b<=c):a<c:=fe [a,b,c] (.v 0) (.v 2) [.t (.v 0)<|.v 1,.l (.v 1)<|.v 2] U h g
theorem eV{a b c j:Nat}(h:a<b)(g:c=b+(j+1)):a<c:=fe [a,b,c,j] (.v 0) (.v 2) [.t (.v 0)<|.v 1,.g (.v 2)<|.a (.v 1)<|.p 3 1] U h g
theorem uS{a b c:Nat}(h:a<b)(g:b<c:=by decide):a<=c:=dy [a,b,c] (.v 0) (.v 2) [.t (.v 0)<|.v 1,.t (.v 1)<|.v 2] U h g
theorem ae{a b c:Nat}(h:a<b)(g:b<c:=by decide):a<c:=fe [a,b,c] (.v 0) (.v 2) [.t (.v 0)<|.v 1,.t (.v 1)<|.v 2] U h g
inductive X2{kJ kK:Type}(p:kJ->kK->Prop):Prop
 |mk (x0:kJ) (x1:kK) (h:p x0 x1):X2 p
inductive X3{kJ kK mP:Type}(p:kJ->kK->mP->Prop):Prop
 |mk (x0:kJ) (x1:kK) (x2:mP) (h:p x0 x1 x2):X3 p
inductive X4{kJ kK mP pg:Type}(p:kJ->kK->mP->pg->Prop):Prop
 |mk (x0:kJ) (x1:kK) (x2:mP) (x3:pg) (h:p x0 x1 x2 x3):X4 p
inductive X5{kJ kK mP pg tq:Type}(p:kJ->kK->mP->pg->tq->Prop):Prop
 |mk (x0:kJ) (x1:kK) (x2:mP) (x3:pg) (x4:tq) (h:p x0 x1 x2 x3 x4):X5 p
inductive X6{kJ kK mP pg tq AZ:Type}(p:kJ->kK->mP->pg->tq->AZ->Prop):Prop
 |mk (x0:kJ) (x1:kK) (x2:mP) (x3:pg) (x4:tq) (x5:AZ) (h:p x0 x1 x2 x3 x4 x5):X6 p
inductive X8{kJ kK mP pg tq AZ Sv Sw:Type}(p:kJ->kK->mP->pg->tq->AZ->Sv->Sw->Prop):Prop
 |mk (x0:kJ) (x1:kK) (x2:mP) (x3:pg) (x4:tq) (x5:AZ) (x6:Sv) (x7:Sw) (h:p x0 x1 x2 x3 x4 x5 x6 x7):X8 p
inductive A2(p0 p1:Prop):Prop
 |mk (h0:p0) (h1:p1):A2 p0 p1
inductive A3(p0 p1 p2:Prop):Prop
 |mk (h0:p0) (h1:p1) (h2:p2):A3 p0 p1 p2
inductive A4(p0 p1 p2 p3:Prop):Prop
 |mk (h0:p0) (h1:p1) (h2:p2) (h3:p3):A4 p0 p1 p2 p3
inductive A5(p0 p1 p2 p3 p4:Prop):Prop
 |mk (h0:p0) (h1:p1) (h2:p2) (h3:p3) (h4:p4):A5 p0 p1 p2 p3 p4
inductive A6(p0 p1 p2 p3 p4 p5:Prop):Prop
 |mk (h0:p0) (h1:p1) (h2:p2) (h3:p3) (h4:p4) (h5:p5):A6 p0 p1 p2 p3 p4 p5
inductive A7(p0 p1 p2 p3 p4 p5 p6:Prop):Prop
 |mk (h0:p0) (h1:p1) (h2:p2) (h3:p3) (h4:p4) (h5:p5) (h6:p6):A7 p0 p1 p2 p3 p4 p5 p6
inductive A8(p0 p1 p2 p3 p4 p5 p6 p7:Prop):Prop
 |mk (h0:p0) (h1:p1) (h2:p2) (h3:p3) (h4:p4) (h5:p5) (h6:p6) (h7:p7):A8 p0 p1 p2 p3 p4 p5 p6 p7
inductive A9(p0 p1 p2 p3 p4 p5 p6 p7 p8:Prop):Prop
 |mk (h0:p0) (h1:p1) (h2:p2) (h3:p3) (h4:p4) (h5:p5) (h6:p6) (h7:p7) (h8:p8):A9 p0 p1 p2 p3 p4 p5 p6 p7 p8
inductive Eo(p0 p1 p2 p3 p4 p5 p6 p7 p8 p9:Prop):Prop
 |mk (h0:p0) (h1:p1) (h2:p2) (h3:p3) (h4:p4) (h5:p5) (h6:p6) (h7:p7) (h8:p8) (h9:p9):Eo p0 p1 p2 p3 p4 p5 p6 p7 p8 p9
theorem aG{p0 p1:l->Prop}{g:Prop}(h:∃a,p0 a/\p1 a) (k:∀a,p0 a->p1 a->g):g:=by obtain⟨c,d,e⟩:=h;exact k c d e
theorem oE{p0:e->Prop}{g:Prop}(h:∃a,p0 a) (k:∀a,p0 a->g):g:=by obtain⟨c,d⟩:=h;exact k c d
theorem on{p1 g:Prop}(h:p0/\p1)(k:p0->p1->g):g:=by obtain⟨a,c⟩:=h;exact k a c
theorem cV{p0 p1:n->p->Prop}{g:Prop}(h:X2 λa c=>A2 (p0 a c)<|p1 a c) (k:∀a c,p0 a c->p1 a c->g):g:=by obtain⟨d,e,l,m⟩:=h;exact k d e l m
theorem cp{p0 p1:q->t->v->Prop}{g:Prop}(h:X3 λa c d=>A2 (p0 a c d)<|p1 a c d) (k:∀a c d,p0 a c d->p1 a c d->g):g:=by obtain⟨e,l,m,n,p⟩:=h;exact k e l m n p
theorem fj{p0 p1:t->v->w->x->Prop}{g:Prop}(h:X4 λa c d x3=>A2 (p0 a c d x3)<|p1 a c d x3) (k:∀a c d x3,p0 a c d x3->p1 a c d x3->g):g:=by obtain⟨e,l,m,n,p,q⟩:=h;exact k e l m n p q
theorem fk{p2 g:Prop}(h:p0/\p1/\p2)(k:p0->p1->p2->g):g:=by obtain⟨a,c,d⟩:=h;exact k a c d
theorem j9{p0 p1 p2:p->q->Prop}{g:Prop}(h:X2 λa c=>A3 (p0 a c) (p1 a c)<|p2 a c) (k:∀a c,p0 a c->p1 a c->p2 a c->g):g:=by obtain⟨d,e,l,m,n⟩:=h;exact k d e l m n
theorem iH{p0 p1 p2 p3:q->t->Prop}{g:Prop}(h:X2 λa c=>A4 (p0 a c) (p1 a c) (p2 a c)<|p3 a c) (k:∀a c,p0 a c->p1 a c->p2 a c->p3 a c->g):g:=by obtain⟨d,e,l,m,n,p⟩:=h;exact k d e l m n p
theorem hJ{p0 p1 p2:m->Prop}{g:Prop}(h:∃a,p0 a/\p1 a/\p2 a) (k:∀a,p0 a->p1 a->p2 a->g):g:=by obtain⟨c,d,e,l⟩:=h;exact k c d e l
theorem ja{p1 p2:m->Prop}{g:Prop}(h:p0/\(∃a,p1 a/\p2 a)) (k:p0->∀a,p1 a->p2 a->g):g:=by obtain⟨c,d,e,l⟩:=h;exact k c d e l
theorem l_{p0 p1 p2 p3 p4:t->v->Prop}{g:Prop}(h:X2 λa c=>A5 (p0 a c) (p1 a c) (p2 a c) (p3 a c)<|p4 a c) (k:∀a c,p0 a c->p1 a c->p2 a c->p3 a c->p4 a c->g):g:=by obtain⟨d,e,l,m,n,p,q⟩:=h;exact k d e l m n p q
theorem pA{p0 p1 p2 p3:w->x->z->A->Prop}{g:Prop}(h:X4 λa c d x3=>A4 (p0 a c d x3) (p1 a c d x3) (p2 a c d x3)<|p3 a c d x3) (k:∀a c d x3,p0 a c d x3->p1 a c d x3->p2 a c d x3->p3 a c d x3->g):g:=by obtain⟨e,l,m,n,p,q,t,v⟩:=h;exact k e l m n p q t v
theorem pB{p3 p4 g:Prop}(h:p0/\p1/\p2/\p3/\p4)(k:p0->p1->p2->p3->p4->g):g:=by obtain⟨a,c,d,e,l⟩:=h;exact k a c d e l
theorem p_{p0:m->n->Prop}{g:Prop}(h:X2 λa c=>p0 a c) (k:∀a c,p0 a c->g):g:=by obtain⟨d,e,l⟩:=h;exact k d e l
theorem qm{p0 p1 p2 p3:n->Prop}{g:Prop}(h:∃a,A4 (p0 a) (p1 a) (p2 a)<|p3 a) (k:∀a,p0 a->p1 a->p2 a->p3 a->g):g:=by obtain⟨c,d,e,l,m⟩:=h;exact k c d e l m
theorem qA{p0 p1 p2:t->v->w->Prop}{g:Prop}(h:X3 λa c d=>A3 (p0 a c d) (p1 a c d)<|p2 a c d) (k:∀a c d,p0 a c d->p1 a c d->p2 a c d->g):g:=by obtain⟨e,l,m,n,p,q⟩:=h;exact k e l m n p q
theorem sK{p0 p1 p2:p->q->Prop}{g:Prop}(h:∃a c,p0 a c/\p1 a c/\p2 a c) (k:∀a c,p0 a c->p1 a c->p2 a c->g):g:=by obtain⟨d,e,l,m,n⟩:=h;exact k d e l m n
theorem sL{p0 p1 p2:x->z->A->B->C->Prop}{g:Prop}(h:X5 λa c d x3 e=>A3 (p0 a c d x3 e) (p1 a c d x3 e)<|p2 a c d x3 e) (k:∀a c d x3 e,p0 a c d x3 e->p1 a c d x3 e->p2 a c d x3 e->g):g:=by obtain⟨l,m,n,p,q,t,v,w⟩:=h;exact k l m n p q t v w
theorem sO{p0:d->Prop}{p1:d->p->Prop}{g:Prop}(h:∃a,p0 a/\(∃c,p1 a c)) (k:∀a,p0 a->∀c,p1 a c->g):g:=by obtain⟨e,l,m,n⟩:=h;exact k e l m n
theorem sP{p0 p1 p2 p3 p4 p5 p6:w->x->Prop}{g:Prop}(h:X2 λa c=>A7 (p0 a c) (p1 a c) (p2 a c) (p3 a c) (p4 a c) (p5 a c)<|p6 a c) (k:∀a c,p0 a c->p1 a c->p2 a c->p3 a c->p4 a c->p5 a c->p6 a c->g):g:=by obtain⟨d,e,l,m,n,p,q,t,v⟩:=h;exact k d e l m n p q t v
theorem uT{p4 p5 p6 g:Prop}(h:p0/\p1/\p2/\p3/\p4/\p5/\p6)(k:p0->p1->p2->p3->p4->p5->p6->g):g:=by obtain⟨a,c,d,e,l,m,n⟩:=h;exact k a c d e l m n
theorem sQ{p0 p1 p2 p3:n->Prop}{g:Prop}(h:∃a,p0 a/\p1 a/\p2 a/\p3 a) (k:∀a,p0 a->p1 a->p2 a->p3 a->g):g:=by obtain⟨c,d,e,l,m⟩:=h;exact k c d e l m
theorem uU{p0 p1 p2 p3:v->w->x->Prop}{g:Prop}(h:X3 λa c d=>A4 (p0 a c d) (p1 a c d) (p2 a c d)<|p3 a c d) (k:∀a c d,p0 a c d->p1 a c d->p2 a c d->p3 a c d->g):g:=by obtain⟨e,l,m,n,p,q,t⟩:=h;exact k e l m n p q t
theorem uV{p0 p1 p2 p3 p4 p5:x->z->A->Prop}{g:Prop}(h:∃a c d,p0 a c d/\p1 a c d/\p2 a c d/\p3 a c d/\p4 a c d/\p5 a c d) (k:∀a c d,p0 a c d->p1 a c d->p2 a c d->p3 a c d->p4 a c d->p5 a c d->g):g:=by obtain⟨e,l,m,n,p,q,t,v,w⟩:=h;exact k e l m n p q t v w
theorem sR{p0 p1 p2:m->Prop}{g:Prop}(h:∃a,A3 (p0 a) (p1 a)<|p2 a) (k:∀a,p0 a->p1 a->p2 a->g):g:=by obtain⟨c,d,e,l⟩:=h;exact k c d e l
theorem yl{p0 p1 p2 p3 p4 p5:q->Prop}{g:Prop}(h:∃a,p0 a/\p1 a/\p2 a/\p3 a/\p4 a/\p5 a) (k:∀a,p0 a->p1 a->p2 a->p3 a->p4 a->p5 a->g):g:=by obtain⟨c,d,e,l,m,n,p⟩:=h;exact k c d e l m n p
theorem ym{p1 p2 p3 p4:p->Prop}{g:Prop}(h:p0/\(∃a,A4 (p1 a) (p2 a) (p3 a)<|p4 a)) (k:p0->∀a,p1 a->p2 a->p3 a->p4 a->g):g:=by obtain⟨c,d,e,l,m,n⟩:=h;exact k c d e l m n
theorem yn{p0 p1:n->p->Prop}{g:Prop}(h:∃a c,p0 a c/\p1 a c) (k:∀a c,p0 a c->p1 a c->g):g:=by obtain⟨d,e,l,m⟩:=h;exact k d e l m
theorem qo{p2 p3 g:Prop}(h:p0/\p1/\p2/\p3)(k:p0->p1->p2->p3->g):g:=by obtain⟨a,c,d,e⟩:=h;exact k a c d e
theorem wp{p0 p1:q->t->v->Prop}{g:Prop}(h:∃a c d,p0 a c d/\p1 a c d) (k:∀a c d,p0 a c d->p1 a c d->g):g:=by obtain⟨e,l,m,n,p⟩:=h;exact k e l m n p
theorem wu{p0 p1 p2:t->v->w->Prop}{g:Prop}(h:∃a c d,p0 a c d/\p1 a c d/\p2 a c d) (k:∀a c d,p0 a c d->p1 a c d->p2 a c d->g):g:=by obtain⟨e,l,m,n,p,q⟩:=h;exact k e l m n p q
theorem Bi{p0 p1 p2 p3 p4:x->z->A->B->Prop}{g:Prop}(h:X4 λa c d x3=>A5 (p0 a c d x3) (p1 a c d x3) (p2 a c d x3) (p3 a c d x3)<|p4 a c d x3) (k:∀a c d x3,p0 a c d x3->p1 a c d x3->p2 a c d x3->p3 a c d x3->p4 a c d x3->g):g:=by obtain⟨e,l,m,n,p,q,t,v,w⟩:=h;exact k e l m n p q t v w
theorem Bj{p1 p2 p3:q->t->Prop}{g:Prop}(h:p0/\X2 λa c=>A3 (p1 a c) (p2 a c)<|p3 a c) (k:p0->∀a c,p1 a c->p2 a c->p3 a c->g):g:=by obtain⟨d,e,l,m,n,p⟩:=h;exact k d e l m n p
theorem Kn{p0:m->n->Prop}{g:Prop}(h:∃a c,p0 a c) (k:∀a c,p0 a c->g):g:=by obtain⟨d,e,l⟩:=h;exact k d e l
theorem Ep{p0 p1 p2 p3 p4 p5 p6:t->Prop}{g:Prop}(h:∃a,p0 a/\p1 a/\p2 a/\p3 a/\p4 a/\p5 a/\p6 a) (k:∀a,p0 a->p1 a->p2 a->p3 a->p4 a->p5 a->p6 a->g):g:=by obtain⟨c,d,e,l,m,n,p,q⟩:=h;exact k c d e l m n p q
theorem Er{p0 p1 p2 p3 p4 p5 p6:t->Prop}{g:Prop}(h:∃a,A7 (p0 a) (p1 a) (p2 a) (p3 a) (p4 a) (p5 a)<|p6 a) (k:∀a,p0 a->p1 a->p2 a->p3 a->p4 a->p5 a->p6 a->g):g:=by obtain⟨c,d,e,l,m,n,p,q⟩:=h;exact k c d e l m n p q
theorem Et{p0 p1:w->x->z->A->B->Prop}{g:Prop}(h:X5 λa c d x3 e=>A2 (p0 a c d x3 e)<|p1 a c d x3 e) (k:∀a c d x3 e,p0 a c d x3 e->p1 a c d x3 e->g):g:=by obtain⟨l,m,n,p,q,t,v⟩:=h;exact k l m n p q t v
theorem Eu{p2:Prop}{p3 p4:t->v->Prop}{g:Prop}(h:p0/\p1/\p2/\X2 λa c=>A2 (p3 a c)<|p4 a c) (k:p0->p1->p2->∀a c,p3 a c->p4 a c->g):g:=by obtain⟨d,e,l,m,n,p,q⟩:=h;exact k d e l m n p q
theorem Ew{p0 p1 p2 p3 p4 p5 p6:A->B->C->D->Prop}{g:Prop}(h:X4 λa c d x3=>A7 (p0 a c d x3) (p1 a c d x3) (p2 a c d x3) (p3 a c d x3) (p4 a c d x3) (p5 a c d x3)<|p6 a c d x3) (k:∀a c d x3,p0 a c d x3->p1 a c d x3->p2 a c d x3->p3 a c d x3->p4 a c d x3->p5 a c d x3->p6 a c d x3->g):g:=by obtain⟨l,m,n,p,q,t,v,w,x,z,e⟩:=h;exact k l m n p q t v w x z e
theorem Ex{p0 p1 p2 p3 p4:x->z->A->B->Prop}{g:Prop}(h:∃a c d x3,p0 a c d x3/\p1 a c d x3/\p2 a c d x3/\p3 a c d x3/\p4 a c d x3) (k:∀a c d x3,p0 a c d x3->p1 a c d x3->p2 a c d x3->p3 a c d x3->p4 a c d x3->g):g:=by obtain⟨e,l,m,n,p,q,t,v,w⟩:=h;exact k e l m n p q t v w
theorem Ko{p0:d->Prop}{p1 p2:d->q->Prop}{g:Prop}(h:∃a,p0 a/\(∃c,p1 a c/\p2 a c)) (k:∀a,p0 a->∀c,p1 a c->p2 a c->g):g:=by obtain⟨e,l,m,n,p⟩:=h;exact k e l m n p
theorem bR{a:c}{p:Prop}(h:a∈([]:List c)):p:=(c_ h).elim
theorem bU{p0 p1:e->Prop}(a)(c:p0 a)(d:p1 a):∃a,p0 a/\p1 a:=⟨a,c,d⟩
theorem k_{p0 p1 p2:m->n->Prop}(a c)(d:p0 a c)(e:p1 a c)(l:p2 a c):X2 λa c=>A3 (p0 a c) (p1 a c) (p2 a c):=⟨a,c,d,e,l⟩
theorem qB{p0 p1 p2:l->Prop}(a)(c:p0 a)(d:p1 a)(e:p2 a):∃a,p0 a/\p1 a/\p2 a:=⟨a,c,d,e⟩
theorem sS{p0 p1 p2:m->n->Prop}(a c)(d:p0 a c)(e:p1 a c)(l:p2 a c):∃a c,p0 a c/\p1 a c/\p2 a c:=⟨a,c,d,e,l⟩
theorem sU{p0 p1 p2 p3 p4 p5 p6:t->v->Prop}(a c)(d:p0 a c)(e:p1 a c)(l:p2 a c)(m:p3 a c)(n:p4 a c)(p:p5 a c)(q:p6 a c):X2 λa c=>A7 (p0 a c) (p1 a c) (p2 a c) (p3 a c) (p4 a c) (p5 a c) (p6 a c):=⟨a,c,d,e,l,m,n,p,q⟩
theorem uW{p0 p1:l->m->Prop}(a c)(d:p0 a c)(e:p1 a c):∃a c,p0 a c/\p1 a c:=⟨a,c,d,e⟩
theorem uX{p0 p1 p2 p3:m->Prop}(a)(c:p0 a)(d:p1 a)(e:p2 a)(l:p3 a):∃a,p0 a/\p1 a/\p2 a/\p3 a:=⟨a,c,d,e,l⟩
theorem uY{p0 p1 p2:l->Prop}(a)(c:p0 a)(d:p1 a)(e:p2 a):∃a,A3 (p0 a) (p1 a) (p2 a):=⟨a,c,d,e⟩
theorem Kq{p0 p1 p2 p3:p->q->t->v->Prop}(a c d x3)(e:p0 a c d x3)(l:p1 a c d x3)(m:p2 a c d x3)(n:p3 a c d x3):X4 λa c d x3=>A4 (p0 a c d x3) (p1 a c d x3) (p2 a c d x3) (p3 a c d x3):=⟨a,c,d,x3,e,l,m,n⟩
theorem yp{p0 p1 p2:n->p->q->Prop}(a c d)(e:p0 a c d)(l:p1 a c d)(m:p2 a c d):X3 λa c d=>A3 (p0 a c d) (p1 a c d) (p2 a c d):=⟨a,c,d,e,l,m⟩
theorem yq{p1 p2:l->Prop}(c:p0)(a)(d:p1 a)(e:p2 a):p0/\(∃a,p1 a/\p2 a):=⟨c,a,d,e⟩
theorem yr{p0 p1:l->m->Prop}(a c)(d:p0 a c)(e:p1 a c):X2 λa c=>A2 (p0 a c) (p1 a c):=⟨a,c,d,e⟩
theorem yu{p0 p1 p2 p3:p->q->t->Prop}(a c d)(e:p0 a c d)(l:p1 a c d)(m:p2 a c d)(n:p3 a c d):X3 λa c d=>A4 (p0 a c d) (p1 a c d) (p2 a c d) (p3 a c d):=⟨a,c,d,e,l,m,n⟩
theorem yw{p0:d->Prop}{p1:d->m->Prop}(a)(e:p0 a)(c)(l:p1 a c):∃a,p0 a/\(∃c,p1 a c):=⟨a,e,c,l⟩
theorem Bk{p0 p1 p2 p3:m->Prop}(a)(c:p0 a)(d:p1 a)(e:p2 a)(l:p3 a):∃a,A4 (p0 a) (p1 a) (p2 a) (p3 a):=⟨a,c,d,e,l⟩
theorem sV{x c:Nat}(h:x≠c):¬((x:Nat):Int)=(c:Nat):=λe=>h<|hZ.mp e
theorem Kr{p:Prop}(h:c<x)(e:((x:Nat):Int)<=(c:Nat)):p:=absurd (AI.mp e)<|RJ h
theorem Ey{p:Prop}(h:x<=c)(e:((x:Nat):Int)>(c:Nat)):p:=absurd (fT.mp e)<|ve h
theorem Ks{p:Prop}(h:x<c)(e:((x:Nat):Int)≥(c:Nat)):p:=absurd (AI.mp e)<|RJ h
theorem uZ(n:Nat):((n+1:Nat):Int)-1=(n:Nat):=Int.add_sub_cancel (n:Int) 1
theorem yx{n:Nat}(h:1<=n):((n:Nat):Int)-1=((n-1:Nat):Int):=(aGV h).symm
theorem Kt{n i:Nat}(h:i<=n):((n:Nat):Int)-(i:Nat)=((n-i:Nat):Int):=(aGV h).symm
theorem VH{i:Nat}(h:i<2):i=0\/i=1:=match i,h with|0,_=>.inl rfl|1,_=>.inr rfl
theorem ui{k l i:Nat}(c:l<k\/k+6<=l)(h:i<6:=by decide):k+i≠l:=λe=>c.elim (λc=>absurd c<|ve<|e▸jZ k i) λc=>absurd (DM h k)<|ve<|e▸c
theorem yy{k l i:Nat}(c:l<k\/k+6<=l)(h:i<6:=by decide):l≠k+i:=λe=>ui c h e.symm
theorem Ku(n:Nat):(-1:Int)+((n+1:Nat):Int)=(n:Nat):=by omega
theorem Ez(n:Nat):(-1:Int)<=(n:Nat):=Hr (by decide)<|j1 n
theorem yz(h:0<=m){k:Int}(e:k<=0:=by decide):k<=m:=Hr e h
theorem ww(h:m<1000000){k:Int}(e:1000000<=k:=by decide):m<k:=RK h e
end Mine
end
local macro_rules | `(tactic| omega) => `(tactic| first | lia | omega (config := {}))
local macro_rules
  | `(tactic| rw [$h:term]) => `(tactic| first | (refine Mine.aD $h ?_; try (with_reducible rfl)) | (refine Mine.aD ($h ..) ?_; try (with_reducible rfl)) | (rewrite [$h:term]; try (with_reducible rfl)))
  | `(tactic| rw [← $h:term]) => `(tactic| first | (refine Mine.aF $h ?_; try (with_reducible rfl)) | (refine Mine.aF ($h ..) ?_; try (with_reducible rfl)) | (rewrite [← $h:term]; try (with_reducible rfl)))
  | `(tactic| rw [$h:term, $rs,*]) => `(tactic| ((first | refine Mine.aD $h ?_ | refine Mine.aD ($h ..) ?_ | rewrite [$h:term]); rw [$rs,*]))
  | `(tactic| rw [← $h:term, $rs,*]) => `(tactic| ((first | refine Mine.aF $h ?_ | refine Mine.aF ($h ..) ?_ | rewrite [← $h:term]); rw [$rs,*]))
local macro_rules
  | `(tactic| rw [$e:term] at $h:ident) => `(tactic| first | (replace $h := $e ▸ $h) | (rewrite [$e:term] at $h:ident; try (with_reducible rfl)))
  | `(tactic| rw [$e:term, $rs,*] at $h:ident) => `(tactic| ((first | (replace $h := $e ▸ $h) | rewrite [$e:term] at $h:ident); rw [$rs,*] at $h:ident))
section
namespace Mine
open PySem
set_option tactic.hygienic false
set_option backward.match.sparseCases false
inductive V where
 |o
 |n (b:Bool)
 |d (i:Int)
 |k (s:List Nat)
 |j (l:Nat)
 |A (a:Nat)
 |w
 |r (h t:V)
 deriving Inhabited
noncomputable def V.q:V->V->Bool:=V.rec (motive:=λ_=>V->Bool)
 (V.rec (motive:=λ_=>Bool) true (λ_=>false) (λ_=>false) (λ_=>false) (λ_=>false) (λ_=>false) false λ_ _ _ _=>false)
 (λb=>V.rec (motive:=λ_=>Bool) false (λc=>b==c) (λ_=>false) (λ_=>false) (λ_=>false) (λ_=>false) false λ_ _ _ _=>false)
 (λb=>V.rec (motive:=λ_=>Bool) false (λ_=>false) (λc=>aJ<|b=c) (λ_=>false) (λ_=>false) (λ_=>false) false λ_ _ _ _=>false)
 (λb=>V.rec (motive:=λ_=>Bool) false (λ_=>false) (λ_=>false) (λc=>aJ<|b=c) (λ_=>false) (λ_=>false) false λ_ _ _ _=>false)
 (λb=>V.rec (motive:=λ_=>Bool) false (λ_=>false) (λ_=>false) (λ_=>false) (λc=>b==c) (λ_=>false) false λ_ _ _ _=>false)
 (λb=>V.rec (motive:=λ_=>Bool) false (λ_=>false) (λ_=>false) (λ_=>false) (λ_=>false) (λc=>b==c) false λ_ _ _ _=>false)
 (V.rec (motive:=λ_=>Bool) false (λ_=>false) (λ_=>false) (λ_=>false) (λ_=>false) (λ_=>false) true λ_ _ _ _=>false)
 (λ_ _ f g=>V.rec (motive:=λ_=>Bool) false (λ_=>false) (λ_=>false) (λ_=>false) (λ_=>false) (λ_=>false) false λx y _ _=>f x&&g y)
theorem V.G(a:V):a.q a=true:=by
 induction a with
 |o=>rfl|w=>rfl|n b=>exact beq_self_eq_true b|d i=>exact decide_eq_true rfl|k s=>exact decide_eq_true rfl|j l=>exact beq_self_eq_true l|A a=>exact beq_self_eq_true a|r h t f g=>exact bi.mpr ⟨f,g⟩
theorem V.H(a:V):∀b,a.q b=true->a=b:=by
 induction a with
 |o=>intro b;induction b<;>first|exact λ_=>rfl|exact λh=>ft h
 |w=>intro b;induction b<;>first|exact λ_=>rfl|exact λh=>ft h
 |n b=>intro c;induction c<;>first|exact λh=>congrArg V.n (oT h)|exact λh=>ft h
 |d b=>intro c;induction c<;>first|exact λh=>congrArg V.d (of_decide_eq_true h)|exact λh=>ft h
 |k b=>intro c;induction c<;>first|exact λh=>congrArg V.k (of_decide_eq_true h)|exact λh=>ft h
 |j b=>intro c;induction c<;>first|exact λh=>congrArg V.j (oT h)|exact λh=>ft h
 |A b=>intro c;induction c<;>first|exact λh=>congrArg V.A (oT h)|exact λh=>ft h
 |r x y f g=>intro c;induction c<;>first|exact λh=>congr (congrArg V.r<|f _ (bi.mp h).1) (g _ (bi.mp h).2)|exact λh=>ft h
noncomputable instance:DecidableEq V:=λa b=>decidable_of_iff (a.q b=true) ⟨V.H a b,λe=>e▸V.G a⟩
noncomputable def V.m:List V->V|[]=>.w|v::a=>.r v<|V.m a
noncomputable def V.z:V->Option (List V)|.w=>J []|.r h t=>t.z.map (h::·)|_=>aA
noncomputable def V.u:V->Bool|.d _=>true|.k s=>s.all (· <1114112)|.w=>true|.r h t=>h.u&&t.u&&(match t with|.w=>true|.r ..=>true|_=>false)|_=>false
noncomputable def V.D:V->Nat|.w=>1|.r h t=>max (h.D+1) t.D|_=>0
noncomputable def V.p(v:V):Bool:=v.u&&aJ (v.D<=8)
noncomputable def V.E:V->Bool|.w=>true|.r _ t=>t.E|_=>false
noncomputable def V.B(v:V):Bool:=v.p&&v.E
inductive O where
 |a (vs:List V)
 |d (es:List (Int×V))
 |e (es:List (V×V))
 |b (c:Nat) (fs:List (Nat×V))
 |f (vs:List V)
 deriving Inhabited
noncomputable abbrev Hp:=List O
noncomputable abbrev aS:=List<|Option V
inductive lO where|a|c|g|f|e|b|d
 deriving DecidableEq
inductive tF where|c|d|f|g|h|e|b|a
 deriving DecidableEq
inductive DK where|i|t
 deriving DecidableEq
set_option genInjectivity false in
set_option genCtorIdx false in
inductive Tg where
 |a (i:Nat)
 |c (is:List Nat)
set_option genInjectivity false in
set_option genCtorIdx false in
mutual
inductive E where
 |h (v:V)
 |q (k:Nat) (v:V)
 |K (k:Nat) (a:Nat)
 |g (i:Nat)
 |l (e:E) (a:Nat)
 |p (e i:E)
 |I (e:E)
 |R (e:E)
 |L (e:E)
 |S (e n:E)
 |s (o:lO) (a b:E)
 |C (e:E)
 |U (e:E)
 |B (e:E)
 |w (o:tF) (a b:E)
 |D (e:E)
 |M (e:E)
 |H (a b:E)
 |N (a b:E)
 |F (c a b:E)
 |r (es:Es)
 |u (es:Es)
 |A (k:DK)
 |W (es:Es) (n:E)
 |X (es:Es) (n:E)
 |j (f:Nat) (es:Es)
 |J (c:Nat) (es:Es)
 |G (e:E) (m:Nat) (es:Es)
 |y (e x:E)
 |Y (e:E)
 |P (e k d:E)
 |z (e:E)
 |Q (e:E)
 |T (e:E)
 |Z (e:E)
 |O (kM:E) (t:Tg) (it:E)
 |aa (kM:E) (t:Tg) (it c:E)
 |ab
inductive Es where
 |nil
 |cons (e:E) (es:Es)
end
set_option genInjectivity false in
set_option genCtorIdx false in
inductive It where
 |e (e:E)
 |c (a:E)
 |f (a b:E)
 |d (a b:E)
set_option genInjectivity false in
set_option genCtorIdx false in
mutual
inductive S where
 |j (e:E)
 |d (i:Nat) (e:E)
 |r (i:Nat) (kM:E) (t:Tg) (it:E)
 |s (is:List Nat) (e:E)
 |k (o:E) (a:Nat) (e:E)
 |m (o i e:E)
 |p (i:Nat) (op:lO) (e:E)
 |f (c:E) (a b:Ss)
 |n (c:E) (b:Ss)
 |l (t:Tg) (it:It) (b:Ss)
 |g (e:E)
 |q
 |h
inductive Ss where
 |nil
 |cons (s:S) (ss:Ss)
end
noncomputable def oI(n:Nat)(i:Int):Option Nat:=
 if 0<=i then(if i<n then J i.toNat else aA)else(if 0<=i+n then J (i+n).toNat else aA)
noncomputable def gK(es:List<|V×V)(k:V):Option V:=(es.find? λe=>aJ<|e.1=k).map (·.2)
noncomputable def d9(es:List<|Int×V)(k:Int):Option V:=(es.find? λe=>aJ<|e.1=k).map (·.2)
noncomputable def ik(es:List<|V×V)(k v:V):List (V×V):=
 if(gK es k).isSome then es.map (λe=>if e.1=k then(e.1,v)else e)else es++[(k,v)]
noncomputable def fR(es:List<|Int×V)(k:Int)(v:V):List (Int×V):=
 if(d9 es k).isSome then es.map (λe=>if e.1=k then(e.1,v)else e)else es++[(k,v)]
structure rF where
 b:Nat->Nat->Option Nat
 c:Nat->Option Nat
 a:Nat->List (Int×Int)
 d:Nat->Nat->Bool
noncomputable def mE(es:List<|Int×Int)(k:Int):Option Int:=(es.find? λe=>aJ<|e.1=k).map (·.2)
noncomputable def mx{a:Type}(k:V)(f:Int->Option a):Option a:=match k with|.d i=>f i|_=>aA
theorem pL(e:mx k f=J x):∃i,k=.d i/\f i=J x:=by
 induction k with
 |d i=>exact⟨i,rfl,e⟩|_=>exact aX e
theorem io{c:Type}{p:Prop} [Decidable p]{a:Option c}{x:c}(e:(if p then a else aA)=J x):p/\a=J x:=by
 by_cases h:p;·rw [if_pos h]at e;exact⟨h,e⟩
 rw [if_neg h]at e;exact aX e
theorem lP{a c:Type}{o:Option a}{f:a->Option c}{x:c}(e:o.bind f=J x):∃y,o=J y/\f y=J x:=by
 induction o with
 |some y=>exact bU y rfl e|none=>exact aX e
noncomputable def zY(o:O)(k:V):Option V:=match o with|.a a=>mx k λi=>if 0<=i/\i<1000000 then a[i.toNat]? else aA|.d es=>mx k<|d9 es|.e es=>if k.B then gK es k else aA|_=>aA
theorem aCC(c:0<=i/\i<1000000):zY (.a a) (.d i)=a[i.toNat]?:=if_pos c
noncomputable def zZ(v:V)(i:Int):Option V:=if 0<=i/\i<1000000 then v.z.bind λa=>a[i.toNat]? else aA
theorem aCD(c:0<=i/\i<1000000):zZ v i=v.z.bind λa=>a[i.toNat]?:=if_pos c
noncomputable def Nm(s:List Nat)(i:Int):Option V:=if s.length<1000000 then(oI s.length i).bind λj=>(s[j]?).map λc=>.k [c]else aA
noncomputable def oJ(T:rF)(h:Hp)(v k:V):Option V:=match v with|.j l=>(h[l]?).bind λo=>zY o k|.A a=>mx k λi=>(mE (T.a a) i).map .d|.k s=>mx k<|Nm s|v=>mx k<|zZ v
theorem aCE:mx (.d i) f=f i:=rfl
theorem aCF:oJ T h (.r x y) (.d i)=zZ (.r x y) i:=aCE (f:=zZ<|.r x y)
theorem GY(e:h[l]?=J o):oJ T h (.j l) k=zY o k:=by refine(?_:(h[l]?).bind (λo=>zY o k)=_);rw [e];rfl
theorem f0(e:o=J y):o.bind f=f y:=by rw [e];rfl
noncomputable def C6(k x:V)(o:O):Option V:=match o with|.d es=>mx k λi=>J<|(d9 es i).getD x|.e es=>if k.B then J ((gK es k).getD x)else aA|_=>aA
theorem No(h:k.B=true):C6 k x (.e es)=J ((gK es k).getD x):=if_pos h
noncomputable def rG(T:rF)(h:Hp)(d k x:V):Option V:=match d with|.j l=>(h[l]?).bind<|C6 k x|.A a=>mx k λi=>J<|((mE (T.a a) i).map V.d).getD x|_=>aA
noncomputable def Np(o:O):Option DK:=match o with|.d _=>J .i|.e _=>J .t|_=>aA
noncomputable def tG(h:Hp)(v:V):Option DK:=match v with|.j l=>(h[l]?).bind Np|.A _=>J .i|_=>aA
noncomputable def qL(o:O)(k v:V):Option O:=match o with|.a a=>mx k λi=>if 0<=i/\i<1000000/\i<a.length then J (.a<|a.set i.toNat v)else aA|.d es=>mx k λi=>if es.length<1000000 then J (.d<|fR es i v)else aA|.e es=>if k.B&&aJ (es.length<1000000)then J (.e<|ik es k v)else aA|_=>aA
theorem aCG(c:0<=i/\i<1000000/\i<a.length):qL (.a a) (.d i) v=J (.a<|a.set i.toNat v):=if_pos c
noncomputable def GZ(h:Hp)(d k v:V):Option Hp:=match d with|.j l=>(h[l]?).bind λo=>(qL o k v).map λo=>h.set l o|_=>aA
noncomputable def lQ(c:List<|Nat×V)(a:Nat)(v:V):List (Nat×V):=match c with|[]=>[(a,v)]|(b,x)::r=>if b=a then(b,v)::r else(b,x)::lQ r a v
noncomputable def aCH(T:rF)(a:Nat)(v:V)(o:O):Option O:=match o with|.b c d=>if T.d c a then J (.b c<|lQ d a v)else aA|_=>aA
noncomputable def G0(T:rF)(h:Hp)(d:V)(a:Nat)(v:V):Option Hp:=match d with|.j l=>(h[l]?).bind λo=>(aCH T a v o).map λo=>h.set l o|_=>aA
noncomputable def aCI(a:Nat)(o:O):Option V:=match o with|.b _ c=>c.lookup a|_=>aA
noncomputable def Gc(h:Hp)(d:V)(a:Nat):Option V:=match d with|.j l=>(h[l]?).bind<|aCI a|_=>aA
noncomputable def aCJ(a b:Int):lO->Option V|.a=>J<|.d<|a+b|.c=>J<|.d<|a-b|.g=>if 0<=a/\a<1000000000 then J (.d<|a*b)else aA|.f=>if 0<b/\b<1000000000 then J (.d<|a.fdiv b)else aA|.e=>if 0<b/\b<1000000000 then J (.d<|a.fmod b)else aA|.b=>J<|.d<|aHg a b|.d=>J<|.d<|aHh a b
noncomputable def aCK(a b:List Nat):lO->Option V|.a=>if a.length+b.length<1000000 then J (.k<|a++b)else aA|_=>aA
noncomputable def mF(q:lO)(a b:V):Option V:=match a with|.d i=>(match b with|.d j=>aCJ i j q|_=>aA)|.k s=>(match b with|.k t=>aCK s t q|_=>aA)|_=>aA
noncomputable def za(f:Int->Int->Bool)(a b:V):Option Bool:=match a with|.d i=>(match b with|.d j=>J (f i j)|_=>aA)|_=>aA
theorem C7(e:za f a b=J t):∃i j,a=.d i/\b=.d j/\f i j=t:=by
 induction a with
 |d i=>induction b with|d j=>exact sS i j rfl rfl (ao e)|_=>exact aX e
 |_=>exact aX e
noncomputable def rH(a c:List<|Int×V):Bool:=a.length==c.length&&a.all λe=>d9 c e.1==J e.2
noncomputable def rI(a c:List<|V×V):Bool:=a.length==c.length&&a.all λe=>gK c e.1==J e.2
noncomputable def tH(o p:O):Option Bool:=match o with
 |.a a=>(match p with
  |.a c=>if a.all V.p&&c.all V.p then J (aJ<|a=c)else aA
  |_=>aA)
 |.d a=>(match p with
  |.d c=>if a.all (·.2.p)&&c.all (·.2.p)then J (rH a c)else aA
  |_=>aA)
 |.e a=>(match p with
  |.e c=>if a.all (·.2.p)&&c.all (·.2.p)then J (rI a c)else aA
  |_=>aA)
 |_=>aA
theorem Nq(h:a.all V.p=true)(g:c.all V.p=true):tH (.a a) (.a c)=J (aJ<|a=c):=if_pos<|bi.mpr ⟨h,g⟩
theorem aCL(h:a.all (·.2.p)=true)(g:c.all (·.2.p)=true):tH (.d a) (.d c)=J (rH a c):=if_pos<|bi.mpr ⟨h,g⟩
theorem aCM(h:a.all (·.2.p)=true)(g:c.all (·.2.p)=true):tH (.e a) (.e c)=J (rI a c):=if_pos<|bi.mpr ⟨h,g⟩
noncomputable def C8(a b:V):Option Bool:=if a.p&&b.p then J (aJ<|a=b)else aA
noncomputable def oK(h:Hp)(a b:V):Option Bool:=match a with
 |.j l=>(match b with
  |.j r=>(h[l]?).bind λo=>(h[r]?).bind λp=>tH o p
  |b=>C8 (.j l) b)
 |a=>C8 a b
theorem aCN(e:oK h a b=J t):(∃l r o p,a=.j l/\b=.j r/\h[l]?=J o/\h[r]?=J p/\tH o p=J t)\/C8 a b=J t:=by
 induction a with
 |j l=>induction b with|j r=>refine aG (lP e) λo c e=>aG (lP e) λp d e=>.inl ⟨l,r,o,p,rfl,rfl,c,d,e⟩|_=>exact .inr e
 |_=>exact .inr e
noncomputable def mG(x:V)(o:O):Option Bool:=match o with|.a a=>if x.p&&a.all V.p then J (aJ<|x∈a)else aA|.d es=>mx x λi=>J (d9 es i).isSome|.e es=>if x.B then J (gK es x).isSome else aA|_=>aA
theorem Nr(h:x.B=true):mG x (.e es)=J (gK es x).isSome:=if_pos h
theorem zb(h:x.p=true)(g:a.all V.p=true):mG x (.a a)=J (aJ<|x∈a):=if_pos<|bi.mpr ⟨h,g⟩
noncomputable def Nt(s:List Nat)(x:V):Option Bool:=match x with|.k [c]=>J (aJ<|c∈s)|_=>aA
noncomputable def Ge(T:rF)(h:Hp)(x c:V):Option Bool:=match c with|.j l=>(h[l]?).bind<|mG x|.A a=>mx x λi=>J (mE (T.a a) i).isSome|.k s=>Nt s x|_=>aA
noncomputable def eK(T:rF)(h:Hp):tF->V->V->Option Bool|.c,a,b=>oK h a b|.d,a,b=>(oK h a b).map (!·)|.b,a,b=>Ge T h a b|.a,a,b=>(Ge T h a b).map (!·)|.f,a,b=>za (λa b=>aJ<|a<b) a b|.g,a,b=>za (λa b=>aJ<|a<=b) a b|.h,a,b=>za (λa b=>aJ<|a>b) a b|.e,a,b=>za (λa b=>aJ<|a≥b) a b
noncomputable def Nu(o:O):Option Bool:=match o with|.a a=>if a.length<1000000 then J (!a.isEmpty)else aA|_=>aA
noncomputable def oL(h:Hp)(v:V):Option Bool:=match v with|.o=>J false|.n b=>J b|.d i=>J<|aJ<|i≠0|.j l=>(h[l]?).bind Nu|_=>aA
noncomputable def Nv(o:O):Option Nat:=match o with|.a a=>J a.length|.d es=>J es.length|.e es=>J es.length|_=>aA
noncomputable def xW(h:Hp)(v:V):Option Nat:=match v with|.j l=>(h[l]?).bind Nv|.k s=>J s.length|v=>v.z.map (·.length)
noncomputable def C9(o:O):Option (List V):=match o with|.a a=>J a|.f a=>J a|_=>aA
noncomputable def xX(h:Hp)(v:V):Option (List V×Option Nat):=match v with|.j l=>(h[l]?).bind λo=>(C9 o).map λa=>(a,J l)|.k s=>J (s.map λc=>.k [c],aA)|v=>v.z.map λa=>(a,aA)
noncomputable def aCO(a:List V):Option (List V):=if a.length<1000000 then J a else aA
noncomputable def m_(h:Hp)(v:V):Option (List V):=match v with|.j l=>(h[l]?).bind λo=>(C9 o).bind aCO|_=>aA
set_option genInjectivity false in
set_option genCtorIdx false in
inductive Fl where
 |a|c
 |b (v:V)
noncomputable def fS(h:Hp):Option Nat->List V->Prop|Option.none,_=>True|some l,a=>h[l]?=J (.a a)\/h[l]?=J (.f a)
noncomputable def jx(g:Hp->Prop)(body:V->aS->Hp->(Fl->aS->Hp->Prop)->Prop):List V->aS->Hp->(Fl->aS->Hp->Prop)->Prop|[],G,h,Q=>g h/\Q .a G h|v::d,G,h,Q=>g h/\body v G h λfl a c=>match fl with|.b r=>Q (.b r) a c|_=>jx g body d a c Q
noncomputable def Ca(c:aS->Hp->(Bool->Hp->Prop)->Prop)(body:aS->Hp->(Fl->aS->Hp->Prop)->Prop):Nat->aS->Hp->(Fl->aS->Hp->Prop)->Prop
 |0,_,_,_=>False|n+1,G,h,Q=>c G h λt d=>if t then body G d λfl a e=>match fl with
   |.b r=>Q (.b r) a e|_=>Ca c body n a e Q
  else Q .a G d
def zc(o:lO)(x y:V)(h:Hp)(Q:V->Hp->Prop):Prop:=∃v,mF o x y=J v/\Q v h
def xY(o:lO)(x y:V)(h:Hp)(Q:V->Hp->Prop):Prop:=match o with
 |.a=>(match x with
  |.j l=>(match y with
   |.j r=>∃a c,h[l]?=J (.a a)/\h[r]?=J (.a c)/\a.length+c.length<1000000/\Q (.j h.length) (h++[.a<|a++c])
   |y=>zc .a (.j l) y h Q)
  |x=>zc .a x y h Q)
 |o=>zc o x y h Q
theorem Ny(w:xY o x y h Q):(∃l r a c,o=.a/\x=.j l/\y=.j r/\h[l]?=J (.a a)/\h[r]?=J (.a c)/\a.length+c.length<1000000/\Q (.j h.length) (h++[.a<|a++c]))\/zc o x y h Q:=by
 induction o with
 |a=>induction x with
  |j l=>induction y with|j r=>refine Kn w λa c w=>.inl ⟨l,r,a,c,rfl,rfl,rfl,w⟩|_=>exact .inr w
  |_=>exact .inr w
 |_=>exact .inr w
theorem Nz(w:zc o x y h Q):xY o x y h Q:=by
 induction o with
 |a=>induction x with
  |j l=>induction y with|j r=>refine aG w λv e _=>aX e|_=>exact w
  |_=>exact w
 |_=>exact w
noncomputable def qM:List Nat->List V->aS->Option aS|[],[],G=>J G|i::a,v::c,G=>qM a c<|G.set i<|J v|_,_,_=>aA
noncomputable def Tg.b(t:Tg)(v:V)(G:aS):Option aS:=match t with|.a i=>J<|G.set i<|J v|.c d=>v.z.bind λe=>qM d e G
noncomputable abbrev fE:=Nat->List V->Hp->(V->Hp->Prop)->Prop
noncomputable def iT(l:List Int):List V:=l.map V.d
noncomputable def pM(a b:Int):List Int:=(cF (b-a).toNat).map λk:Nat=>a+(k:Int)
noncomputable def pN(a b:Int):List Int:=(cF (a-b).toNat).map λk:Nat=>a-(k:Int)
section
variable(C:fE)(T:rF)
mutual
noncomputable def cK:E->aS->Hp->(V->Hp->Prop)->Prop
 |.h v,_,h,Q=>Q v h|.q _ v,_,h,Q=>Q v h|.K _ a,_,h,Q=>Q (.A a) h|.g i,G,h,Q=>∃v,G[i]?=J (J v)/\Q v h|.l e a,G,h,Q=>cK e G h λv h=>∃x,Gc h v a=J x/\Q x h|.p e i,G,h,Q=>cK e G h λv h=>cK i G h λk h=>∃x,oJ T h v k=J x/\Q x h|.I e,G,h,Q=>cK e G h λv h=>match v with|.k s=>s.length<1000000/\Q (.k s.reverse) h|v=>∃p,m_ h v=J p/\Q (.j h.length) (h++[.a p.reverse])
 |.R e,G,h,Q=>cK e G h λv h=>∃s,v=.k s/\s≠[]/\s.length<1000000/\Q (.k s.dropLast) h|.L e,G,h,Q=>cK e G h λv h=>∃s,v=.k s/\s≠[]/\s.length<1000000/\Q (.k s.tail) h|.S e n,G,h,Q=>cK e G h λv h=>cK n G h λk h=>∃p i,m_ h v=J p/\k=.d i/\0<=i/\i<1000000/\Q (.j h.length) (h++[.a<|p.take i.toNat])|.s o a b,G,h,Q=>cK a G h λx h=>cK b G h λy h=>xY o x y h Q|.C e,G,h,Q=>cK e G h λv h=>∃i,v=.d i/\Q (.d<|-i) h|.U e,G,h,Q=>cK e G h λv h=>∃i,v=.d i/\Q (.d<|aHi i) h|.B e,G,h,Q=>cK e G h λv h=>∃b,oL h v=J b/\Q (.n<|!b) h|.w o a b,G,h,Q=>cK a G h λx h=>cK b G h λy h=>∃r,eK T h o x y=J r/\Q (.n r) h|.D e,G,h,Q=>cK e G h λv h=>Q (.n<|aJ<|v=.o) h|.M e,G,h,Q=>cK e G h λv h=>Q (.n<|!aJ (v=.o)) h|.H a b,G,h,Q=>cK a G h λx h=>∃t,oL h x=J t/\if t then cK b G h Q else Q x h|.N a b,G,h,Q=>cK a G h λx h=>∃t,oL h x=J t/\if t then Q x h else cK b G h Q|.F c a b,G,h,Q=>jm c G h λt h=>if t then cK a G h Q else cK b G h Q|.r es,G,h,Q=>pO es G h λp h=>Q (V.m p) h|.u es,G,h,Q=>pO es G h λp h=>Q (.j h.length)<|h++[.a p]|.A .i,_,h,Q=>Q (.j h.length)<|h++[.d []]|.A .t,_,h,Q=>Q (.j h.length)<|h++[.e []]|.W es n,G,h,Q=>pO es G h λp h=>cK n G (h++[.a p]) λk q=>∃i,k=.d i/\0<=i/\i<1000/\p.length<1000/\q[h.length]?=J (.a p)/\Q (.j q.length) (q++[.a (jK i.toNat p).flatten])|.X es n,G,h,Q=>pO es G h λp h=>cK n G h λk h=>k=.d 1/\Q (V.m p) h|.j f es,G,h,Q=>pO es G h λp h=>C f p h Q|.J c es,G,h,Q=>pO es G h λp h=>∃f,T.c c=J f/\C f (.j h.length::p) (h++[.b c []]) λr q=>r=.o/\Q (.j h.length) q|.G e m es,G,h,Q=>cK e G h λv h=>∃l c H f,v=.j l/\h[l]?=J (.b c H)/\H.lookup m=aA/\T.b c m=J f/\pO es G h λp h=>C f (v::p) h Q|.y e x,G,h,Q=>cK e G h λv h=>∃l z,v=.j l/\h[l]?=J (.a z)/\cK x G h λy h=>∃p,h[l]?=J (.a p)/\p.length<1000000/\Q .o (h.set l<|.a<|p++[y])|.Y e,G,h,Q=>cK e G h λv h=>∃l p y,v=.j l/\h[l]?=J (.a<|p++[y])/\p.length<1000000/\Q y (h.set l<|.a p)|.P e k d,G,h,Q=>cK e G h λv h=>∃I,tG h v=J I/\cK k G h λk h=>cK d G h λd h=>tG h v=J I/\∃x,rG T h v k d=J x/\Q x h|.z e,G,h,Q=>cK e G h λv h=>∃n,xW h v=J n/\n<1000000/\Q (.d n) h|.Q e,G,h,Q=>cK e G h λv h=>∃p,(m_ h v=J p\/v.z=J p)/\Q (V.m p) h|.T e,G,h,Q=>cK e G h λv h=>∃p,(m_ h v=J p\/(v.z=J p/\p.length<1000000))/\Q (.j h.length) (h++[.a p])|.Z e,G,h,Q=>cK e G h λv h=>∃i,v=.d i/\0<=i/\i<10/\Q (.k [48+i.toNat]) h|.O A t D,G,h,Q=>cK D G h λv h=>∃p g,xX h v=J (p,g)/\
  jx (λh=>fS h g p) (λv G q P=>∃w,t.b v G=J w/\cK A w q λx q=>∃B,q[h.length]?=J (.a B)/\B.length<1000000/\P .a w (q.set h.length<|.a<|B++[x]))
   p G (h++[.a []]) λ_ _ q=>Q (.j h.length) q
 |.aa A t D c,G,h,Q=>cK D G h λv h=>∃p g,xX h v=J (p,g)/\
  jx (λh=>fS h g p) (λv G q P=>∃w,t.b v G=J w/\jm c w q λb q=>if b then cK A w q λx q=>∃B,q[h.length]?=J (.a B)/\B.length<1000000/\P .a w (q.set h.length<|.a<|B++[x])else P .a w q)
   p G (h++[.a []]) λ_ _ q=>Q (.j h.length) q
 |.ab,_,_,_=>False
noncomputable def jm:E->aS->Hp->(Bool->Hp->Prop)->Prop|.B e,G,h,Q=>jm e G h λb h=>Q (!b) h|.H a b,G,h,Q=>jm a G h λt h=>if t then jm b G h Q else Q false h|.N a b,G,h,Q=>jm a G h λt h=>if t then Q true h else jm b G h Q|.F c a b,G,h,Q=>jm c G h λt h=>if t then jm a G h Q else jm b G h Q|.w o a b,G,h,Q=>cK a G h λx h=>cK b G h λy h=>∃r,eK T h o x y=J r/\Q r h|.D e,G,h,Q=>cK e G h λv h=>Q (aJ<|v=.o) h|.M e,G,h,Q=>cK e G h λv h=>Q (!aJ (v=.o)) h|.g i,G,h,Q=>∃v,G[i]?=J (J v)/\∃b,oL h v=J b/\Q b h|.s o a b,G,h,Q=>cK a G h λx h=>cK b G h λy h=>∃v,mF o x y=J v/\∃b,oL h v=J b/\Q b h|.j f es,G,h,Q=>pO es G h λd h=>C f d h λv h=>∃b,oL h v=J b/\Q b h|_,_,_,_=>False
noncomputable def pO:Es->aS->Hp->(List V->Hp->Prop)->Prop|.nil,_,h,Q=>Q [] h|.cons e es,G,h,Q=>cK e G h λv h=>pO es G h λa h=>Q (v::a) h
end
noncomputable def Gf:It->aS->Hp->(List V->Option Nat->Hp->Prop)->Prop|.e e,G,h,Q=>cK C T e G h λv h=>∃c g,xX h v=J (c,g)/\Q c g h|.c a,G,h,Q=>cK C T a G h λv h=>∃n,v=.d n/\0<=n/\n<1000000/\Q (iT<|pM 0 n) aA h|.f a b,G,h,Q=>cK C T a G h λv h=>cK C T b G h λx h=>∃m n,v=.d m/\x=.d n/\0<=m/\m<1000000/\0<=n/\n<1000000/\Q (iT<|pM m n) aA h|.d a b,G,h,Q=>cK C T a G h λv h=>cK C T b G h λx h=>∃m n,v=.d m/\x=.d n/\-1<=m/\m<1000000/\-1<=n/\n<1000000/\Q (iT<|pN m n) aA h
mutual
noncomputable def Gg:S->aS->Hp->(Fl->aS->Hp->Prop)->Prop|.j e,G,h,Q=>cK C T e G h λ_ h=>Q .a G h|.d i e,G,h,Q=>cK C T e G h λv h=>Q .a (G.set i<|J v) h|.r i p t q,G,h,Q=>cK C T (.O p t q) G h λv h=>Q .a (G.set i<|J v) h|.s x e,G,h,Q=>cK C T e G h λv h=>∃l,(Tg.c x).b v G=J l/\Q .a l h|.k o a e,G,h,Q=>cK C T e G h λv h=>cK C T o G h λd h=>∃m,G0 T h d a v=J m/\Q .a G m|.m o i e,G,h,Q=>cK C T e G h λv h=>cK C T o G h λd h=>cK C T i G h λk h=>∃m,GZ h d k v=J m/\Q .a G m|.p i z e,G,h,Q=>∃j:Int,G[i]?=J (J<|.d j)/\cK C T e G h λy h=>∃v,mF z (.d j) y=J v/\Q .a (G.set i<|J v) h|.f c a b,G,h,Q=>jm C T c G h λt h=>if t then oN a G h Q else oN b G h Q|.n c b,G,h,Q=>∃n,Ca (jm C T c) (oN b) n G h Q|.l t q b,G,h,Q=>Gf C T q G h λw g h=>jx (λh=>fS h g w) (λv G h A=>∃l,t.b v G=J l/\oN b l h A) w G h Q|.g e,G,h,Q=>cK C T e G h λv h=>Q (.b v) G h|.q,G,h,Q=>Q .c G h|.h,_,_,_=>False
noncomputable def oN:Ss->aS->Hp->(Fl->aS->Hp->Prop)->Prop|.nil,G,h,Q=>Q .a G h|.cons s a,G,h,Q=>Gg s G h λfl G h=>match fl with|.a=>oN a G h Q|fl=>Q fl G h
end
end
structure Fn where
 a:Nat
 c:Nat
 d:Ss
 b:List ac
noncomputable def xZ(F:Nat->Option Fn)(T:rF):Nat->fE
 |0,_,_,_,_=>False|n+1,f,a,h,Q=>∃c,F f=J c/\a.length=c.a/\
  oN (xZ F T n) T c.d (a.map J++jK (c.c-c.a) aA) h λfl _ d=>match fl with|.b v=>Q v d|_=>Q .o d
end Mine
end
section
namespace Mine
section
set_option tactic.hygienic false
section
local macro_rules
  | `([]) => `(.nil)
  | `([$x]) => `(.cons $x .nil)
  | `([$x, $xs,*]) => `(.cons $x [$xs,*])
  | `($a = $b) => `(.w .c $a $b)
  | `($a ≠ $b) => `(.w .d $a $b)
  | `($a < $b) => `(.w .f $a $b)
  | `($a ≤ $b) => `(.w .g $a $b)
  | `($a > $b) => `(.w .h $a $b)
  | `($a ≥ $b) => `(.w .e $a $b)
  | `($a || $b) => `(.N $a $b)
  | `($a && $b) => `(.H $a $b)
noncomputable def Ou:Fn:=⟨1,3,[.k (.g 0) 0<|.u [],.k (.g 0) 1<|.A .t,.k (.g 0) 2<|.u [],.k (.g 0) 3<|.u [],.k (.g 0) 4<|.u [],.l (.a 1) (.c<|.q 0<|.d 16) [.d 2<|.r [.q 1<|.d 1,.g 1],.j<|.y (.l (.g 0) 0)<|.g 2,.m (.l (.g 0) 1) (.g 2)<|.g 1,.j<|.y (.l (.g 0) 2)<|.h<|.d 1,.j<|.y (.l (.g 0) 3)<|.h<|.d 1,.j<|.y (.l (.g 0) 4)<|.h<|.d 0]],Hd.hm 50 0⟩
noncomputable def Ov:Fn:=⟨2,2,[.f ((.g 1<.h (.d 0))||(.g 1≥.z (.l (.g 0) 0))) [.h] [],.g<|.p (.l (.g 0) 0)<|.g 1],Hd.hm 50 1⟩
noncomputable def Ow:Ss:=[.d 2<|.P (.l (.g 0) 1) (.g 1)<|.C<|.h<|.d 1,.f (.g 2≥.h (.d 0)) [.g<|.g 2] [],.j<|.j 6 [.g 0,.g 1],.d 3<|.h<|.d 1,.d 4<|.h<|.d 1,.d 5<|.h<|.d 0,.f ((.p (.g 1) (.h<|.d 0)=.q 3 (.d 6))||(.p (.g 1) (.h<|.d 0)=.q 2 (.d 7))) [.d 5<|.h<|.d 1] [],.d 6<|.j 4 [.p (.g 1)<|.h<|.d 0],.l (.a 7) (.e<|.j 3 [.g 1]) [.f (.s .a (.p (.l (.g 0) 2)<|.g 7) (.g 6)>.g 3) [.d 3<|.s .a (.p (.l (.g 0) 2)<|.g 7)<|.g 6] [],.p 4 .a<|.p (.l (.g 0) 3)<|.g 7,.f (.p (.l (.g 0) 4) (.g 7)=.h (.d 1)) [.d 5<|.h<|.d 1] []],.f (.g 3>.q 4 (.d 24)) [.h] [],.f (.g 4>.q 5 (.d 4096)) [.h] [],.d 8<|.z<|.l (.g 0) 0,.j<|.y (.l (.g 0) 0)<|.g 1,.m (.l (.g 0) 1) (.g 1)<|.g 8,.j<|.y (.l (.g 0) 2)<|.g 3,.j<|.y (.l (.g 0) 3)<|.g 4,.j<|.y (.l (.g 0) 4)<|.g 5,.g<|.g 8]
noncomputable def Ox:Fn:=⟨1,2,[.d 1<|.p (.g 0)<|.h<|.d 0,.f ((.g 1=.q 7 (.d 2))||(.g 1=.q 6 (.d 3))) [.g<|.p (.g 0)<|.h<|.d 2] [],.f ((.g 1=.q 12 (.d 4))||((.g 1=.q 11 (.d 5))||((.g 1=.q 10 (.d 8))||((.g 1=.q 9 (.d 9))||(.g 1=.q 8 (.d 11)))))) [.g<|.r [.p (.g 0)<|.h<|.d 1]] [],.f (.g 1=.q 13 (.d 10)) [.h] [],.g<|.r []],Hd.h 51⟩
noncomputable def Oy:Fn:=⟨1,1,[.f ((.g 0=.q 7 (.d 2))||((.g 0=.q 6 (.d 3))||(.g 0=.q 12 (.d 4)))) [.g<|.h<|.d 1] [],.g<|.h<|.d 0],Hd.h 52⟩
noncomputable def Oz:Fn:=⟨1,1,[.f ((.g 0=.q 7 (.d 2))||(.g 0=.q 6 (.d 3))) [.g<|.h<|.d 3] [],.f (.g 0=.q 13 (.d 10)) [.h] [],.g<|.h<|.d 2],Hd.h 53⟩
noncomputable def O_:Fn:=⟨2,4,[.f ((.z (.g 1)=.h (.d 0))||((.p (.g 1) (.h<|.d 0)<=.q 1 (.d 1))||(.p (.g 1) (.h<|.d 0)>.q 8 (.d 11)))) [.h] [],.d 2<|.p (.g 1)<|.h<|.d 0,.f (.z (.g 1)≠.j 5 [.g 2]) [.h] [],.l (.a 3) (.e<|.j 3 [.g 1]) [.j<|.G (.g 0) 5 [.g 3]],.f ((.g 2=.q 7 (.d 2))||(.g 2=.q 6 (.d 3))) [.j<|.j 7 [.g 0,.g 1]] [.f ((.g 2=.q 3 (.d 6))||(.g 2=.q 2 (.d 7))) [.f (.p (.g 1) (.h<|.d 1)<.h (.d 0)) [.h] []] [.f (.g 2=.q 13 (.d 10)) [.h,.h] [.f (.g 2=.q 10 (.d 8)) [.h] [.f (.B<|.j 9 [.g 0,.p (.g 1)<|.h<|.d 1]) [.h] []]]]]],Hd.h 54⟩
noncomputable def PA:Fn:=⟨2,2,[.f ((.p (.g 1) (.h<|.d 1)<=.h (.d 0))||.w .b (.p (.g 1)<|.h<|.d 1) (.K 1 67)) [.h] [],.j<|.j 8 [.g 0,.p (.g 1)<|.h<|.d 2]],Hd.h 55⟩
noncomputable def PB:Fn:=⟨2,3,[.l (.a 2) (.e<|.g 1) [.f (.B<|.j 9 [.g 0,.g 2]) [.h] []]],Hd.h 56⟩
noncomputable def PC:Fn:=⟨2,3,[.f ((.g 1=.q 15 (.d 0))||(.g 1=.q 14 (.d 14))) [.h] [],.d 2<|.p (.G (.g 0) 5 [.g 1])<|.h<|.d 0,.g<|(.g 2<=.q 12 (.d 4))||((.g 2=.q 3 (.d 6))||(.g 2=.q 2 (.d 7)))],Hd.h 57⟩
noncomputable def PD:Fn:=⟨3,3,[.f (.w .b (.g 1)<|.K 1 67) [.h] [],.g<|.G (.g 0) 6 [.r [.q 7<|.d 2,.g 1,.g 2]]],Hd.h 58⟩
noncomputable def PE:Fn:=⟨2,2,[.g<|.G (.g 0) 6 [.r [.q 12<|.d 4,.g 1]]],Hd.h 61⟩
noncomputable def PF:Fn:=⟨2,2,[.g<|.G (.g 0) 6 [.r [.q 3<|.d 6,.g 1]]],Hd.h 62⟩
noncomputable def PG:Fn:=⟨2,2,[.g<|.p (.G (.g 0) 5 [.g 1])<|.h<|.d 0],Hd.h 63⟩
noncomputable def PH:Fn:=⟨2,3,[.d 2<|.G (.g 0) 5 [.g 1],.f ((.p (.g 2) (.h<|.d 0)=.q 7 (.d 2))||(.p (.g 2) (.h<|.d 0)=.q 6 (.d 3))) [.g<|.p (.g 2)<|.h<|.d 1] [],.f (.p (.g 2) (.h<|.d 0)=.q 1 (.d 1)) [.g<|.P (.K 0 66) (.g 1)<|.h<|.d 0] [],.h,.h],Hd.h 65⟩
noncomputable def PI:Fn:=⟨2,3,[.d 2<|.G (.g 0) 5 [.g 1],.f ((.p (.g 2) (.h<|.d 0)=.q 7 (.d 2))||(.p (.g 2) (.h<|.d 0)=.q 6 (.d 3))) [.g<|.p (.g 2)<|.h<|.d 2] [],.g<|.r []],Hd.h 66⟩
noncomputable def PJ:Fn:=⟨4,4,[.j<|.G (.g 0) 5 [.g 1],.f (.p (.l (.g 0) 4) (.g 1)=.h (.d 0)) [.g<|.g 1] [],.g<|.j 17 [.g 0,.g 1,.g 2,.g 3,.A .i]],Hd.h 69⟩
noncomputable def PK:Fn:=⟨5,8,[.f (.p (.l (.g 0) 4) (.g 1)=.h (.d 0)) [.g<|.g 1] [],.f (.w .b (.g 1)<|.g 4) [.g<|.p (.g 4)<|.g 1] [],.d 5<|.p (.l (.g 0) 0)<|.g 1,.f (.p (.g 5) (.h<|.d 0)=.q 3 (.d 6)) [.g<|.j 19 [.g 2,.p (.g 5)<|.h<|.d 1,.g 1]] [],.f (.p (.g 5) (.h<|.d 0)=.q 2 (.d 7)) [.h] [],.d 6<|.u [],.l (.a 7) (.e<|.j 3 [.g 5]) [.j<|.y (.g 6)<|.j 17 [.g 0,.g 7,.g 2,.g 3,.g 4]],.m (.g 4) (.g 1)<|.j 18 [.g 0,.g 5,.Q<|.g 6],.g<|.p (.g 4)<|.g 1],Hd.h 70⟩
noncomputable def PL:Fn:=⟨3,4,[.d 3<|.p (.g 1)<|.h<|.d 0,.f ((.g 3=.q 7 (.d 2))||(.g 3=.q 6 (.d 3))) [.g<|.G (.g 0) 6 [.r [.g 3,.p (.g 1)<|.h<|.d 1,.g 2]]] [],.f (.g 3=.q 13 (.d 10)) [.h] [],.f (.g 3=.q 10 (.d 8)) [.h] [],.g<|.G (.g 0) 6 [.r [.g 3,.p (.g 2)<|.h<|.d 0]]],Hd.h 71⟩
noncomputable def PM:Fn:=⟨3,3,[.f (.g 1<.z (.g 0)) [.g<|.p (.g 0)<|.g 1] [],.h],Hd.h 73⟩
noncomputable def PN:Fn:=⟨4,6,[.d 4<|.u [],.l (.a 5) (.e<|.g 1) [.j<|.y (.g 4)<|.j 16 [.g 0,.g 5,.g 2,.g 3]],.g<|.Q<|.g 4],Hd.h 74⟩
noncomputable def PO:Fn:=⟨8,9,[.k (.g 0) 7<|.g 1,.k (.g 0) 8<|.g 2,.k (.g 0) 9<|.g 3,.k (.g 0) 10<|.g 4,.k (.g 0) 11<|.g 5,.k (.g 0) 12<|.u [],.k (.g 0) 13<|.u [],.k (.g 0) 14<|.u [],.k (.g 0) 15<|.u [],.l (.a 8) (.e<|.g 6) [.j<|.y (.l (.g 0) 13)<|.g 8,.j<|.y (.l (.g 0) 14)<|.q 16<|.d 0,.j<|.y (.l (.g 0) 15)<|.r [.h<|.d 0,.r []]],.k (.g 0) 16<|.u [],.k (.g 0) 17<|.u [],.k (.g 0) 18<|.g 7,.k (.g 0) 19<|.h<|.d 0,.k (.g 0) 20<|.C<|.h<|.d 1,.k (.g 0) 21<|.u [],.k (.g 0) 22<|.u [],.k (.g 0) 23<|.u [],.k (.g 0) 24<|.h<|.d 0,.k (.g 0) 25<|.h<|.d 0],Hd.hm 97 0⟩
noncomputable def PP:Fn:=⟨8,8,[.k (.g 0) 26<|.g 1,.k (.g 0) 27<|.g 2,.k (.g 0) 8<|.g 3,.k (.g 0) 28<|.g 4,.k (.g 0) 10<|.g 5,.k (.g 0) 29<|.h<|.d 0,.k (.g 0) 30<|.u [],.k (.g 0) 31<|.u [],.k (.g 0) 32<|.g 6,.k (.g 0) 13<|.Q<|.g 7,.k (.g 0) 33<|.j 24 [.z<|.g 7],.k (.g 0) 34<|.X [.h<|.d 0]<|.z<|.g 7,.k (.g 0) 35<|.h .o,.k (.g 0) 36<|.h<|.d 0],Hd.hm 98 0⟩
noncomputable def PQ:Fn:=⟨1,1,[.k (.g 0) 37<|.J 98 [],.k (.g 0) 38<|.u [.h .o],.k (.g 0) 39<|.u [.h .o],.k (.g 0) 17<|.u [.h .o],.k (.g 0) 40<|.A .t,.k (.g 0) 41<|.u [],.k (.g 0) 42<|.h<|.d 0],Hd.hm 99 0⟩
noncomputable def PR:Fn:=⟨1,3,[.d 1<|.u [],.l (.a 2) (.c<|.g 0) [.j<|.y (.g 1)<|.s .a (.h<|.k [112])<|.Z<|.g 2],.g<|.Q<|.g 1],Hd.h 100⟩
noncomputable def PS:Fn:=⟨2,2,[.f (.g 1=.q 17 (.d 2)) [.h] [],.f (.g 1=.q 18 (.d 5)) [.h] [],.f (.g 1=.q 19 (.d 4)) [.h] [],.g<|.C<|.h<|.d 1],Hd.h 101⟩
noncomputable def PT:Fn:=⟨2,2,[.f (.g 0=.q 20 (.d 3)) [.g<|.s .d (.g 1)<|.q 21<|.d 1] [],.f (.g 0=.q 22 (.d 1)) [.g<|.g 1] [],.h],Hd.h 102⟩
noncomputable def PU:Ss:=[.f (.g 5<.h (.d 0)) [.d 5<|.j 25 [.g 0,.g 3]] [],.d 7<|.z<|.l (.g 0) 38,.j<|.y (.l (.g 0) 38)<|.J 287 [.g 7,.g 2,.g 3,.j 26 [.g 3,.g 4],.g 5,.g 6,.g 1],.d 8<|.r [.g 1,.g 2,.z<|.g 6],.f (.w .a (.g 8)<|.l (.g 0) 40) [.m (.l (.g 0) 40) (.g 8)<|.g 7] [],.g<|.g 7]
noncomputable def PV:Fn:=⟨3,4,[.d 3<|.p (.l (.g 0) 38)<|.g 1,.f (.w .a (.g 2)<|.l (.g 3) 12) [.j<|.y (.l (.g 3) 12)<|.g 2] []],Hd.h 104⟩
noncomputable def PW:Fn:=⟨1,1,[.f ((.s .b (.g 0) (.s .a (.q 24<|.d 32)<|.q 25<|.d 64)≠.h (.d 0))&&(.s .b (.g 0) (.q 23<|.d 128)≠.h (.d 0))) [.h] [],.g<|.g 0],Hd.h 105⟩
noncomputable def PX:Fn:=⟨7,9,[.d 7<|.p (.l (.g 0) 38)<|.g 1,.d 8<|.z<|.l (.g 0) 17,.j<|.y (.l (.g 0) 17)<|.J 308 [.g 8,.g 1,.g 2,.g 3,.j 29 [.g 4],.g 5,.g 6],.j<|.y (.l (.g 7) 17)<|.g 8,.j<|.j 31 [.g 0,.g 8],.g<|.g 8],Hd.h 106⟩
noncomputable def PY:Ss:=[.d 2<|.p (.l (.g 0) 17)<|.g 1,.d 3<|.p (.l (.g 0) 38)<|.l (.g 2) 27,.f (.s .b (.l (.g 2) 10) (.q 25<|.d 64)≠.h (.d 0)) [.h] [],.f ((.l (.g 2) 8=.h (.k [70,105,110,97,108,105,122,101]))&&(.ab&&((.z (.l (.g 2) 13)=.h (.d 0))&&(.l (.g 2) 32=.q 15 (.d 0))))) [.h] []]
noncomputable def PZ:Fn:=⟨2,2,[.f (.w .a (.g 1)<|.g 0) [.j<|.y (.g 0)<|.g 1] []],Hd.h 108⟩
noncomputable def P0:Fn:=⟨5,5,[.j<|.j 32 [.l (.p (.l (.g 0) 38)<|.g 1) 21,.r [.g 2,.g 3,.g 4]]],Hd.h 109⟩
noncomputable def P1:Fn:=⟨2,5,[.f (.w .b (.g 1)<|.K 1 67) [.h] [],.d 2<|.p (.l (.g 0) 38)<|.g 1,.d 3<|.u [],.l (.a 4) (.c<|.z<|.l (.g 2) 13) [.j<|.y (.g 3)<|.j 12 [.l (.g 0) 37,.g 4]],.g<|.j 35 [.g 0,.g 1,.Q<|.g 3]],Hd.h 110⟩
noncomputable def P3:Fn:=⟨3,4,[.d 3<|.l (.p (.l (.g 0) 38)<|.g 1) 9,.f ((.g 3=.q 17 (.d 2))||(.g 3=.q 18 (.d 5))) [.h] [],.g<|.j 10 [.l (.g 0) 37,.g 1,.g 2]],Hd.h 111⟩
noncomputable def P5:Fn:=⟨2,3,[.d 2<|.j 14 [.l (.g 0) 37,.g 1],.f ((.g 2<=.h (.d 0))||(.g 2≥.z (.l (.g 0) 38))) [.h] [],.g<|.p (.l (.g 0) 38)<|.g 2],Hd.h 112⟩
noncomputable def P6:Fn:=⟨2,5,[.d 2<|.l (.g 0) 37,.f (.g 1<.q 0 (.d 16)) [.g<|.j 38 [.g 0,.g 1]] [],.d 3<|.j 13 [.g 2,.g 1],.f (.g 3=.q 12 (.d 4)) [.h] [],.f (.g 3=.q 10 (.d 8)) [.h] [],.d 4<|.j 36 [.g 0,.g 1],.f (.D<|.g 4) [.h] [],.f (.g 3=.q 6 (.d 3)) [.h,.h] [],.f ((.l (.g 4) 11<.h (.d 0))||(.l (.g 4) 9=.q 20 (.d 3))) [.h] [],.g<|.j 16 [.g 2,.l (.g 4) 11,.j 15 [.g 2,.g 1],.r []]],Hd.h 113⟩
noncomputable def P7:Fn:=⟨2,2,[.f ((.q 27 (.d 1)<=.g 1)&&(.g 1<=.q 26 (.d 11))) [.h] [],.f (.g 1=.q 28 (.d 13)) [.h] [],.g<|.C<|.h<|.d 1],Hd.h 114⟩
noncomputable def P9:Fn:=⟨2,5,[.d 2<|.l (.g 0) 37,.d 3<|.j 13 [.g 2,.g 1],.f (.g 3=.q 10 (.d 8)) [.h] [],.f (.g 3=.q 12 (.d 4)) [.h] [],.d 4<|.j 36 [.g 0,.g 1],.f (.D<|.g 4) [.h] [],.g<|.j 20 [.g 2,.l (.g 4) 12,.j 15 [.g 2,.g 1],.r []]],Hd.h 115⟩
noncomputable def Pa:Fn:=⟨2,4,[.f (.p (.g 1) (.h<|.d 1)=.h (.d 0)) [.h] [],.d 2<|.p (.l (.g 0) 17)<|.p (.g 1)<|.h<|.d 1,.f (.D<|.g 2) [.h] [],.d 3<|.j 15 [.l (.g 0) 37,.p (.g 1)<|.h<|.d 0],.g<|.r [.j 16 [.l (.g 0) 37,.l (.g 2) 32,.g 3,.p (.g 1)<|.h<|.d 2],.j 20 [.l (.g 0) 37,.l (.g 2) 13,.g 3,.p (.g 1)<|.h<|.d 2]]],Hd.h 116⟩
noncomputable def Pb:Fn:=⟨2,4,[.d 2<|.u [],.d 3<|.A .i,.n ((.g 1≠.C (.h<|.d 1))&&.w .a (.g 1) (.g 3)) [.m (.g 3) (.g 1)<|.h<|.d 1,.j<|.y (.g 2)<|.g 1,.d 1<|.G (.g 0) 11 [.g 1]],.g<|.g 2],Hd.h 119⟩
noncomputable def Pc:Fn:=⟨2,5,[.d 2<|.u [],.d 3<|.A .i,.l (.a 4) (.e<|.j 41 [.g 0,.g 1]) [.j<|.j 43 [.g 0,.G (.g 0) 43 [.g 4],.g 2,.g 3]],.g<|.g 2],Hd.h 120⟩
noncomputable def Pd:Fn:=⟨4,7,[.d 4<|.I<|.T<|.g 1,.n (.g 4) [.d 5<|.Y<|.g 4,.f (.w .b (.g 5)<|.g 3) [.q] [],.m (.g 3) (.g 5)<|.h<|.d 1,.j<|.y (.g 2)<|.g 5,.l (.a 6) (.e<|.I<|.T<|.G (.g 0) 43 [.g 5]) [.j<|.y (.g 4)<|.g 6]]],Hd.h 121⟩
noncomputable def Pe:Fn:=⟨2,2,[.k (.g 0) 37<|.l (.g 1) 37,.k (.g 0) 44<|.g 1,.k (.g 0) 15<|.A .i,.k (.g 0) 45<|.A .i],Hd.hm 123 0⟩
noncomputable def Pf:Fn:=⟨2,2,[.g<|.j 37 [.l (.g 0) 44,.g 1]],Hd.hm 123 1⟩
noncomputable def Pg:Fn:=⟨2,2,[.g<|.j 39 [.l (.g 0) 44,.g 1]],Hd.hm 123 2⟩
noncomputable def Ph:Fn:=⟨2,4,[.d 2<|.u [],.d 3<|.A .i,.n (.g 1≠.C (.h<|.d 1)) [.f (.w .b (.g 1)<|.g 3) [.h] [],.m (.g 3) (.g 1)<|.h<|.d 1,.j<|.y (.g 2)<|.g 1,.d 1<|.j 37 [.g 0,.g 1]],.g<|.I<|.g 2],Hd.h 126⟩
noncomputable def Pi:Fn:=⟨2,2,[.k (.g 0) 46<|.g 1,.k (.g 0) 0<|.u [],.k (.g 0) 47<|.A .i],Hd.hm 130 0⟩
noncomputable def Pj:Fn:=⟨2,4,[.d 2<|.u [],.l (.a 3) (.e<|.j 47 [.g 0,.g 1]) [.f (.j 13 [.l (.g 0) 37,.g 3]≠.q 12 (.d 4)) [.f (.D<|.j 36 [.g 0,.g 3]) [.h] [],.j<|.y (.g 2)<|.g 3] []],.g<|.g 2],Hd.h 131⟩
noncomputable def Pk:Fn:=⟨3,3,[.f (.z (.j 15 [.l (.g 0) 37,.p (.g 1)<|.g 2])=.h (.d 0)) [.g<|.S (.g 1)<|.s .a (.g 2)<|.h<|.d 1] [],.g<|.j 49 [.g 0,.j 34 [.g 0,.l (.j 36 [.g 0,.p (.g 1)<|.g 2]) 7]]],Hd.h 132⟩
noncomputable def Pm:Fn:=⟨2,5,[.d 2<|.J 568 [.g 1],.d 3<|.j 49 [.g 0,.g 1],.f ((.z (.g 3)=.h (.d 1))&&(.l (.j 36 [.g 0,.p (.g 3)<|.h<|.d 0]) 9=.q 20 (.d 3))) [.h] [],.l (.a 4) (.c<|.z<|.g 3) [.j<|.j 52 [.g 0,.g 2,.p (.g 3)<|.g 4,.j 50 [.g 0,.g 3,.g 4]]],.g<|.g 2],Hd.h 133⟩
noncomputable def Pn:Fn:=⟨4,9,[.d 4<|.j 36 [.g 0,.g 2],.l (.a 5) (.e<|.l (.g 4) 17) [.d 6<|.p (.l (.g 0) 17)<|.g 5,.f (.s .b (.l (.g 6) 10) (.q 30<|.d 2)&&.B (.s .b (.l (.g 6) 10)<|.q 29<|.d 1)) [.j<|.j 53 [.g 0,.g 1,.g 2,.g 3,.g 5]] []],.d 7<|.A .t,.l (.a 8) (.e<|.l (.g 4) 21) [.f (.D<|.j 36 [.g 0,.p (.g 8)<|.h<|.d 1]) [.h] [],.f (.l (.j 36 [.g 0,.p (.g 8)<|.h<|.d 1]) 9≠.q 20 (.d 3)) [.h] []]],Hd.h 134⟩
noncomputable def HN:Ss:=[.d 5<|.p (.l (.g 0) 17)<|.g 4,.d 6<|.r [.h<|.d 0,.C<|.h<|.d 1],.f (.B<|.s .b (.l (.g 5) 10)<|.q 31<|.d 4) [.d 6<|.j 55 [.g 0,.g 3,.g 4]] [],.d 7<|.p (.g 6)<|.h<|.d 0,.f (.g 7=.h (.d 0)) [.m (.l (.g 1) 47) (.g 4)<|.z<|.l (.g 1) 0,.j<|.y (.l (.g 1) 0)<|.r [.g 2,.g 4],.g<|.h .o] [],.d 8<|.p (.l (.g 0) 17)<|.g 7,.f (.s .b (.l (.g 8) 10) (.q 32<|.d 16)||.j 59 [.g 0,.g 5,.g 8]) [.h] [],.f (.B<|.j 57 [.g 0,.p (.g 3)<|.s .c (.z<|.g 3)<|.h<|.d 1,.g 4,.p (.g 3)<|.p (.g 6)<|.h<|.d 1,.g 7]) [.h] [],.m (.l (.g 1) 47) (.g 4)<|.p (.l (.g 1) 47)<|.g 7,.m (.l (.g 1) 0) (.p (.l (.g 1) 47)<|.g 7)<|.r [.g 2,.g 4]]
noncomputable def Po:Fn:=⟨2,3,[.d 2<|.l (.p (.l (.g 0) 17)<|.g 1) 10,.g<|(.s .b (.g 2) (.q 30<|.d 2)≠.h (.d 0))&&(.s .b (.g 2) (.s .d (.q 29<|.d 1)<|.q 33<|.d 8)=.h (.d 0))],Hd.h 137⟩
noncomputable def Pp:Fn:=⟨3,6,[.d 3<|.s .c (.z<|.g 1)<|.h<|.d 1,.d 4<|.s .c (.g 3)<|.h<|.d 1,.n (.g 4≥.h (.d 0)) [.l (.a 5) (.e<|.l (.j 36 [.g 0,.p (.g 1)<|.g 4]) 17) [.f (.j 56 [.g 0,.g 5]&&.j 58 [.g 0,.p (.g 1)<|.g 3,.g 2,.p (.g 1)<|.g 4,.g 5,.h<|.n true]) [.g<|.r [.g 5,.g 4]] []],.p 4 .c<|.h<|.d 1],.g<|.r [.h<|.d 0,.C<|.h<|.d 1]],Hd.h 138⟩
noncomputable def Pq:Fn:=⟨2,3,[.d 2<|.p (.l (.g 0) 17)<|.g 1,.g<|(.s .b (.l (.g 2) 10) (.q 30<|.d 2)≠.h (.d 0))&&((.s .b (.l (.g 2) 10) (.q 29<|.d 1)=.h (.d 0))&&(.l (.g 2) 28≠.q 34 (.d 1)))],Hd.h 139⟩
noncomputable def Pr:Fn:=⟨5,10,[.d 5<|.l (.p (.l (.g 0) 17)<|.g 2) 31,.d 6<|.l (.p (.l (.g 0) 17)<|.g 4) 31,.l (.a 7) (.c<|.l (.p (.l (.g 0) 17)<|.g 2) 29) [.h,.h,.h],.g<|.h<|.n true],Hd.h 140⟩
noncomputable def Ps:Ss:=[.d 6<|.p (.l (.g 0) 17)<|.g 2,.d 7<|.p (.l (.g 0) 17)<|.g 4,.f (.g 5&&(.l (.g 6) 8≠.l (.g 7) 8)) [.g<|.h<|.n false] [],.f ((.l (.g 6) 29≠.l (.g 7) 29)||(.z (.l (.g 6) 13)≠.z (.l (.g 7) 13))) [.h] [],.g<|.j 40 [.g 0,.r [.g 1,.g 2,.r []]]=.j 40 [.g 0,.r [.g 3,.g 4,.r []]]]
noncomputable def Pt:Fn:=⟨3,5,[.d 3<|.P (.K 2 551) (.l (.g 2) 28)<|.h<|.d 0,.d 4<|.l (.p (.l (.g 0) 38)<|.l (.g 1) 27) 18≠.l (.p (.l (.g 0) 38)<|.l (.g 2) 27) 18,.f (.g 4&&((.l (.g 2) 28≠.q 36 (.d 2))&&(.l (.g 2) 28≠.q 35 (.d 3)))) [.h] [],.g<|.s .b (.g 3) (.U<|.P (.K 2 551) (.l (.g 1) 28)<|.h<|.d 0)≠.h (.d 0)],Hd.h 142⟩
noncomputable def Pv:Fn:=⟨2,2,[.k (.g 0) 46<|.g 1,.k (.g 0) 12<|.u [],.k (.g 0) 0<|.A .t],Hd.hm 144 0⟩
noncomputable def Pw:Fn:=⟨3,10,[.d 3<|.J 673 [.g 1],.d 4<|.j 49 [.g 0,.g 1],.f (.l (.j 36 [.g 0,.g 1]) 9=.q 20 (.d 3)) [.h] [],.d 5<|.J 532 [.g 0],.k (.g 3) 12<|.j 42 [.g 5,.g 1],.d 6<|.A .t,.l (.a 7) (.c<|.z<|.g 4) [.j<|.j 63 [.g 0,.g 5,.g 4,.g 7,.g 6]],.d 8<|.B<|.s .b (.l (.j 36 [.g 0,.g 1]) 10)<|.q 21<|.d 1,.l (.a 9) (.e<|.l (.g 3) 12) [.j<|.j 68 [.g 0,.g 2,.g 3,.g 9,.g 6,.g 8]],.g<|.g 3],Hd.h 145⟩
noncomputable def Px:Fn:=⟨2,4,[.d 2<|.j 36 [.g 0,.g 1],.f (.D<|.g 2) [.h] [],.g<|.aa (.g 3) (.a 3) (.l (.g 2) 17)<|.B<|.s .b (.l (.p (.l (.g 0) 17)<|.g 3) 10)<|.q 29<|.d 1],[aM "store",aM "iface",aM "t",aM ".mid"]⟩
noncomputable def Py:Fn:=⟨5,16,[.d 5<|.j 50 [.g 0,.g 2,.g 3],.d 6<|.p (.g 5)<|.g 3,.d 7<|.j 42 [.g 1,.g 6],.j<|.j 67 [.g 0,.g 6,.g 7],.f (.z (.g 7)=.h (.d 0)) [.g<|.h .o] [],.d 8<|.u [],.j<|.j 43 [.g 1,.j 39 [.g 0,.g 6],.g 8,.A .i],.d 9<|.j 15 [.l (.g 0) 37,.p (.g 2)<|.g 3],.d 10<|.A .t,.l (.a 11) (.e<|.g 7) [.d 12<|.j 16 [.l (.g 0) 37,.g 11,.g 9,.r []],.l (.a 13) (.e<|.j 62 [.g 0,.g 11]) [.d 14<|.r [.g 12,.g 13],.f (.w .b (.g 14)<|.g 10) [.q] [],.f (.w .b (.g 14) (.g 4)&&(.w .a (.g 11) (.g 8)&&(.j 65 [.g 0,.g 6,.g 11,.g 13]=.h (.d 0)))) [.q] [],.d 15<|.j 64 [.g 0,.g 5,.g 11,.g 13],.f (.M<|.g 15) [.m (.g 10) (.g 14)<|.h<|.d 1,.m (.g 4) (.g 14)<|.r [.p (.g 2)<|.p (.g 15)<|.h<|.d 0,.p (.g 15)<|.h<|.d 1]] []]]],Hd.h 147⟩
noncomputable def Pz:Fn:=⟨4,7,[.d 4<|.s .c (.z<|.g 1)<|.h<|.d 1,.n (.g 4≥.h (.d 0)) [.d 5<|.p (.g 1)<|.g 4,.d 6<|.j 65 [.g 0,.g 5,.g 2,.g 3],.f (.g 6=.h (.d 0)) [.d 6<|.j 66 [.g 0,.g 5,.g 2,.g 3]] [],.f (.g 6) [.f (.B<|.j 57 [.g 0,.g 5,.g 6,.g 2,.g 3]) [.h] [],.g<|.r [.g 4,.g 6]] [],.h],.h],Hd.h 148⟩
noncomputable def P_:Fn:=⟨4,8,[.d 4<|.j 15 [.l (.g 0) 37,.g 1],.l (.c [5,6,7]) (.e<|.l (.j 36 [.g 0,.g 1]) 21) [.f ((.g 7=.g 3)&&(.j 16 [.l (.g 0) 37,.g 6,.g 4,.r []]=.g 2)) [.g<|.g 5] []],.g<|.h<|.d 0],Hd.h 149⟩
noncomputable def QA:Fn:=⟨4,6,[.l (.a 4) (.e<|.l (.j 36 [.g 0,.g 1]) 17) [.d 5<|.p (.l (.g 0) 17)<|.g 4,.f ((.l (.g 5) 28≠.q 37 (.d 6))||(.B (.s .b (.l (.g 5) 10)<|.q 30<|.d 2)||.s .b (.l (.g 5) 10) (.q 29<|.d 1))) [.h] [],.f (.j 58 [.g 0,.g 1,.g 4,.g 2,.g 3,.h<|.n true]) [.g<|.g 4] []],.h],Hd.h 150⟩
noncomputable def QB:Fn:=⟨3,10,[.d 3<|.j 36 [.g 0,.g 1],.d 4<|.A .t,.l (.c [5,6,7]) (.e<|.l (.g 3) 21) [.d 8<|.j 36 [.g 0,.g 6],.f (.D<|.g 8) [.h] [],.f (.l (.g 8) 9≠.q 20 (.d 3)) [.h] [],.d 9<|.r [.g 6,.g 7],.f (.w .a (.g 6) (.g 2)||(.w .a (.g 7) (.l (.g 8) 17)||(.w .a (.g 5) (.l (.g 3) 17)||.w .b (.g 9) (.g 4)))) [.h] [],.f (.s .b (.l (.p (.l (.g 0) 17)<|.g 7) 10) (.s .d (.q 29<|.d 1)<|.q 30<|.d 2)≠.q 30 (.d 2)) [.h] [],.f (.B (.j 54 [.g 0,.g 5])||.B (.j 58 [.g 0,.g 1,.g 5,.g 6,.g 7,.h<|.n false])) [.h] [],.m (.g 4) (.g 9)<|.h<|.d 1]],Hd.h 151⟩
noncomputable def QC:Fn:=⟨6,8,[.l (.a 6) (.e<|.j 62 [.g 0,.g 3]) [.d 7<|.P (.g 4) (.r [.g 3,.g 6])<|.h .o,.f (.D<|.g 7) [.h,.h] [],.f (.w .b (.p (.g 7)<|.h<|.d 1)<|.l (.g 1) 47) [.d 7<|.p (.l (.g 1) 0)<|.p (.l (.g 1) 47)<|.p (.g 7)<|.h<|.d 1] [],.m (.l (.g 2) 0) (.r [.g 3,.g 6])<|.g 7]],Hd.h 152⟩
noncomputable def QD:Fn:=⟨3,5,[.d 3<|.p (.g 1)<|.h<|.d 0,.m (.g 1) (.h<|.d 0)<|.s .a (.g 3)<|.h<|.d 1,.d 4<|.z<|.g 0,.g<|.s .e (.s .a (.p (.g 0)<|.s .e (.g 3)<|.g 4)<|.s .g (.s .f (.g 3)<|.g 4)<|.s .a (.s .e (.p (.g 0)<|.h<|.d 0)<|.h<|.d 7)<|.s .g (.h<|.d 3)<|.g 3)<|.g 2],Hd.h 154⟩
noncomputable def QE:Ss:=[.d 2<|.p (.g 1)<|.C<|.h<|.d 1,.d 3<|.F (.g 2=.h (.k [84])) (.j 12 [.g 0,.h<|.d 0])<|.F (.g 2=.h (.k [85])) (.j 12 [.g 0,.h<|.d 1])<|.F (.g 2=.h (.k [105])) (.q 38<|.d 7)<|.q 28<|.d 13,.l (.a 4) (.e<|.I<|.R<|.g 1) [.f (.g 4=.h (.k [97])) [.d 3<|.j 11 [.g 0,.g 3]] [.d 3<|.j 10 [.g 0,.F (.g 4=.h (.k [73])) (.h<|.d 64)<|.h<|.d 65,.r [.g 3]]]],.g<|.g 3]
noncomputable def QF:Fn:=⟨3,3,[.g<|.j 10 [.g 0,.s .a (.h<|.d 66)<|.g 1,.r [.j 70 [.g 0,.p (.g 2)<|.h<|.d 0],.j 70 [.g 0,.p (.g 2)<|.h<|.d 1]]]],Hd.h 156⟩
noncomputable def QG:Fn:=⟨2,3,[.d 2<|.p (.g 0)<|.C<|.h<|.d 1,.f (.g 2=.h (.k [84])) [.g<|.s .a (.R<|.g 0)<|.p (.g 1)<|.h<|.d 0] [],.g<|.F (.g 2=.h (.k [85])) (.s .a (.R<|.g 0)<|.p (.g 1)<|.h<|.d 1)<|.g 0],Hd.h 157⟩
noncomputable def QH:Fn:=⟨4,6,[.l (.a 4) (.d (.g 2)<|.g 1) [.d 5<|.p (.p (.g 0)<|.g 4)<|.h<|.d 0,.d 3<|.r [.j 72 [.p (.g 5)<|.h<|.d 0,.g 3],.j 72 [.p (.g 5)<|.h<|.d 1,.g 3]]],.g<|.g 3],Hd.h 158⟩
noncomputable def QI:Ss:=[.d 6<|.F (.g 5) (.s .d (.q 30<|.d 2)<|.q 31<|.d 4)<|.q 30<|.d 2,.d 7<|.j 30 [.g 0,.s .a (.h<|.d 66)<|.g 1,.g 3,.h<|.d 6,.g 6,.q 15<|.d 0,.r [.j 70 [.l (.g 0) 37,.g 4]]],.j<|.y (.g 2)<|.r [.g 7,.g 3,.g 4,.g 5],.g<|.g 7]
noncomputable def HO:Ss:=[.d 6<|.F (.p (.g 3) (.h<|.d 0)=.h (.k [73])) (.h<|.d 1)<|.h<|.d 2,.d 7<|.p (.g 2)<|.h<|.d 1,.f (.g 4=.h (.d 0)) [.d 8<|.j 74 [.g 0,.g 1,.g 7,.h<|.k [101],.L<|.g 3,.h<|.n true],.j<|.j 33 [.g 0,.s .a (.h<|.d 66)<|.g 1,.g 8,.j 70 [.l (.g 0) 37,.g 3],.g 6]] [.d 9<|.F (.g 6=.h (.d 1)) (.h<|.k [109])<|.h<|.k [106],.d 8<|.h<|.d 0,.l (.a 10) (.e<|.I<|.g 7) [.f ((.p (.g 10) (.h<|.d 1)=.g 9)&&(.p (.g 10) (.h<|.d 2)=.L (.g 3))) [.d 8<|.p (.g 10)<|.h<|.d 0] []],.f (.g 8=.h (.d 0)) [.d 8<|.j 74 [.g 0,.g 1,.g 7,.g 9,.L<|.g 3,.g 5]] []],.j<|.y (.p (.g 2)<|.h<|.d 2)<|.r [.g 3,.g 6,.g 8]]
noncomputable def tM:Ss:=[.d 5<|.l (.g 0) 37,.d 6<|.z<|.g 3,.d 7<|.u [.h<|.k [84],.h<|.k [85],.h<|.k [105],.h<|.k [84],.h<|.k [85],.h<|.k [97,84],.h<|.k [115],.h<|.k [97,85]],.d 8<|.r [.h<|.k [84],.h<|.k [85]],.d 9<|.q 39<|.d 12,.f (.g 6>.h (.d 0)) [.d 8<|.r [.p (.g 7)<|.j 69 [.g 1,.g 2,.h<|.d 8],.p (.g 7)<|.j 69 [.g 1,.g 2,.h<|.d 8]],.d 9<|.j 71 [.g 5,.s .c (.g 6)<|.h<|.d 1,.g 8]] [],.j<|.j 27 [.g 0,.h<|.d 0,.h<|.k [67],.q 22<|.d 1,.h<|.d 0,.g 9,.u [.h<|.k [84],.h<|.k [85]]],.d 10<|.r [.g 8,.u [],.u []],.j<|.y (.g 3)<|.g 10,.d 11<|.u [],.l (.a 12) (.c<|.s .a (.h<|.d 1)<|.j 69 [.g 1,.g 2,.h<|.d 2]) [.d 13<|.p (.g 7)<|.j 69 [.g 1,.g 2,.h<|.d 8],.d 14<|.j 69 [.g 1,.g 2,.h<|.d 3]=.h (.d 2),.f (.w .a (.g 13)<|.g 11) [.j<|.y (.g 11)<|.g 13,.j<|.j 74 [.g 0,.g 6,.p (.g 10)<|.h<|.d 1,.h<|.k [109],.g 13,.g 14]] []],.d 15<|.u [],.l (.a 12) (.c<|.j 69 [.g 1,.g 2,.h<|.d 3]) [.d 16<|.s .a (.p (.h<|.k [73,74,73])<|.j 69 [.g 1,.g 2,.h<|.d 3])<|.p (.g 7)<|.j 69 [.g 1,.g 2,.h<|.d 6],.j<|.j 28 [.g 0,.s .a (.h<|.d 66)<|.g 6,.j 70 [.g 5,.g 16]],.l (.a 17) (.e<|.u [.g 16,.s .a (.h<|.k [73])<|.L<|.g 16]) [.f (.w .a (.g 17)<|.g 15) [.j<|.y (.g 15)<|.g 17,.j<|.j 75 [.g 0,.g 6,.g 10,.g 17,.j 69 [.g 1,.g 2,.h<|.d 3],.j 69 [.g 1,.g 2,.h<|.d 2]=.h (.d 0)]] []]],.d 18<|.u [],.l (.a 16) (.e<|.g 4) [.d 17<|.j 72 [.g 16,.g 8],.f (.w .a (.g 17) (.g 15)&&.w .a (.g 17) (.g 18)) [.j<|.y (.g 18)<|.g 17] []],.f ((.g 18≠.u [])&&(.j 69 [.g 1,.g 2,.h<|.d 2]=.h (.d 0))) [.j<|.j 75 [.g 0,.g 6,.g 10,.p (.g 18)<|.j 69 [.g 1,.g 2,.z<|.g 18],.h<|.d 0,.h<|.n true]] [],.g<|.s .a (.g 15)<|.g 18]
noncomputable def QJ:Fn:=⟨1,15,[.d 1<|.A .i,.d 2<|.u [],.l (.a 3) (.c<|.z<|.g 0) [.l (.c [4,5,6,7]) (.e<|.p (.p (.g 0)<|.g 3)<|.h<|.d 1) [.d 8<|.z<|.g 2,.d 9<|.s .c (.g 3)<|.h<|.d 1,.n ((.g 9≥.h (.d 0))&&((.g 8=.z (.g 2))&&.B (.g 7))) [.d 10<|.j 73 [.g 0,.g 9,.g 3,.r [.h<|.k [84],.h<|.k [85]]],.l (.c [11,12,13,14]) (.e<|.I<|.p (.p (.g 0)<|.g 9)<|.h<|.d 1) [.f ((.g 12=.g 5)&&(.j 72 [.g 13,.g 10]=.g 6)) [.d 8<|.p (.g 1)<|.g 11] []],.p 9 .c<|.h<|.d 1],.m (.g 1) (.g 4)<|.g 8,.f (.g 8=.z (.g 2)) [.j<|.y (.g 2)<|.r [.g 3,.g 4]] [.m (.g 2) (.g 8)<|.r [.g 3,.g 4]]]],.g<|.r [.g 1,.g 2]],Hd.h 162⟩
noncomputable def QK:Fn:=⟨1,8,[.d 1<|.u [],.d 2<|.s .c (.z<|.g 0)<|.h<|.d 1,.l (.a 3) (.d (.g 2)<|.C<|.h<|.d 1) [.d 4<|.j 73 [.g 0,.g 3,.g 2,.r [.h<|.k [84],.h<|.k [85]]],.l (.c [5,6,7]) (.e<|.p (.p (.g 0)<|.g 3)<|.h<|.d 2) [.j<|.y (.g 1)<|.r [.j 72 [.g 5,.g 4],.g 6,.g 7]]],.g<|.g 1],Hd.h 163⟩
noncomputable def QL:Fn:=⟨6,21,[.d 6<|.l (.g 0) 37,.d 7<|.s .c (.z<|.g 1)<|.h<|.d 1,.d 8<|.j 71 [.g 6,.g 7,.g 5],.f (.j 16 [.g 6,.j 71 [.g 6,.g 7,.r [.h<|.k [84],.h<|.k [85]]],.r [.j 70 [.g 6,.p (.g 5)<|.h<|.d 0],.j 70 [.g 6,.p (.g 5)<|.h<|.d 1]],.r []]≠.g 8) [.h] [],.d 9<|.j 51 [.g 0,.g 8],.d 10<|.u [],.l (.c [11,12]) (.e<|.p (.g 2)<|.h<|.d 1) [.j<|.y (.g 10)<|.r [.j 71 [.g 6,.g 11,.j 73 [.g 1,.g 11,.g 7,.g 5]],.g 12]],.f ((.l (.g 9) 46≠.g 8)||((.l (.g 9) 47≠.p (.g 2) (.h<|.d 0))||(.l (.g 9) 0≠.g 10))) [.h] [],.d 13<|.j 61 [.g 0,.g 8,.g 9],.d 14<|.u [],.l (.a 15) (.e<|.g 4) [.d 16<|.j 70 [.g 6,.j 72 [.g 15,.g 5]],.f (.w .a (.g 16)<|.g 14) [.j<|.y (.g 14)<|.g 16] []],.d 17<|.A .t,.l (.c [15,18,19]) (.e<|.g 3) [.d 20<|.r [.j 70 [.g 6,.j 72 [.g 15,.g 5]],.g 18],.f (.w .a (.g 20)<|.g 17) [.m (.g 17) (.g 20)<|.p (.g 10)<|.p (.p (.g 2)<|.h<|.d 0)<|.g 19] []],.f ((.l (.g 13) 46≠.g 8)||((.l (.g 13) 12≠.g 14)||(.l (.g 13) 0≠.g 17))) [.h] [],.g<|.r [.g 9,.g 13]],Hd.h 164⟩
noncomputable def QM:Fn:=⟨5,17,[.d 5<|.l (.g 0) 37,.d 6<|.r [.j 70 [.g 5,.p (.g 4)<|.h<|.d 0],.j 70 [.g 5,.p (.g 4)<|.h<|.d 1]],.f (.l (.p (.g 3)<|.h<|.d 0) 0≠.O (.r [.j 16 [.g 5,.g 15,.g 6,.r []],.g 16]) (.c [15,16]) (.l (.p (.g 2)<|.h<|.d 0) 0)) [.h] [],.d 7<|.u [],.l (.c [8,9,10]) (.e<|.g 1) [.d 11<|.r [.j 70 [.g 5,.g 8],.g 9],.d 12<|.r [.j 16 [.g 5,.p (.g 11)<|.h<|.d 0,.g 6,.r []],.g 9],.f (.w .a (.g 12)<|.g 7) [.j<|.y (.g 7)<|.g 12,.s [13,14]<|.p (.l (.p (.g 2)<|.h<|.d 1) 0)<|.g 11,.f (.p (.l (.p (.g 3)<|.h<|.d 1) 0) (.g 12)≠.r [.j 16 [.g 5,.g 13,.g 6,.r []],.g 14]) [.h] []] []],.g<|.z (.g 7)=.z (.l (.p (.g 3)<|.h<|.d 1) 0)],[aM "store",aM "events",aM "was",aM "now",aM "args",aM "kt",aM "pair",aM "met",aM "face",aM "decl",aM "body",aM "open_key",aM "key",aM "owner",aM "mid",aM ".owner",aM ".mid"]⟩
noncomputable def QN:Ss:=[.d 3<|.l (.p (.g 2)<|.h<|.d 0) 46,.d 4<|.w .b (.p (.p (.g 1)<|.h<|.d 0)<|.C<|.h<|.d 1)<|.h<|.k [84,85],.d 5<|.j 27 [.g 0,.h<|.d 0,.h<|.k [72],.q 22<|.d 1,.h<|.d 0,.g 3,.F (.g 4) (.u [.h<|.k [84],.h<|.k [85]])<|.u []],.d 6<|.j 10 [.l (.g 0) 37,.g 5,.F (.g 4) (.r [.j 12 [.l (.g 0) 37,.h<|.d 0],.q 38<|.d 7])<|.r []],.f (.g 4) [.d 3<|.j 16 [.l (.g 0) 37,.g 3,.r [.j 12 [.l (.g 0) 37,.h<|.d 0],.q 38<|.d 7],.r []],.d 7<|.j 51 [.g 0,.g 3],.d 2<|.r [.g 7,.j 61 [.g 0,.g 3,.g 7]]] [],.d 7<|.j 51 [.g 0,.g 6],.d 8<|.j 61 [.g 0,.g 6,.g 7],.g<|(.l (.g 7) 0=.l (.p (.g 2)<|.h<|.d 0) 0)&&((.l (.g 7) 47=.l (.p (.g 2)<|.h<|.d 0) 47)&&((.l (.g 8) 0=.l (.p (.g 2)<|.h<|.d 1) 0)&&(.l (.g 8) 12=.l (.p (.g 2)<|.h<|.d 1) 12)))]
noncomputable def tN:Ss:=[.r 1 (.s .e (.g 16)<|.h<|.d 999983) (.a 16)<|.S (.g 0)<|.h<|.d 40,.d 2<|.z<|.g 1,.f (.g 2=.h (.d 0)) [.d 1<|.u [.h<|.d 1,.h<|.d 0,.h<|.d 2,.h<|.d 1,.h<|.d 2,.h<|.d 1,.h<|.d 0,.h<|.d 0,.h<|.d 1,.h<|.d 0,.h<|.d 0,.h<|.d 1,.h<|.d 0,.h<|.d 1,.h<|.d 0,.h<|.d 2,.h<|.d 0,.h<|.d 0,.h<|.d 0,.h<|.d 0,.h<|.d 0,.h<|.d 1,.h<|.d 0,.h<|.d 0,.h<|.d 0]] [],.d 3<|.u [.h<|.d 0],.d 4<|.J 329 [],.k (.g 4) 38<|.W [.h .o]<|.h<|.d 64,.m (.l (.g 4) 38) (.h<|.d 1)<|.J 287 [.h<|.d 1,.h<|.k [79,98,106,101,99,116],.q 22<|.d 1,.h<|.d 0,.C<|.h<|.d 1,.u [],.h<|.d 0],.j<|.j 27 [.g 4,.h<|.d 0,.h<|.k [73],.q 20<|.d 3,.h<|.d 0,.C<|.h<|.d 1,.u [.h<|.k [88]]],.j<|.j 27 [.g 4,.h<|.d 0,.h<|.k [74],.q 20<|.d 3,.h<|.d 0,.C<|.h<|.d 1,.u [.h<|.k [88]]],.j<|.j 28 [.g 4,.h<|.d 65,.j 70 [.l (.g 4) 37,.h<|.k [73,84]]],.l (.a 5) (.c<|.h<|.d 2) [.d 6<|.s .d (.s .d (.q 30<|.d 2)<|.q 31<|.d 4)<|.q 33<|.d 8,.j<|.j 30 [.g 4,.s .a (.h<|.d 64)<|.g 5,.p (.h<|.k [109,106])<|.g 5,.h<|.d 6,.g 6,.q 15<|.d 0,.r [.j 70 [.l (.g 4) 37,.h<|.k [84]]]]],.d 7<|.u [],.d 8<|.u [],.l (.a 5) (.c<|.s .a (.h<|.d 2)<|.s .f (.g 2)<|.h<|.d 24) [.d 8<|.j 76 [.g 4,.g 1,.g 3,.g 7,.g 8]],.d 9<|.j 77 [.g 7],.d 10<|.j 78 [.g 7],.d 11<|.j 79 [.g 4,.g 7,.g 9,.g 10,.g 8,.r [.h<|.k [84],.h<|.k [85]]],.f (.D<|.g 11) [.h] [],.d 12<|.u [.r [.h<|.k [105],.h<|.k [105]],.r [.h<|.k [85],.h<|.k [84]],.r [.h<|.k [84],.h<|.k [84]],.r [.h<|.k [97,84],.h<|.k [85]],.r [.h<|.k [115],.h<|.k [115]],.r [.h<|.k [105],.h<|.k [115]],.r [.h<|.k [97,85],.h<|.k [97,85]],.r [.h<|.k [115],.h<|.k [97,105]]],.l (.a 13) (.c<|.s .a (.h<|.d 1)<|.s .f (.g 2)<|.h<|.d 30) [.d 14<|.p (.g 12)<|.j 69 [.g 1,.g 3,.h<|.d 8],.d 15<|.j 79 [.g 4,.g 7,.g 9,.g 10,.g 8,.g 14],.f (.D (.g 15)||.B (.j 80 [.g 4,.g 10,.g 11,.g 15,.g 14])) [.h] [],.f ((.g 2<.h (.d 24))&&.B (.j 81 [.g 4,.g 14,.g 15])) [.h] []],.g<|.h<|.n true]
end
noncomputable def gU:List PySem.Str:=[aM "rows",aM "index",aM "depths",aM "weights",aM "opens",aM "row",aM "put",aM "tid",aM "name",aM "sort",aM "flags",aM "base",aM "ifaces",aM "params",aM "variances",aM "bounds",aM "fields",aM "methods",aM "asm",aM "cctor",aM "under",aM "impls",aM "props",aM "events",aM "finaliser",aM "home",aM "mid",aM "owner",aM "access",aM "ngen",aM "gnames",aM "gbounds",aM "ret",aM "pnames",aM "pflags",aM "body",aM "native",aM "kt",aM "types",aM "fields_",aM "names",aM "asms",aM "entry",aM "ifaces_at",aM "store",aM "gflags",aM "kind",aM "slots"]
noncomputable def zt:List (ac×Int):=[(aM "PRIM_END",16),(aM "R_PRIM",1),(aM "R_MVAR",7),(aM "R_VAR",6),(aM "DEEPEST_KIND",24),(aM "HEAVIEST_KIND",4096),(aM "R_VALUE",3),(aM "R_CLASS",2),(aM "R_RAW",11),(aM "R_ROREF",9),(aM "R_BOXED",8),(aM "R_BYREF",5),(aM "R_ARRAY",4),(aM "R_FTN",10),(aM "NULLK",14),(aM "VOID",0),(aM "VA_NONE",0),(aM "S_STRUCT",2),(aM "S_ENUM",5),(aM "S_DELEGATE",4),(aM "S_IFACE",3),(aM "TF_ABSTRACT",1),(aM "S_CLASS",1),(aM "MF_SPECIAL",128),(aM "MF_CTOR",32),(aM "MF_CCTOR",64),(aM "NINT",11),(aM "BOOL",1),(aM "STRING",13),(aM "MF_STATIC",1),(aM "MF_VIRTUAL",2),(aM "MF_NEWSLOT",4),(aM "MF_FINAL",16),(aM "MF_ABSTRACT",8),(aM "A_PRIVATE",1),(aM "A_ASSEMBLY",3),(aM "A_FAMANDASM",2),(aM "A_PUBLIC",6),(aM "I4",7),(aM "OBJECT",12)]
noncomputable def mI:List (ac×Nat×List (Int×Int)):=[(aM "PRIM_TID",66,[(0,20),(1,9),(2,10),(3,11),(4,12),(5,13),(6,14),(7,15),(8,16),(9,17),(10,18),(11,19),(12,1),(13,4)]),(aM "TID_PRIM",67,[(20,0),(9,1),(10,2),(11,3),(12,4),(13,5),(14,6),(15,7),(16,8),(17,9),(18,10),(19,11),(1,12),(4,13)]),(aM "REACH",551,[(1,0),(2,1),(3,3),(4,5),(5,7),(6,15)])]
noncomputable def HP:Fn:=⟨2,9,Ow,Hd.hm 50 2⟩
noncomputable def QO:Fn:=⟨7,9,PU,Hd.h 103⟩
noncomputable def QP:Fn:=⟨2,4,PY,Hd.h 107⟩
noncomputable def QQ:Fn:=⟨5,9,HN,Hd.h 135⟩
noncomputable def QR:Fn:=⟨6,8,Ps,Hd.h 141⟩
noncomputable def QS:Fn:=⟨2,5,QE,Hd.h 155⟩
noncomputable def QT:Fn:=⟨6,8,QI,Hd.h 159⟩
noncomputable def QU:Fn:=⟨6,11,HO,Hd.h 160⟩
noncomputable def QV:Fn:=⟨5,19,tM,Hd.h 161⟩
noncomputable def QW:Fn:=⟨3,9,QN,Hd.h 166⟩
noncomputable def QX:Fn:=⟨1,17,tN,[aM "script",aM "nums",aM "size",aM "at",aM "store",aM "nth",aM "flags",aM "levels",aM "faces",aM "told",aM "events",aM "was",aM "some",aM "i",aM "args",aM "now",aM ".n"]⟩
noncomputable def tO:List (Nat×Option ac×Fn):=[
 (81,aA,Ou),
 (88,aA,Ov),
 (95,aA,HP),
 (109,J<|aM "inner_kinds",Ox),
 (116,J<|aM "row_level",Oy),
 (123,J<|aM "row_length",Oz),
 (130,J<|aM "check_kind_row",O_),
 (137,J<|aM "check_named",PA),
 (144,J<|aM "check_args",PB),
 (151,J<|aM "may_stand",PC),
 (158,J<|aM "class_kind",PD),
 (179,J<|aM "array_kind",PE),
 (186,J<|aM "var_kind",PF),
 (193,J<|aM "kind_sort",PG),
 (207,J<|aM "tid_of",PH),
 (214,J<|aM "args_of",PI),
 (235,J<|aM "close",PJ),
 (242,J<|aM "close_in",PK),
 (249,J<|aM "with_inner",PL),
 (263,J<|aM "pick_arg",PM),
 (270,J<|aM "close_all",PN),
 (284,aA,PO),
 (305,aA,PP),
 (326,aA,PQ),
 (340,J<|aM "plain_names",PR),
 (347,J<|aM "usual_base",PS),
 (354,J<|aM "sort_flags",PT),
 (361,J<|aM "add_type",QO),
 (368,J<|aM "add_iface",PV),
 (375,J<|aM "kept_flags",PW),
 (382,J<|aM "add_method",PX),
 (389,J<|aM "note_method",QP),
 (396,J<|aM "put_once",PZ),
 (403,J<|aM "add_impl",P0),
 (410,J<|aM "self_kind",P1),
 (417,J<|aM "kind_with",P3),
 (424,J<|aM "type_of",P5),
 (431,J<|aM "base_of",P6),
 (438,J<|aM "base_of_prim",P7),
 (445,J<|aM "ifaces_of",P9),
 (452,J<|aM "method_sig",Pa),
 (466,J<|aM "base_chain",Pb),
 (473,J<|aM "all_ifaces",Pc),
 (480,J<|aM "add_ifaces",Pd),
 (494,aA,Pe),
 (501,aA,Pf),
 (508,aA,Pg),
 (550,J<|aM "levels_of",Ph),
 (565,aA,Pi),
 (579,J<|aM "table_levels",Pj),
 (586,J<|aM "open_line",Pk),
 (593,J<|aM "vtable_of",Pm),
 (600,J<|aM "put_level",Pn),
 (607,J<|aM "put_method",QQ),
 (621,J<|aM "is_instance_body",Po),
 (628,J<|aM "overridden",Pp),
 (635,J<|aM "could_override",Pq),
 (642,J<|aM "no_stricter",Pr),
 (649,J<|aM "same_signature",QR),
 (656,J<|aM "narrower",Pt),
 (670,aA,Pv),
 (684,J<|aM "imap_of",Pw),
 (689,J<|aM "iface_methods",Px),
 (696,J<|aM "map_level",Py),
 (703,J<|aM "look_up",Pz),
 (710,J<|aM "explicit_row",P_),
 (717,J<|aM "implicit_row",QA),
 (724,J<|aM "check_impls",QB),
 (731,J<|aM "settle_iface",QC),
 (738,J<|aM "_law_draw",QD),
 (745,J<|aM "_law_kind",QS),
 (752,J<|aM "_law_class",QF),
 (759,J<|aM "_law_put",QG),
 (766,J<|aM "_law_args",QH),
 (773,J<|aM "_law_method",QT),
 (780,J<|aM "_law_serve",QU),
 (787,J<|aM "_law_level",QV),
 (794,J<|aM "_law_slots",QJ),
 (801,J<|aM "_law_events",QK),
 (808,J<|aM "_law_tables",QL),
 (813,J<|aM "_law_closes",QM),
 (820,J<|aM "_law_heir",QW),
 (825,J (aM "law"),QX)]
noncomputable def qS:List (Nat×ac×Nat):=[(98,aM "KindTable",0),(287,aM "TypeDef",21),(308,aM "MethodDef",22),(329,aM "Store",23),(532,aM "LineHost",44),(568,aM "VTable",48),(673,aM "IMap",60)]
noncomputable def Co:List (Nat×Nat×Nat):=[(98,5,1),(98,6,2),(532,11,45),(532,43,46)]
noncomputable def HQ:List (Nat×List Nat):=[(98,[0,1,2,3,4]),(287,[7,8,9,10,11,12,13,14,15,16,17,18,19,20,21,22,23,24,25]),(308,[26,27,8,28,10,29,30,31,32,13,33,34,35,36]),(329,[37,38,39,17,40,41,42]),(532,[37,44,15,45]),(568,[46,0,47]),(673,[46,12,0])]
end
end Mine
end
section
namespace Mine
open PySem PySem.W
set_option tactic.hygienic false
set_option backward.match.sparseCases false
set_option genInjectivity false
noncomputable def vw{a:Type}(f:a->Nat)(i:Nat)(x:a)(k:f x=i->Bool):Bool:=if h:f x=i then k h else false
theorem nt{P:Prop}(h:false=true):P:=absurd h yA
theorem gY{k:f x=i->Bool}(h:vw f i x k=true):∃q,k q=true:=by
 unfold vw at h;by_cases q:f x=i;·rw [dif_pos q]at h;exact⟨q,h⟩
 rw [dif_neg q]at h;exact nt h
structure Cx where
 d:mK
 j:List<|Option ac
noncomputable def OW:Option qZ->Bool|some .globalImplicit=>true|_=>false
noncomputable def pS:Option qZ->Bool|some .local=>true|_=>false
noncomputable def mH:Option qZ->Bool|some .cell=>true|_=>false
noncomputable def vL:Option qZ->Bool|some .free=>true|_=>false
noncomputable def Cx.f(c:Cx)(x:ac):Bool:=OW (c.d.names.lookup x)&&x !="__debug__"
noncomputable def Cx.u(c:Cx)(i:Nat)(x:ac):Bool:=match c.j[i]? with|some (J y)=>y==x&&x !="__debug__"|_=>false
noncomputable def fI(x:bp):Bool:=!nB x.ctorIdx 22
noncomputable def zj(x:bp):Bool:=!nB x.ctorIdx 26
noncomputable def pT(x:bp):Bool:=!nB x.ctorIdx 8&&!nB x.ctorIdx 9&&!nB x.ctorIdx 10
noncomputable def OX(x:bp):Bool:=!nB x.ctorIdx 25&&!nB x.ctorIdx 24
noncomputable def kZ(x:bp):Bool:=!nB x.ctorIdx 7
noncomputable def vM:Const->Option V|.none=>J .o|.bool b=>J<|.n b|.int i=>J<|.d i|.str s=>J<|.k s.cps.toList|_=>aA
noncomputable def xa:IV->Option lO
 |.Add=>J .a|.Sub=>J .c|.Mult=>J .g|.FloorDiv=>J .f|.Mod=>J .e|.BitAnd=>J .b|.BitOr=>J .d
 |_=>aA
noncomputable def Ce:CmpOp->Option tF
 |.Eq=>J .c|.NotEq=>J .d|.Lt=>J .f|.LtE=>J .g|.Gt=>J .h|.GtE=>J .e|.In=>J .b|.NotIn=>J .a
 |_=>aA
noncomputable def tJ:bp->List ac
 |.Name x _=>[x]|.Tuple l _ _=>l.filterMap λe=>match e with|.Name x _=>J x|_=>aA
 |_=>[]
noncomputable def oO(a sc:mK):Scope:={sc with names:=sc.names.map λ(n,k)=>if vL (J k)&&mH (a.names.lookup n)then(n,.cell)else(n,k)}
noncomputable def xb:List Nat->List ac->List (Option ac)->List (Option ac)|i::c,x::d,a=>xb c d<|a.set i<|J x|_,_,a=>a
noncomputable def gM:Tg->List Nat|.a i=>[i]|.c a=>a
noncomputable def Cx.n(c:Cx)(sc:mK)(t:Tg)(a:bp):Cx:=
 ⟨oO c.d sc,xb (gM t) (tJ a)<|c.j.map λo=>o.filter λx=>mH (c.d.names.lookup x)&&vL (sc.names.lookup x)⟩
noncomputable def tK(c:Cx)(sc:mK)(t:Tg)(a:bp):Bool:=
 (match sc.kind with|.function=>true|_=>false)&&!sc.isGenerator&&!sc.isCoroutine&&
 sc.names.all (λp=>match p.2 with|.cell=>false|.free=>mH (c.d.names.lookup p.1)&&c.j.contains (J p.1)|_=>true)&&aJ (sc.names.map (·.1)).Nodup&&
 (tJ a).all (λx=>pS<|sc.names.lookup x)&&(gM t).length==(tJ a).length&&aJ (gM t).Nodup&&aJ (tJ a).Nodup
noncomputable def Cf(f:Nat):Option Str:=(tO[f]?).bind (·.2.1)
noncomputable def Gq(k:Nat):Option Str:=(qS.find? λp=>p.1==k).map (·.2.1)
noncomputable def pU(o:Option ac)(x:ac):Bool:=match o with|some y=>y==x|none=>false
noncomputable def zk(k:Const->Nat->nC->Bool)(x:bp):Bool:=vw mO 19 x λh=>SF (motive_1:=λ_=>Bool) x h k
theorem zm(h:zk k x=true):X3 λa b c=>A2 (x=.Constant a b c) (k a b c=true):=
 (gY h).elim λq d=>SF (motive_1:=λx=>(h:x.ctorIdx=19)->SF (motive_1:=λ_=>Bool) x h k=true->X3 λa b c=>A2 (x=.Constant a b c)<|k a b c=true) x q (λa b c _ d=>⟨a,b,c,rfl,d⟩) q d
noncomputable def jy(k:ac->nC->Bool)(x:bp):Bool:=vw mO 23 x λh=>Expr.Name.elim (motive_1:=λ_=>Bool) x h k
theorem pV(h:jy k x=true):X2 λa b=>A2 (x=.Name a b) (k a b=true):=
 (gY h).elim λq c=>Expr.Name.elim (motive_1:=λx=>(h:x.ctorIdx=23)->Expr.Name.elim (motive_1:=λ_=>Bool) x h k=true->X2 λa b=>A2 (x=.Name a b)<|k a b=true) x q (λa b _ c=>⟨a,b,rfl,c⟩) q c
noncomputable def vN(k:bp->ac->nC->Bool)(x:bp):Bool:=vw mO 20 x λh=>SG (motive_1:=λ_=>Bool) x h k
theorem xd(h:vN k x=true):X3 λa b c=>A2 (x=.Attribute a b c) (k a b c=true):=
 (gY h).elim λq d=>SG (motive_1:=λx=>(h:x.ctorIdx=20)->SG (motive_1:=λ_=>Bool) x h k=true->X3 λa b c=>A2 (x=.Attribute a b c)<|k a b c=true) x q (λa b c _ d=>⟨a,b,c,rfl,d⟩) q d
noncomputable def vO(k:bp->bp->nC->Bool)(x:bp):Bool:=vw mO 21 x λh=>SH (motive_1:=λ_=>Bool) x h k
theorem xe(h:vO k x=true):X3 λa b c=>A2 (x=.Subscript a b c) (k a b c=true):=
 (gY h).elim λq d=>SH (motive_1:=λx=>(h:x.ctorIdx=21)->SH (motive_1:=λ_=>Bool) x h k=true->X3 λa b c=>A2 (x=.Subscript a b c)<|k a b c=true) x q (λa b c _ d=>⟨a,b,c,rfl,d⟩) q d
noncomputable def zn(k:Option bp->Option bp->Option bp->Bool)(x:bp):Bool:=vw mO 26 x λh=>Expr.Slice.elim (motive_1:=λ_=>Bool) x h λa b c _=>k a b c
theorem Cg(h:zn k x=true):X4 λa b c d=>A2 (x=.Slice a b c d) (k a b c=true):=
 (gY h).elim λq e=>Expr.Slice.elim (motive_1:=λx=>(h:x.ctorIdx=26)->Expr.Slice.elim (motive_1:=λ_=>Bool) x h (λa b c _=>k a b c)=true->X4 λa b c d=>A2 (x=.Slice a b c d)<|k a b c=true) x q (λa b c d _ e=>⟨a,b,c,d,rfl,e⟩) q e
noncomputable def Ci(k:bp->IV->bp->Bool)(x:bp):Bool:=vw mO 2 x λh=>Expr.BinOp.elim (motive_1:=λ_=>Bool) x h λa b c _=>k a b c
theorem Gs(h:Ci k x=true):X4 λa b c d=>A2 (x=.BinOp a b c d) (k a b c=true):=
 (gY h).elim λq e=>Expr.BinOp.elim (motive_1:=λx=>(h:x.ctorIdx=2)->Expr.BinOp.elim (motive_1:=λ_=>Bool) x h (λa b c _=>k a b c)=true->X4 λa b c d=>A2 (x=.BinOp a b c d)<|k a b c=true) x q (λa b c d _ e=>⟨a,b,c,d,rfl,e⟩) q e
noncomputable def zo(k:UnaryOp->bp->Bool)(x:bp):Bool:=vw mO 3 x λh=>SI (motive_1:=λ_=>Bool) x h λa b _=>k a b
theorem zp(h:zo k x=true):X3 λa b c=>A2 (x=.UnaryOp a b c) (k a b=true):=
 (gY h).elim λq d=>SI (motive_1:=λx=>(h:x.ctorIdx=3)->SI (motive_1:=λ_=>Bool) x h (λa b _=>k a b)=true->X3 λa b c=>A2 (x=.UnaryOp a b c)<|k a b=true) x q (λa b c _ d=>⟨a,b,c,rfl,d⟩) q d
noncomputable def Cj(k:bp->List CmpOp->List bp->Bool)(x:bp):Bool:=vw mO 15 x λh=>SJ (motive_1:=λ_=>Bool) x h λa b c _=>k a b c
theorem Gu(h:Cj k x=true):X4 λa b c d=>A2 (x=.Compare a b c d) (k a b c=true):=
 (gY h).elim λq e=>SJ (motive_1:=λx=>(h:x.ctorIdx=15)->SJ (motive_1:=λ_=>Bool) x h (λa b c _=>k a b c)=true->X4 λa b c d=>A2 (x=.Compare a b c d)<|k a b c=true) x q (λa b c d _ e=>⟨a,b,c,d,rfl,e⟩) q e
noncomputable def Gv(k:BoolOp->List bp->Bool)(x:bp):Bool:=vw mO 0 x λh=>Expr.BoolOp.elim (motive_1:=λ_=>Bool) x h λa b _=>k a b
theorem OY(h:Gv k x=true):X3 λa b c=>A2 (x=.BoolOp a b c) (k a b=true):=
 (gY h).elim λq d=>Expr.BoolOp.elim (motive_1:=λx=>(h:x.ctorIdx=0)->Expr.BoolOp.elim (motive_1:=λ_=>Bool) x h (λa b _=>k a b)=true->X3 λa b c=>A2 (x=.BoolOp a b c)<|k a b=true) x q (λa b c _ d=>⟨a,b,c,rfl,d⟩) q d
noncomputable def OZ(k:bp->bp->bp->Bool)(x:bp):Bool:=vw mO 5 x λh=>Expr.IfExp.elim (motive_1:=λ_=>Bool) x h λa b c _=>k a b c
theorem aEp(h:OZ k x=true):X4 λa b c d=>A2 (x=.IfExp a b c d) (k a b c=true):=
 (gY h).elim λq e=>Expr.IfExp.elim (motive_1:=λx=>(h:x.ctorIdx=5)->Expr.IfExp.elim (motive_1:=λ_=>Bool) x h (λa b c _=>k a b c)=true->X4 λa b c d=>A2 (x=.IfExp a b c d)<|k a b c=true) x q (λa b c d _ e=>⟨a,b,c,d,rfl,e⟩) q e
noncomputable def zq(k:List bp->Bool)(x:bp):Bool:=vw mO 25 x λh=>Expr.Tuple.elim (motive_1:=λ_=>Bool) x h λa _ _=>k a
theorem Ck(h:zq k x=true):X3 λa b c=>A2 (x=.Tuple a b c) (k a=true):=
 (gY h).elim λq d=>Expr.Tuple.elim (motive_1:=λx=>(h:x.ctorIdx=25)->Expr.Tuple.elim (motive_1:=λ_=>Bool) x h (λa _ _=>k a)=true->X3 λa b c=>A2 (x=.Tuple a b c)<|k a=true) x q (λa b c _ d=>⟨a,b,c,rfl,d⟩) q d
noncomputable def Gw(k:List bp->Bool)(x:bp):Bool:=vw mO 24 x λh=>Expr.List.elim (motive_1:=λ_=>Bool) x h λa _=>k a
theorem O0(h:Gw k x=true):X2 λa b=>A2 (x=.List a b) (k a=true):=
 (gY h).elim λq c=>Expr.List.elim (motive_1:=λx=>(h:x.ctorIdx=24)->Expr.List.elim (motive_1:=λ_=>Bool) x h (λa _=>k a)=true->X2 λa b=>A2 (x=.List a b)<|k a=true) x q (λa b _ c=>⟨a,b,rfl,c⟩) q c
noncomputable def O1(k:List (Option bp)->List bp->Bool)(x:bp):Bool:=vw mO 6 x λh=>Expr.Dict.elim (motive_1:=λ_=>Bool) x h λa b _=>k a b
theorem aEq(h:O1 k x=true):X3 λa b c=>A2 (x=.Dict a b c) (k a b=true):=
 (gY h).elim λq d=>Expr.Dict.elim (motive_1:=λx=>(h:x.ctorIdx=6)->Expr.Dict.elim (motive_1:=λ_=>Bool) x h (λa b _=>k a b)=true->X3 λa b c=>A2 (x=.Dict a b c)<|k a b=true) x q (λa b c _ d=>⟨a,b,c,rfl,d⟩) q d
noncomputable def k0(k:bp->List bp->List Keyword->nC->Bool)(x:bp):Bool:=vw mO 16 x λh=>Expr.Call.elim (motive_1:=λ_=>Bool) x h k
theorem qO(h:k0 k x=true):X4 λa b c d=>A2 (x=.Call a b c d) (k a b c d=true):=
 (gY h).elim λq e=>Expr.Call.elim (motive_1:=λx=>(h:x.ctorIdx=16)->Expr.Call.elim (motive_1:=λ_=>Bool) x h k=true->X4 λa b c d=>A2 (x=.Call a b c d)<|k a b c d=true) x q (λa b c d _ e=>⟨a,b,c,d,rfl,e⟩) q e
noncomputable def Cm(k:bp->List aHM->mK->nC->Bool)(x:bp):Bool:=vw mO 8 x λh=>SK (motive_1:=λ_=>Bool) x h k
theorem Gx(h:Cm k x=true):X4 λa b c d=>A2 (x=.ListComp a b c d) (k a b c d=true):=
 (gY h).elim λq e=>SK (motive_1:=λx=>(h:x.ctorIdx=8)->SK (motive_1:=λ_=>Bool) x h k=true->X4 λa b c d=>A2 (x=.ListComp a b c d)<|k a b c d=true) x q (λa b c d _ e=>⟨a,b,c,d,rfl,e⟩) q e
noncomputable def p1{c:Type}(k:c->Bool):List c->Bool|[a]=>k a|_=>false
noncomputable def p2{c:Type}(k:c->c->Bool):List c->Bool|[a,b]=>k a b|_=>false
noncomputable def p3{d:Type}(k:d->d->d->Bool):List d->Bool|[a,b,c]=>k a b c|_=>false
noncomputable def vP{c:Type}(k:c->c->List c->Bool):List c->Bool|a::b::r=>k a b r|_=>false
noncomputable def qP{c:Type}(k:c->Bool):Option c->Bool|some a=>k a|none=>false
noncomputable def qQ{a:Type}:Option a->Bool|some _=>false|none=>true
noncomputable def ew{a:Type}:List a->Bool|[]=>true|_=>false
noncomputable def Gy{c:Type}(k:c->List c->Bool):List c->Bool|a::r=>k a r|_=>false
theorem bV(h:(a&&b)=true):a=true/\b=true:=bi.mp h
theorem eM(h:(a&&b&&c)=true):a=true/\b=true/\c=true:=⟨(bV (bV h).1).1,(bV (bV h).1).2,(bV h).2⟩
theorem jz(h:(a&&b&&c&&d)=true):a=true/\b=true/\c=true/\d=true:=⟨(eM (bV h).1).1,(eM (bV h).1).2.1,(eM (bV h).1).2.2,(bV h).2⟩
theorem Gz(h:(a&&b&&c&&d&&e)=true):a=true/\b=true/\c=true/\d=true/\e=true:=⟨(jz (bV h).1).1,(jz (bV h).1).2.1,(jz (bV h).1).2.2.1,(jz (bV h).1).2.2.2,(bV h).2⟩
section
theorem j_{l:List c}(h:p1 k l=true):∃a,l=[a]/\k a=true:=by rcases l with _|⟨a,_|⟨b,l⟩⟩<;>first|exact⟨_,rfl,h⟩|exact nt h
theorem O2{l:List d}(h:p2 k l=true):X2 λa b=>A2 (l=[a,b]) (k a b=true):=by rcases l with _|⟨a,_|⟨b,_|⟨c,l⟩⟩⟩<;>first|exact⟨_,_,rfl,h⟩|exact nt h
theorem aEr{l:List e}(h:p3 k l=true):X3 λa b c=>A2 (l=[a,b,c]) (k a b c=true):=by rcases l with _|⟨a,_|⟨b,_|⟨c,_|⟨d,l⟩⟩⟩⟩<;>first|exact⟨_,_,_,rfl,h⟩|exact nt h
theorem O3{l:List c}(h:vP k l=true):X3 λa b r=>A2 (l=a::b::r) (k a b r=true):=by rcases l with _|⟨a,_|⟨b,l⟩⟩<;>first|exact⟨_,_,_,rfl,h⟩|exact nt h
theorem rN{o:Option c}(h:qP k o=true):∃a,o=J a/\k a=true:=by induction o<;>first|exact⟨_,rfl,h⟩|exact nt h
theorem rO{o:Option a}(h:qQ o=true):o=none:=by induction o<;>first|rfl|exact nt h
theorem jH{l:List a}(h:ew l=true):l=[]:=by induction l<;>first|rfl|exact nt h
theorem G_{l:List c}(h:Gy k l=true):X2 λa r=>A2 (l=a::r) (k a r=true):=by rcases l with _|⟨a,l⟩<;>first|exact⟨_,_,rfl,h⟩|exact nt h
end
noncomputable def oP(x:bp):Bool:=!k0 (λf a k _=>jy (λ_ _=>true) f&&ew a&&ew k) x
noncomputable def vQ(x:bp):Bool:=zo (λo x=>aJ (o=.USub)&&zk (λk _ _=>aJ<|vM k=J (.d 1)) x) x
noncomputable def HA(x:bp):Bool:=zk (λk _ _=>aJ<|vM k=J (.d 1)) x
noncomputable def tL(x:bp):Bool:=zk (λk _ _=>aJ<|vM k=J .o) x
noncomputable def Cx.r(c:Cx)(i:Nat)(x:bp):Bool:=jy (λx _=>c.u i x) x
noncomputable def Cx.s(c:Cx):List Nat->List bp->Bool|[],l=>ew l|i::a,l=>Gy (λe es=>c.r i e&&c.s a es) l
noncomputable def Cx.q(c:Cx):Tg->bp->Bool|.a i,e=>c.r i e|.c a,e=>zq (λl=>c.s a l) e
noncomputable def O4(k:Nat)(v:V)(x:ac):Bool:=match zt[k]? with|some (y,i)=>y==x&&aJ (v=.d i)|none=>false
noncomputable def O5(k a:Nat)(x:ac):Bool:=match mI[k]? with|some (y,b,_)=>y==x&&a==b|none=>false
noncomputable def O6(g:aHM):Bool:=aJ<|g.is_async=0
mutual
noncomputable def bx(c:Cx):E->bp->Bool|.ab,_=>true|.h v,x=>zk (λk _ _=>aJ<|vM k=J v) x|.q k v,x=>jy (λx _=>O4 k v x&&c.f x) x|.K k a,x=>jy (λx _=>O5 k a x&&c.f x) x|.g i,x=>jy (λx _=>c.u i x) x|.l e a,x=>vN (λo n _=>oP o&&pU gU[a]? n&&bx c e o) x|.p e i,x=>vO (λo s _=>zj s&&bx c e o&&bx c i s) x|.I e,x=>vO (λo s _=>zn (λa b m=>qQ a&&qQ b&&qP vQ m) s&&bx c e o) x|.R e,x=>vO (λo s _=>zn (λa m b=>qQ a&&qQ b&&qP vQ m) s&&bx c e o) x|.L e,x=>vO (λo s _=>zn (λm a b=>qQ a&&qQ b&&qP HA m) s&&bx c e o) x|.S e n,x=>vO (λo s _=>zn (λa m b=>qQ a&&qQ b&&qP (λm=>bx c n m) m) s&&bx c e o) x|.s q a b,x=>Ci (λx o y=>aJ (xa o=J q)&&bx c a x&&bx c b y) x|.C e,x=>zo (λo x=>aJ (o=.USub)&&bx c e x) x|.U e,x=>zo (λo x=>aJ (o=.Invert)&&bx c e x) x|.B e,x=>zo (λo x=>aJ (o=.Not)&&bx c e x) x|.w q a b,x=>Cj (λx B C=>p1 (λo=>aJ<|Ce o=J q) B&&p1 (λy=>kZ y&&bx c b y) C&&bx c a x) x|.D e,x=>Cj (λx B C=>p1 (λo=>aJ<|o=.Is) B&&p1 tL C&&bx c e x) x|.M e,x=>Cj (λx B C=>p1 (λo=>aJ<|o=.IsNot) B&&p1 tL C&&bx c e x) x|.H a b,x=>Gv (λD l=>aJ (D=.And)&&vP (λx y r=>bx c a x&&(bif ew r then bx c b y else qR c .And b<|y::r)) l) x|.N a b,x=>Gv (λD l=>aJ (D=.Or)&&vP (λx y r=>bx c a x&&(bif ew r then bx c b y else qR c .Or b<|y::r)) l) x|.F q a b,x=>OZ (λx y z=>bx c q x&&bx c a y&&bx c b z) x|.r es,x=>zq (λl=>aJ (l.length<1000)&&kA c es l) x|.u es,x=>Gw (λl=>aJ (l.length<1000)&&kA c es l) x|.A _,x=>O1 (λa b=>ew a&&ew b) x|.W es n,x=>Ci (λy o m=>aJ (o=.Mult)&&Gw (λl=>aJ (l.length<1000)&&kA c es l) y&&bx c n m) x|.X es n,x=>Ci (λy o m=>aJ (o=.Mult)&&zq (λl=>aJ (l.length<1000)&&kA c es l) y&&bx c n m) x|.j f es,x=>k0 (λg l k _=>ew k&&jy (λx _=>pU (Cf f) x&&c.f x) g&&kA c es l) x|.J n es,x=>k0 (λg l k _=>ew k&&jy (λx _=>pU (Gq n) x&&c.f x) g&&kA c es l) x|.G e m es,x=>k0 (λg l k p=>ew k&&vN (λo n w=>oP o&&w.endLine==p.line&&pU gU[m]? n&&bx c e o) g&&aJ (l.length<29)&&kA c es l) x|.y e y,x=>k0 (λg l k p=>ew k&&vN (λo n w=>oP o&&w.endLine==p.line&&n=="append"&&bx c e o) g&&p1 (λz=>fI z&&bx c y z) l) x|.Y e,x=>k0 (λg l k p=>ew k&&vN (λo n w=>oP o&&w.endLine==p.line&&n=="pop"&&bx c e o) g&&ew l) x|.P e i d,x=>k0 (λg l k p=>ew k&&vN (λo n w=>oP o&&w.endLine==p.line&&n=="get"&&bx c e o) g&&p2 (λy z=>fI y&&fI z&&bx c i y&&bx c d z) l) x|.z e,x=>k0 (λg l k _=>ew k&&jy (λx _=>x=="len"&&c.f x) g&&p1 (λy=>fI y&&bx c e y) l) x|.Q e,x=>k0 (λg l k _=>ew k&&jy (λx _=>x=="tuple"&&c.f x) g&&p1 (λy=>fI y&&bx c e y) l) x|.T e,x=>k0 (λg l k _=>ew k&&jy (λx _=>x=="list"&&c.f x) g&&p1 (λy=>fI y&&bx c e y) l) x|.Z e,x=>k0 (λg l k _=>ew k&&jy (λx _=>x=="str"&&c.f x) g&&p1 (λy=>fI y&&bx c e y) l) x|.O A t H,x=>Cm (λx I sc _=>p1 (λg=>O6 g&&ew g.ifs&&kZ g.iter&&tK c sc t g.target&&bx c H g.iter&&(c.n sc t g.target).q t g.target&&bx (c.n sc t g.target) A x) I) x|.aa A t H q,x=>Cm (λx I sc _=>p1 (λg=>O6 g&&p1 (λy=>bx (c.n sc t g.target) q y) g.ifs&&kZ g.iter&&tK c sc t g.target&&bx c H g.iter&&(c.n sc t g.target).q t g.target&&bx (c.n sc t g.target) A x) I) x
noncomputable def qR(c:Cx)(d:BoolOp):E->List bp->Bool|.H a b,l=>aJ (d=.And)&&vP (λx y r=>bx c a x&&(bif ew r then bx c b y else qR c d b<|y::r)) l|.N a b,l=>aJ (d=.Or)&&vP (λx y r=>bx c a x&&(bif ew r then bx c b y else qR c d b<|y::r)) l|_,_=>false
noncomputable def kA(c:Cx):Es->List bp->Bool|.nil,[]=>true|.cons e es,x::l=>fI x&&bx c e x&&kA c es l|_,_=>false
end
noncomputable def Cx.A(c:Cx):It->bp->Bool|.e e,x=>kZ x&&bx c e x|.c a,x=>k0 (λg l k _=>ew k&&jy (λx _=>x=="range"&&c.f x) g&&p1 (λy=>fI y&&bx c a y) l) x|.f a b,x=>k0 (λg l k _=>ew k&&jy (λx _=>x=="range"&&c.f x) g&&p2 (λy z=>fI y&&fI z&&bx c a y&&bx c b z) l) x|.d a b,x=>k0 (λg l k _=>ew k&&jy (λx _=>x=="range"&&c.f x) g&&p3 (λy z m=>fI y&&fI z&&bx c a y&&bx c b z&&vQ m) l) x
noncomputable def O7(k:bp->Bool)(x:dm):Bool:=vw yE 24 x λh=>Stmt.Expr.elim (motive_2:=λ_=>Bool) x h λa _=>k a
theorem aEs(h:O7 k x=true):X2 λa b=>A2 (x=.Expr a b) (k a=true):=
 (gY h).elim λq c=>Stmt.Expr.elim (motive_2:=λx=>(h:x.ctorIdx=24)->Stmt.Expr.elim (motive_2:=λ_=>Bool) x h (λa _=>k a)=true->X2 λa b=>A2 (x=.Expr a b)<|k a=true) x q (λa b _ c=>⟨a,b,rfl,c⟩) q c
noncomputable def xf(k:List bp->bp->nC->Bool)(x:dm):Bool:=vw yE 5 x λh=>Stmt.Assign.elim (motive_2:=λ_=>Bool) x h k
theorem zr(h:xf k x=true):X3 λa b c=>A2 (x=.Assign a b c) (k a b c=true):=
 (gY h).elim λq d=>Stmt.Assign.elim (motive_2:=λx=>(h:x.ctorIdx=5)->Stmt.Assign.elim (motive_2:=λ_=>Bool) x h k=true->X3 λa b c=>A2 (x=.Assign a b c)<|k a b c=true) x q (λa b c _ d=>⟨a,b,c,rfl,d⟩) q d
noncomputable def O8(k:bp->IV->bp->Bool)(x:dm):Bool:=vw yE 7 x λh=>SL (motive_2:=λ_=>Bool) x h λa b c _=>k a b c
theorem aEt(h:O8 k x=true):X4 λa b c d=>A2 (x=.AugAssign a b c d) (k a b c=true):=
 (gY h).elim λq e=>SL (motive_2:=λx=>(h:x.ctorIdx=7)->SL (motive_2:=λ_=>Bool) x h (λa b c _=>k a b c)=true->X4 λa b c d=>A2 (x=.AugAssign a b c d)<|k a b c=true) x q (λa b c d _ e=>⟨a,b,c,d,rfl,e⟩) q e
noncomputable def O9(k:bp->List dm->List dm->Bool)(x:dm):Bool:=vw yE 12 x λh=>Stmt.If.elim (motive_2:=λ_=>Bool) x h λa b c _=>k a b c
theorem aEu(h:O9 k x=true):X4 λa b c d=>A2 (x=.If a b c d) (k a b c=true):=
 (gY h).elim λq e=>Stmt.If.elim (motive_2:=λx=>(h:x.ctorIdx=12)->Stmt.If.elim (motive_2:=λ_=>Bool) x h (λa b c _=>k a b c)=true->X4 λa b c d=>A2 (x=.If a b c d)<|k a b c=true) x q (λa b c d _ e=>⟨a,b,c,d,rfl,e⟩) q e
noncomputable def Oa(k:bp->List dm->List dm->Bool)(x:dm):Bool:=vw yE 11 x λh=>Stmt.While.elim (motive_2:=λ_=>Bool) x h λa b c _=>k a b c
theorem aEv(h:Oa k x=true):X4 λa b c d=>A2 (x=.While a b c d) (k a b c=true):=
 (gY h).elim λq e=>Stmt.While.elim (motive_2:=λx=>(h:x.ctorIdx=11)->Stmt.While.elim (motive_2:=λ_=>Bool) x h (λa b c _=>k a b c)=true->X4 λa b c d=>A2 (x=.While a b c d)<|k a b c=true) x q (λa b c d _ e=>⟨a,b,c,d,rfl,e⟩) q e
noncomputable def Ob(k:bp->bp->List dm->List dm->Bool)(x:dm):Bool:=vw yE 9 x λh=>Stmt.For.elim (motive_2:=λ_=>Bool) x h λa b c d _=>k a b c d
theorem aEw(h:Ob k x=true):X5 λa b c d e=>A2 (x=.For a b c d e) (k a b c d=true):=
 (gY h).elim λq l=>Stmt.For.elim (motive_2:=λx=>(h:x.ctorIdx=9)->Stmt.For.elim (motive_2:=λ_=>Bool) x h (λa b c d _=>k a b c d)=true->X5 λa b c d e=>A2 (x=.For a b c d e)<|k a b c d=true) x q (λa b c d e _ l=>⟨a,b,c,d,e,rfl,l⟩) q l
noncomputable def Oc(k:Option bp->Bool)(x:dm):Bool:=vw yE 3 x λh=>Stmt.Return.elim (motive_2:=λ_=>Bool) x h λa _=>k a
theorem aEx(h:Oc k x=true):X2 λa b=>A2 (x=.Return a b) (k a=true):=
 (gY h).elim λq c=>Stmt.Return.elim (motive_2:=λx=>(h:x.ctorIdx=3)->Stmt.Return.elim (motive_2:=λ_=>Bool) x h (λa _=>k a)=true->X2 λa b=>A2 (x=.Return a b)<|k a=true) x q (λa b _ c=>⟨a,b,rfl,c⟩) q c
noncomputable def Od(x:dm):Bool:=nB x.ctorIdx 27
theorem aEy(h:Od x=true):∃p,x=.Continue p:=Stmt.Continue.elim (motive_2:=λx=>∃p,x=.Continue p) x (aGR h) λp=>⟨p,rfl⟩
noncomputable def Oe:E->Bool|.h .o=>true|_=>false
mutual
noncomputable def Of(c:Cx):S->dm->Bool|.h,_=>true|.j e,x=>O7 (λv=>pT v&&bx c e v) x|.d i e,x=>xf (λd v _=>p1 (λt=>c.r i t) d&&pT v&&bx c e v) x|.r i w t z,x=>xf (λd v q=>p1 (λt=>jy (λx p=>c.u i x&&pS (c.d.names.lookup x)&&p.line==q.line&&Cm (λ_ _ sc B=>p.line==B.line&&!(sc.names.any λ(n,k)=>n==x&&(pS (J k)||mH (J k)))) v) t) d&&bx c (.O w t z) v) x|.s C e,x=>xf (λd v _=>p1 (λt=>zq (λl=>c.s C l) t) d&&pT v&&OX v&&bx c e v) x|.k o a e,x=>xf (λd v _=>p1 (λt=>vN (λt n _=>pU gU[a]? n&&bx c o t) t) d&&pT v&&bx c e v) x|.m o i e,x=>xf (λd v _=>p1 (λt=>vO (λt s _=>zj s&&bx c o t&&bx c i s) t) d&&pT v&&bx c e v) x|.p i q e,x=>O8 (λt o v=>aJ (xa o=J q)&&(aJ (q=.a)||aJ (q=.c))&&c.r i t&&bx c e v) x|.f q a b,x=>O9 (λx l r=>bx c q x&&rP c a l&&rP c b r) x|.n q b,x=>Oa (λx l r=>ew r&&bx c q x&&rP c b l) x|.l t z b,x=>Ob (λA m l r=>ew r&&c.q t A&&c.A z m&&rP c b l) x|.g e,x=>Oc (λo=>(qQ o&&Oe e)||qP (λv=>bx c e v) o) x|.q,x=>Od x
noncomputable def rP(c:Cx):Ss->List dm->Bool|.nil,l=>ew l|.cons s a,x::l=>Of c s x&&rP c a l|_,_=>false
end
noncomputable def xg(a:Fn)(sc:mK):Cx:=⟨sc,a.b.map λx=>if pS (sc.names.lookup x)||mH (sc.names.lookup x)then J x else aA⟩
noncomputable def HB(p:Arguments):Bool:=p.posonlyargs.isEmpty&&p.vararg.isNone&&p.kwonlyargs.isEmpty&&p.kwarg.isNone
noncomputable def HF(k:String->Bool)(v:aQ):Bool:=vw aHN 8 v λh=>Value.type.elim (motive:=λ_=>Bool) v h k
theorem Og(h:HF k v=true):∃t,v=.type t/\k t=true:=
 (gY h).elim λq a=>Value.type.elim (motive:=λv=>(h:v.ctorIdx=8)->Value.type.elim (motive:=λ_=>Bool) v h k=true->∃t,v=.type t/\k t=true) v q (λt _ a=>⟨t,rfl,a⟩) q a
noncomputable def Cn(k:Int->Bool)(v:aQ):Bool:=vw aHN 4 v λh=>Value.int.elim (motive:=λ_=>Bool) v h λi _=>k i
theorem HH(h:Cn k v=true):X2 λi t=>A2 (v=.int i t) (k i=true):=
 (gY h).elim λq a=>Value.int.elim (motive:=λv=>(h:v.ctorIdx=4)->Value.int.elim (motive:=λ_=>Bool) v h (λi _=>k i)=true->X2 λi t=>A2 (v=.int i t)<|k i=true) v q (λi t _ a=>⟨i,t,rfl,a⟩) q a
noncomputable def Oh(k:IM->Bool)(v:Data):Bool:=vw aHO 7 v λh=>Data.func.elim (motive:=λ_=>Bool) v h k
theorem aEz(h:Oh k v=true):∃t,v=.func t/\k t=true:=
 (gY h).elim λq a=>Data.func.elim (motive:=λv=>(h:v.ctorIdx=7)->Data.func.elim (motive:=λ_=>Bool) v h k=true->∃t,v=.func t/\k t=true) v q (λt _ a=>⟨t,rfl,a⟩) q a
noncomputable def Oi(k:Array iq->Bool)(v:Data):Bool:=vw aHO 3 v λh=>Data.dict.elim (motive:=λ_=>Bool) v h λe _=>k e
theorem aEA(h:Oi k v=true):X2 λt n=>A2 (v=.dict t n) (k t=true):=
 (gY h).elim λq a=>Data.dict.elim (motive:=λv=>(h:v.ctorIdx=3)->Data.dict.elim (motive:=λ_=>Bool) v h (λe _=>k e)=true->X2 λt n=>A2 (v=.dict t n)<|k t=true) v q (λt n _ a=>⟨t,n,rfl,a⟩) q a
noncomputable def HI(k:List dm->Bool):FuncBody->Bool|.stmts b=>k b|_=>false
theorem aEB{b:FuncBody}(h:HI k b=true):∃l,b=.stmts l/\k l=true:=by
 induction b with
 |stmts l=>exact bU l rfl h|_=>exact nt h
noncomputable def Oj(k:ScopeKind):Bool:=aJ<|k=.function
noncomputable def HJ(c:nH)(f:Nat×Option ac×Fn)(t:String)(a:IM):Bool:=t=="function"&&HI (λb=>rP (xg f.2.2 a.scope) f.2.2.d b) a.body&&
 Oj a.scope.kind&&!a.scope.isGenerator&&!a.scope.isCoroutine&&HB a.params&&a.closure.isEmpty&&a.globals==kC&&a.builtins==DP&&
 codeIn c a.code a.qualname&&aJ (a.defaults=.none)&&aJ ((a.params.args.map (·.arg))=f.2.2.b.take f.2.2.a)&&aJ (f.2.2.a<=f.2.2.c)&&aJ (f.2.2.b.length=f.2.2.c)&&aJ f.2.2.b.Nodup&&
 (f.2.2.b.take f.2.2.a).all (λx=>pS (a.scope.names.lookup x)||mH (a.scope.names.lookup x))&&
 (match f.2.1 with|some x=>aJ (qX c kC x=J (J<|.ref f.1))|none=>true)
structure Ol(K:nH)(f:Nat×Option ac×Fn)(t:String)(fd:IM):Prop where
 s:t="function"
 g:HI (λb=>rP (xg f.2.2 fd.scope) f.2.2.d b) fd.body=true
 h:fd.scope.kind=.function
 o:fd.scope.isGenerator=false
 n:fd.scope.isCoroutine=false
 i:HB fd.params=true
 m:fd.closure.isEmpty=true
 p:fd.globals=kC
 q:fd.builtins=DP
 l:codeIn K fd.code fd.qualname=true
 j:fd.defaults=.none
 c:(fd.params.args.map (·.arg))=f.2.2.b.take f.2.2.a
 a:f.2.2.a<=f.2.2.c
 d:f.2.2.b.length=f.2.2.c
 e:f.2.2.b.Nodup
 k:(f.2.2.b.take f.2.2.a).all (λx=>pS (fd.scope.names.lookup x)||mH (fd.scope.names.lookup x))=true
 r:(match f.2.1 with|some x=>aJ (qX K kC x=J (J<|.ref f.1))|none=>true)=true
theorem aEC(h:HJ I f t q=true):Ol I f t q:=by simp only [HJ,Oj,iV,decide_eq_true_eq,IW,beq_iff_eq]at h;obtain⟨⟨⟨⟨⟨⟨⟨⟨⟨⟨⟨⟨⟨⟨⟨⟨v,w⟩,x⟩,z⟩,A⟩,B⟩,C⟩,D⟩,H⟩,a⟩,c⟩,d⟩,e⟩,l⟩,m⟩,n⟩,p⟩:=h;exact⟨v,w,x,z,A,B,C,D,H,a,c,d,e,l,m,n,p⟩
noncomputable def HK(c:nH)(f:Nat×Option ac×Fn):Bool:=qP (λo=>HF (λt=>Oh (λa=>HJ c f t a) o.data) o.cls)<|c.lookup f.1
theorem Om(h:HK p f=true):X4 λt d l sl=>A2 (p.lookup f.1=J ⟨.type t,d,.func l,sl⟩) (Ol p f t l):=by refine aG (rN h) λm n h=>?_;obtain⟨c,d,e,sl⟩:=m;refine aG (Og h) λt a h=>?_;subst a;refine aG (aEz h) λl a h=>?_;subst a;exact⟨t,d,l,sl,n,aEC h⟩
end Mine
end
section
namespace Mine
open PySem PyProof.Rows PySem.W
set_option tactic.hygienic false
set_option backward.match.sparseCases false
noncomputable def Qn(a:Nat):Bool:=mI.any λp=>p.2.1==a
noncomputable abbrev dR:=List<|cO×cO
noncomputable def mJ(a:List aQ)(n:Nat):Obj:={cls:=.type "tuple",data:=.seq a.toArray n}
noncomputable def vX(a:List aQ)(n:Nat):Obj:={cls:=.type "list",data:=.seq a.toArray n}
noncomputable def vY(a:List iq)(n:Nat):Obj:={cls:=.type "dict",data:=.dict a.toArray n}
mutual
noncomputable def aT(h:e_)(c:dR):V->aQ->Prop|.o,v=>v=.none|.n b,v=>v=.bool b|.d i,v=>∃t,v=.int i t|.k s,v=>∃t,v=.str ⟨s.toArray⟩ t|.j l,v=>∃p,c[l]?=J p/\v=.ref p.1|.A a,v=>v=.ref a/\Qn a=true|.w,v=>X2 λa n=>A2 (v=.ref a)<|h.get? a=J (mJ [] n)|.r x t,v=>X4 λa n y d=>A4 (v=.ref a) (h.get? a=J (mJ (y::d) n)) (aT h c x y)<|jX h c t d
noncomputable def jX(h:e_)(c:dR):V->List aQ->Prop|.w,a=>a=[]|.r x t,a=>X2 λy d=>A3 (a=y::d) (aT h c x y)<|jX h c t d|_,_=>False
end
noncomputable def ca(h:e_)(c:dR):List V->List aQ->Prop|[],a=>a=[]|v::e,a=>X2 λy d=>A3 (a=y::d) (aT h c v y)<|ca h c e d
theorem Qo:jX h c (V.m a) d↔ca h c a d:=by
 induction a generalizing d with
 |nil=>exact Iff.rfl|cons v a l=>refine(?_:(X2 λy e=>A3 (d=y::e) (aT h c v y)<|jX h c (V.m a) e)↔_);rw [show jX h c (V.m a)=ca h c a from funext λ_=>propext l];rfl
theorem Cy:aT h m (V.m d) x↔X3 λa n c=>A3 (x=.ref a) (h.get? a=J (mJ c n)) (ca h m d c):=by
 induction d using bk with
 |nil=>
  constructor;·rintro⟨a,n,e,g⟩;exact⟨a,n,[],e,g,rfl⟩
  rintro⟨a,n,c,e,g,rfl⟩;exact yr a n e g
 |cons v d=>
  constructor;·rintro⟨a,n,y,c,e,g,r,l⟩;exact⟨a,n,y::c,e,g,y,c,rfl,r,Qo.mp l⟩
  rintro⟨a,n,_,e,g,y,c,rfl,r,l⟩;exact Kq a n y c e g r<|Qo.mpr l
theorem V.F(e:v.z=J a):v=V.m a:=by
 induction v generalizing a with
 |w=>obtain rfl:=ao (show J []=J a from e);rfl
 |r x t _ c=>obtain⟨l,C,rfl⟩:=kF.mp (show t.z.map (x::·)=J a from e);rw [c C];rfl
 |_=>exact aX e
theorem ca.c(r:ca h p a e):a.length=e.length:=by
 induction a generalizing e with
 |nil=>haveI r:_=[]:=r;subst r;rfl|cons v a n=>obtain⟨y,q,rfl,_,r⟩:=r;simp [n r]
theorem ca.f(r:ca h p a n){i:Nat}{v:V}(e:a[i]?=J v):∃x,n[i]?=J x/\aT h p v x:=by
 induction a generalizing n i with
 |nil=>simp at e|cons w a q=>
  obtain⟨y,z,rfl,t,r⟩:=r;induction i using iJ with
  |zero=>simp at e;rw [<-e];exact bU y rfl t|succ i=>simp at e⊢;exact q r e
theorem ca.g(r:ca h e a n)(q:ca h e p t):ca h e (a++p) (n++t):=by
 induction a generalizing n with
 |nil=>haveI r:_=[]:=r;subst r;exact q|cons w a v=>obtain⟨y,x,rfl,z,r⟩:=r;exact k_ y _ rfl z (v r)
theorem ca.k(r:ca h p (e++q) n):X2 λa b=>A3 (n=a++b) (ca h p e a) (ca h p q b):=by
 induction e generalizing n with
 |nil=>exact k_ ([]) n rfl rfl r|cons w e t=>obtain⟨y,A,rfl,v,r⟩:=r;obtain⟨a,b,rfl,x,z⟩:=t r;exact k_ (y::a) b rfl ⟨y,a,rfl,v,x⟩ z
theorem ca.l(r:ca h n a e):ca h n a.reverse e.reverse:=by
 induction a generalizing e with
 |nil=>haveI r:_=[]:=r;subst r;rfl|cons w a p=>obtain⟨y,t,rfl,q,r⟩:=r;simp only [jn];exact(p r).g ⟨y,[],rfl,q,rfl⟩
theorem ca.m(r:ca h p a e)(n:Nat):ca h p (a.take n) (e.take n):=by
 induction a generalizing e n with
 |nil=>haveI r:_=[]:=r;subst r;first|exact rfl|(cases n<;>exact rfl)
 |cons w a q=>
  obtain⟨y,v,rfl,t,r⟩:=r;induction n using iJ with
  |zero=>rfl|succ n=>exact k_ y _ rfl t (q r n)
theorem ca.j(r:ca h e a p)(i:Nat)(q:aT h e v x):ca h e (a.set i v) (p.set i x):=by
 induction a generalizing p i with
 |nil=>haveI r:_=[]:=r;subst r;first|exact rfl|(cases n<;>exact rfl)
 |cons w a t=>
  obtain⟨y,A,rfl,z,r⟩:=r;induction i using iJ with
  |zero=>exact k_ x _ rfl q r|succ i=>exact k_ y _ rfl z (t r i)
theorem ca.o(r:ca h a e p)(n:Nat):ca h a (jK n e).flatten (jK n p).flatten:=by
 induction n with
 |zero=>rfl|succ n q=>simp only [aIn,aIo];exact r.g q
def iU(h d:e_):Prop:=∀a c n,h.get? a=J (mJ c n)->d.get? a=J (mJ c n)
theorem AB(h:c<+:a){l:Nat}{p:cO×cO}(e:c[l]?=J p):a[l]?=J p:=by obtain⟨t,rfl⟩:=h;rw [jL (jM.mp e).1];exact e
mutual
theorem aT.b{h d:e_}{l c:dR}(T:iU h d)(P:l<+:c):(v:V)->{x:aQ}->aT h l v x->aT d c v x|.o,_,r=>r|.n _,_,r=>r|.d _,_,r=>r|.k _,_,r=>r|.A _,_,r=>r|.j _,_,r=>let ⟨p,e,q⟩:=r;⟨p,AB P e,q⟩|.w,_,r=>let ⟨a,n,e,g⟩:=r;⟨a,n,e,T _ _ _ g⟩|.r x t,_,r=>let ⟨a,n,y,m,e,g,w,z⟩:=r;⟨a,n,y,m,e,T _ _ _ g,aT.b T P x w,jX.a T P t z⟩
theorem jX.a(T:iU h d)(P:l<+:c):(v:V)->{x:List aQ}->jX h l v x->jX d c v x|.w,_,r=>r|.r x t,_,r=>let ⟨y,m,e,n,p⟩:=r;⟨y,m,e,aT.b T P x n,jX.a T P t p⟩|.o,_,r=>nomatch r|.n _,_,r=>nomatch r|.d _,_,r=>nomatch r|.k _,_,r=>nomatch r|.A _,_,r=>nomatch r|.j _,_,r=>nomatch r
end
theorem ca.d(T:iU h q)(P:t<+:n):(a:List V)->{p:List aQ}->ca h t a p->ca q n a p|[],_,r=>r|v::a,_,r=>let ⟨y,w,e,x,z⟩:=r;⟨y,w,e,aT.b T P v x,ca.d T P a z⟩
noncomputable def oS(c a:Nat):Bool:=HQ.any λp=>p.1==c&&p.2.contains a
noncomputable def rS(i:Nat):Option Fn:=(tO[i]?).map (·.2.2)
noncomputable def bW:rF where
 b c m:=(Co.find? λp=>p.1==c&&p.2.1==m).map (·.2.2)
 c c:=(qS.find? λp=>p.1==c).map (·.2.2)
 a a:=((mI.find? λp=>p.2.1==a).map (·.2.2)).getD []
 d:=oS
noncomputable def tV(i:Nat):Option Nat:=(tO[i]?).map (·.1)
noncomputable def DH(c:nH)(p:Nat×ac×Nat):Bool:=
 aJ (qX c kC p.2.1=J (J<|.ref p.1))&&makesIn c p.1&&Dk c (.ref p.1)&&plainGet c p.1 ""&&Sh c p.1&&Si c p.1&&
 aJ (v_ c (.ref p.1) "__setattr__"=J (J<|.builtin "object.__setattr__"))&&
 (match tV p.2.2 with|some a=>aJ (v_ c (.ref p.1) "__init__"=J (J<|.ref a))&&isFn c (.ref a)|none=>false)
noncomputable def Hh(c:nH)(p:Nat×List Nat):Bool:=(qS.any λq=>q.1==p.1)&&p.2.all λa=>match gU[a]? with|some n=>aJ (v_ c (.ref p.1) n=J aA)&&(n !="__class__")|none=>false
noncomputable def Qx(c:nH)(p:Nat×Nat×Nat):Bool:=(qS.any λq=>q.1==p.1)&&(match gU[p.2.1]?,tV p.2.2 with
 |some n,J a=>aJ (v_ c (.ref p.1) n=J (J<|.ref a))&&isFn c (.ref a)&&Dk c (.ref a)
 |_,_=>false)
noncomputable def Qy(a:nH)(p:ac×Int):Bool:=qP (qP<|Cn λi=>i==p.2)<|qX a kC p.1
noncomputable def DI:List iq->List (Int×Int)->Bool|[],l=>ew l|e::es,l=>Gy (λp l=>Cn (λk=>Cn (λv=>e.hash==hashInt k&&k==p.1&&v==p.2) e.val) e.key&&DI es l) l
noncomputable def Hi(a:nH)(p:ac×Nat×List (Int×Int)):Bool:=aJ (qX a kC p.1=J (J<|.ref p.2.1))&&aJ (2<p.2.1)&&aJ (p.2.2.map (·.1)).Nodup&&
 qP (λo=>HF (λt=>Oi (λes=>t=="dict"&&o.slots.isEmpty&&o.dict.isNone&&DI es.toList p.2.2) o.data) o.cls) (a.lookup p.2.1)
noncomputable def Qz(a:nH)(x:ac):Bool:=aJ<|qX a kC x=J aA
noncomputable def Hj:List Str:=["len","range","tuple","list","str"]
noncomputable def Q_(a:nH)(f:Nat×Option ac×Fn):Bool:=Dk a<|.ref f.1
noncomputable def Hl(a:nH):Bool:=qS.all (DH a)&&HQ.all (Hh a)&&Co.all (Qx a)&&zt.all (Qy a)&&mI.all (Hi a)&&Hj.all (Qz a)&&tO.all (Q_ a)&&tO.all (HK a)
theorem aGE:gU.Nodup:=by decide+kernel
mutual
noncomputable def di:V->PyData|.d i=>.int i|.k s=>.str ⟨s.toArray⟩|.w=>.tuple []|.r x t=>.tuple<|di x::nA t|_=>.none
noncomputable def nA:V->List PyData|.r x t=>di x::nA t|_=>[]
end
theorem zu(h:(V.r x t).u=true):x.u=true/\t.u=true/\(t=.w\/X2 λy u=>t=.r y u):=by
 have h:=bi.mp (show(_&&_)=true from h);have g:=bi.mp (show(_&&_)=true from h.1);refine⟨g.1,g.2,?_⟩;replace h:=h.2;clear g;induction t with
 |w=>exact .inl rfl|r y u=>exact .inr ⟨y,u,rfl⟩|_=>exact ft h
abbrev tP(t:V):Prop:=t=.w\/X2 λy u=>t=.r y u
theorem tQ{P:V->Prop}(a:∀i,P<|.d i) (c:∀s,(V.k s).u=true->P (.k s)) (d:P .w) (e:∀x t,(V.r x t).u=true->P (.r x t)) {v:V} (h:v.u=true):P v:=by
 induction v with
 |d i=>exact a i|k s=>exact c s h|w=>exact d|r x t=>exact e x t h|_=>exact nt h
theorem rR{P T:V->Prop}(c:∀i,P<|.d i) (d:∀s,(V.k s).u=true->P (.k s)) (a:P .w/\T .w) (e:∀x t,t.u=true->tP t->P x->T t->P (.r x t)/\T (.r x t)) (v:V) (h:v.u=true):P v/\(tP v->T v):=by
 induction v with
 |d i=>exact⟨c i,λq=>by rcases q with q|⟨_,_,q⟩<;>exact Mine.V.noConfusion q⟩|k s=>exact⟨d s h,λq=>by rcases q with q|⟨_,_,q⟩<;>exact Mine.V.noConfusion q⟩|w=>exact⟨a.1,λ_=>a.2⟩|r x t l m=>have q:=zu h;have r:=e x t q.2.1 q.2.2 (l q.1).1<|(m q.2.1).2 q.2.2;exact⟨r.1,λ_=>r.2⟩|_=>exact nt h
theorem xh{m:dR}(v:V)(p:v.u=true):∀{x:aQ},aT h m v x->∃c,Reads h x (di v) c:=
 (rR (P:=λv=>∀{x:aQ},aT h m v x->∃c,Reads h x (di v) c) (T:=λv=>∀{l:List aQ},jX h m v l->∃c,ReadsAll h l (nA v) c)
  (λi _ r=>by refine oE r λt d=>?_;rw [d];exact⟨_,.int i t⟩) (λs _ _ r=>by refine oE r λt d=>?_;rw [d];exact⟨_,.str _ t⟩) ⟨λr=>by refine cV r λa n e g=>?_;rw [e];exact⟨_,.tuple g rfl rfl .nil⟩,λ{l} r=>by
   have r:l=[]:=r
   rw [r];exact⟨_,.nil⟩⟩ (λx t _ _ C D=>⟨λr=>by
    refine pA r λa n y H q g w z=>?_;rw [q]
    refine oE (C w) λc A=>
     oE (D z) λbs B=>
     ⟨_,.tuple g rfl rfl (.cons A B)⟩,λr=>by
    refine j9 r λy H e w z=>?_;rw [e]
    refine oE (C w) λc A=>
     oE (D z) λbs B=>
     ⟨_,.cons A B⟩⟩) v p).1
theorem zw(v:V)(p:v.u=true):(di v).canLay0=true:=
 (rR (P:=λv=>(di v).canLay0=true) (T:=λv=>SS (nA v)=true) (λ_=>rfl) (λs p=>by simpa [di,PyData.canLay0,PyData.strOk,V.u]using p) ⟨rfl,rfl⟩
  (λx t _ _ a c=>⟨bi.mpr ⟨a,c⟩,bi.mpr ⟨a,c⟩⟩) v p).1
theorem QY(v:V)(p:v.u=true):(di v).depth<=v.D:=
 (rR (P:=λv=>(di v).depth<=v.D) (T:=λv=>AU (nA v)+1<=v.D) (λ_=>aK _) (λ_ _=>aK _) ⟨by decide,by decide⟩
  (λx t _ _ a c=>by
   haveI q:max (di x).depth (AU<|nA t)+1<=max (x.D+1) t.D:=by
    rcases Nat.le_total (di x).depth (AU<|nA t)with h|h
    ·rw [aG4 h];exact dN c (I0 _ _)
    ·rw [aG5 h];exact dN (iW a) (tZ _ _)
   exact⟨q,q⟩) v p).1
theorem aEG{a b:List Nat}:((⟨a.toArray⟩:ac)==⟨b.toArray⟩)=aJ (a=b):=by
 by_cases h:a=b;·subst h;simp
 rw [decide_eq_false h];refine beq_eq_false_iff_ne.mpr λq=>h ?_;injection q with q;simpa using q
theorem aEH(a:V)(p:a.u=true):(∀b,b.u=true->q8 (di a) (di b)=aJ (a=b))/\(tP a->∀b,b.u=true->tP b->vv (nA a) (nA b)=aJ (a=b)):=
 rR (P:=λa=>∀b,b.u=true->q8 (di a) (di b)=aJ (a=b)) (T:=λa=>∀b,b.u=true->tP b->vv (nA a) (nA b)=aJ (a=b))
  (λi b q=>tQ (P:=λb=>q8 (di (.d i)) (di b)=aJ (.d i=b)) (λj=>by
   exact decide_eq_decide.mpr ⟨congrArg _,V.d.inj⟩) (λ_ _=>rfl) rfl (λ_ _ _=>rfl) q)
  (λs _ b q=>tQ (P:=λb=>q8 (di (.k s)) (di b)=aJ (.k s=b)) (λ_=>rfl) (λu _=>by
   refine(?_:((⟨s.toArray⟩:ac)==⟨u.toArray⟩)=_)
   rw [aEG];exact decide_eq_decide.mpr ⟨congrArg _,V.k.inj⟩) rfl (λ_ _ _=>rfl) q)
  ⟨λb q=>tQ (P:=λb=>q8 (di .w) (di b)=aJ (.w=b)) (λ_=>rfl) (λ_ _=>rfl) rfl (λ_ _ _=>rfl) q,λb _ q=>by rcases q with rfl|⟨_,_,rfl⟩<;>rfl⟩
  (λx t p2 p3 d e=>by
   have c:∀y u,(V.r y u).u=true->(q8 (di x) (di y)&&vv (nA t) (nA u))=aJ (V.r x t=V.r y u):=λy u q=>by
    have q:=zu q
    rw [d y q.1,e u q.2.1 q.2.2,<-Bool.decide_and]
    exact decide_eq_decide.mpr ⟨λh=>by rw [h.1,h.2],λh=>V.r.inj h⟩
   exact⟨λb q=>tQ (P:=λb=>q8 (di (.r x t)) (di b)=aJ (.r x t=b)) (λ_=>rfl) (λ_ _=>rfl) rfl c q,λb q z=>by
    rcases z with rfl|⟨y,u,rfl⟩
    ·rfl
    ·exact c y u q⟩) a p
theorem Cp(a b:V)(p:a.u=true)(q:b.u=true):q8 (di a) (di b)=aJ (a=b):=(aEH a p).1 b q
theorem gZ{v:V}(h:v.p=true):v.u=true:=(bi.mp h).1
theorem Cq{v:V}(h:v.p=true):v.D<=8:=of_decide_eq_true (bi.mp h).2
theorem zx{v:V}(h:v.p=true):aH3 (di v)=true:=by haveI a:=zw v<|gZ h;haveI b:=QY v<|gZ h;haveI c:=Cq h;exact bi.mpr ⟨a,decide_eq_true<|cY<|aH b c⟩
theorem aEI{c d:dR}(v:V)(p:v.u=true):∀{x:aQ},aT h c v x->aT h d v x:=
 (rR (P:=λv=>∀{x:aQ},aT h c v x->aT h d v x) (T:=λv=>∀{w:List aQ},jX h c v w->jX h d v w) (λ_ _ r=>r) (λ_ _ _ r=>r) ⟨λr=>r,λr=>r⟩
  (λx t _ _ z A=>⟨λ⟨a,n,y,l,e,g,m,q⟩=>⟨a,n,y,l,e,g,z m,A q⟩,λ⟨y,l,e,m,q⟩=>⟨y,l,e,z m,A q⟩⟩) v p).1
mutual
noncomputable def tR(w:cz):V->Int|.d i=>hashInt i|.k s=>hashStr w ⟨s.toArray⟩|.r x t=>SU<|I8<|tR w x::tS w t|.w=>SU<|I8 []|_=>0
noncomputable def tS(w:cz):V->List Int|.r x t=>tR w x::tS w t|_=>[]
end
noncomputable def fz:V->Nat|.d _=>1|.k _=>1|.w=>1|.r x t=>fz x+fz t|_=>0
theorem QZ(v:V)(p:v.u=true):fz v≠0:=
 (rR (P:=λv=>fz v≠0) (T:=λ_=>True) (λ_=>D7) (λ_ _=>D7) ⟨D7,trivial⟩
  (λx t _ _ a _=>⟨λ(h:fz x+fz t=0)=>a (SV h),trivial⟩) v p).1
section
theorem Q0{E:aQ->bG->Prop}{s:bG}{t:V}{a:cO}{n d:Nat}{c:List aQ}{Q:Int->bG->Prop}(e:A.units+1<iY)(g:s.heap.get? a=J (mJ c n))
  (loop:∀(Q:Array Int->bG->Prop),(∀b,b.toList=tS w t->Q b {s with toks:=s.toks+d})->
   aq (bL prog w) A.in1 (forIn c (#[]:Array Int) λx r=>do let h<-Ia x;gc PUnit.unit;gc (Rt (r.push h))) Q E s)
  (h:Q (SU<|I8<|tS w t) {s with toks:=s.toks+(d+1)}):aq (bL prog w) A (Ia<|.ref a) Q E s:=by
 refine pyHash_slot (T:="tuple") ⟨_,g,rfl⟩ F.slot_tuple_hash F.entry_tuple_hash (F.args_tuple_hash_1 _) (beq_builtin_none _) (.inr<|uR e)<|
   (?_:aq _ _ (aMs (.ref a)>>=_) _ _ s)
 refine bC<|wpAny_tupleItemsOf g rfl ?_
 refine bC ?_
 rw [<-aH4]
 refine loop _ λb l=>
   (?_:aq _ _ (retInt<|I8 b.toList) _ _ _)
 rw [l]
 exact bC<|wpAny_mkInt<|bm ⟨_,_,rfl,h⟩
def zy(prog:vx)(w:cz)(v:V):Prop:=∀{A:nG}{E:aQ->bG->Prop}{s:bG}{a:dR}{x:aQ}{Q:Int->bG->Prop},A.units+v.D+1<iY->aT s.heap a v x->
 Q (tR w v) {s with toks:=s.toks+fz v}->aq (bL prog w) A (Ia x) Q E s
def Cr(prog:vx)(w:cz)(t:V):Prop:=∀{A:nG}{E:aQ->bG->Prop}{s:bG}{d:dR}{a:List aQ}{b:Array Int}{Q:Array Int->bG->Prop},A.units+t.D<iY->jX s.heap d t a->
 (∀c:Array Int,c.toList=b.toList++tS w t->Q c {s with toks:=s.toks+(fz t-1)})->
 aq (bL prog w) A (forIn a b λx r=>do let h<-Ia x;gc PUnit.unit;gc<|Rt<|r.push h) Q E s
theorem aEJ(y t:V)(p2:t.u=true)(p3:tP t)(p:zy prog w y)(l:Cr prog w t):zy prog w (.r y t):=λ{A E s I x Q} c r h=>by
 obtain⟨a,n,z,P,rfl,g,B,m⟩:=r;refine Q0 (t:=.r y t) (d:=fz y+(fz t-1)) (dg aR Z [.t (.a (.a Y aB) au) Z] U c) g (λQ C=>?_) ?_
 ·rw [IS];refine bC<|bC<|p (by simp only [to];exact(jA (.a (.a aR Z) au) aB [.t (.a (.a Y aI) au) aB,.l aY aI] U c<|tZ _ _)) B ?_;refine bC<|bm<|bm ?_;refine l (by simp only [to];exact(jA (.a aR Z) aB [.t (.a (.a Y aI) au) aB,.l Z aI] U c<|I0 _ _)) (s:={s with toks:=s.toks+fz y}) m (b:=#[].push<|tR w y) λb D=>?_;haveI:=C b<|by rw [D];simp [tS]
  simpa [DL]using this
 haveI e:fz t≠0:=by clear m c l;rcases p3 with rfl|⟨u,v,rfl⟩;exact D7;exact λ(q:fz u+fz v=0)=>QZ _ (zu p2).1<|SV q
 haveI H:fz y+(fz t-1)+1=fz y+fz t:=(bj (bb (.a (.a Y Z) au) (.a Y aB) [.e aY aB] U<|bY<|cA au Y [.t bQ Y] U<|nF e)<|bb (.a Y Z) (.a (.a Y aB) au) [.g bN Z] U<|bY<|cA au Y [.t bQ Y] U<|nF e)
 rw [H];simpa [tR,tS,fz]using h
theorem aEK(y t:V)(p2:t.u=true)(p3:tP t)(l:zy prog w y)(c:Cr prog w t):Cr prog w (.r y t):=λ{A E s B C b Q} a r h=>by
 obtain⟨z,D,rfl,m,d⟩:=r;rw [IS];refine bC<|bC<|l (jA (.a (.a Y Z) au) aB [.t (.a Y aI) aB,.l aY aI] U a<|tZ _ _) m ?_;refine bC<|bm<|bm ?_;refine c (jA (.a Y Z) aB [.t (.a Y aI) aB,.l Z aI] U a<|I0 _ _) (s:={s with toks:=s.toks+fz y}) d λn p=>?_;haveI e:fz t≠0:=by clear d a c;rcases p3 with rfl|⟨u,v,rfl⟩;exact D7;exact λ(q:fz u+fz v=0)=>QZ _ (zu p2).1<|SV q
 haveI x:fz y+(fz t-1)=fz y+fz t-1:=(bj (de (.a Y Z) aB [.e aY aI,.g bN<|.a Y aI] U (bY<|cA au Y [.t bQ Y] U<|nF e)<|bY<|aV au (.a Y Z) [.t bQ Z] U<|nF e)<|de Y (.a Z aB) [.g bN aI,.e aR<|.a Z aI] U (bY<|cA au Y [.t bQ Y] U<|nF e)<|bY<|aV au (.a Y Z) [.t bQ Z] U<|nF e)
 haveI:=h n<|by rw [p];simp [tS]
 simpa [DL,fz,x]using this
theorem aEL(v:V)(p:v.u=true):zy prog w v:=
 (rR (P:=zy prog w) (T:=Cr prog w) (λi{A E s e x Q} _ r h=>by refine oE r λt c=>?_;rw [c];exact wpAny_pyHash_int h) (λi _{A E s e x Q} _ r h=>by refine oE r λt c=>?_;rw [c];exact wpAny_pyHash_str h)
  ⟨λ{A E s e x Q} z r h=>by
   refine cV r λa n l g=>?_;rw [l]
   refine Q0 (t:=.w) (d:=0) (by exact(uR z)) g (λQ B=>?_) h
   exact bm<|B _ rfl,λ{A E s e C b Q} _ r h=>by
   haveI r:C=[]:=r
   rw [r]
   exact bm (h b (cI _).symm)⟩ (λy t p2 p3 m q=>⟨aEJ y t p2 p3 m q,aEK y t p2 p3 m q⟩) v p).1
end
section
theorem Q1{E:aQ->bG->Prop}{s:bG}{a:cO}{n k:Nat}{d:List aQ}{Q:Bool->bG->Prop}(g:s.heap.get? a=J (mJ d k))
  (loop:∀v∈d,∀(Q:Bool->bG->Prop),Q true s->aq (bL prog w) A (Da n v) Q E s) (h:Q true s):aq (bL prog w) A (Da (n+1)<|.ref a) Q E s:=by
 have p:s.TypeIs (.ref a) "tuple":=⟨_,g,rfl⟩
 unfold Da;refine bC<|wpAny_specialOf p F.slot_tuple_eq.lookup ?_;refine bC<|SO p isSubtype_tuple_tuple ?_;simp only [IY,ti,if_false];refine bC<|wpAny_seqItems g rfl ?_;refine bC ?_;rw [<-aH4];refine aHQ _ (λbo r e=>r.1=aA/\e=s/\∀v∈bo,v∈d) _ ?_ ?_ _ _ ⟨rfl,rfl,λv q=>by simpa using q⟩;·rintro v bo r e ⟨l,rfl,c⟩;refine bC<|loop v (c v List.mem_cons_self) _ ?_;simp only [IY,ti,if_false];exact bm ⟨rfl,rfl,λu m=>c u<|List.mem_cons_of_mem _ m⟩
 rintro⟨t,x⟩ e ⟨l,rfl,_⟩;simp only at l;rw [l];exact bm h
def Q2(prog:vx)(w:cz)(v:V):Prop:=∀{n:Nat},v.D<=n->∀{A:nG}{E:aQ->bG->Prop}{s:bG}{a:dR}{x:aQ},aT s.heap a v x->
 ∀(Q:Bool->bG->Prop),Q true s->aq (bL prog w) A (Da n x) Q E s
def Q3(prog:vx)(w:cz)(t:V):Prop:=∀{n:Nat},t.D<=n+1->∀{A:nG}{E:aQ->bG->Prop}{s:bG}{c:dR}{a:List aQ},jX s.heap c t a->
 ∀v∈a,∀(Q:Bool->bG->Prop),Q true s->aq (bL prog w) A (Da n v) Q E s
theorem aEM(v:V)(p:v.u=true):Q2 prog w v:=
 (rR (P:=Q2 prog w) (T:=Q3 prog w) (λi{n} _{A E s m x} r Q h=>by refine oE r λt e=>?_;subst e;rw [aH5 n rfl];exact bm h) (λi _{n} _{A E s m x} r Q h=>by refine oE r λt e=>?_;subst e;rw [aH5 n rfl];exact bm h)
  ⟨λ{n} d{A E s m x} r Q h=>by
   refine cV r λa k l g=>?_;rw [l]
   induction n using iJ with
   |zero=>exact absurd d (by decide)
   |succ n=>exact Q1 g (λv c=>nomatch c) h,λ{n} _{A E s m P} r v c _ _=>by
   have r:P=[]:=r
   rw [r]at c;exact bR c⟩
  (λy t _ _ W X=>by
   have q:Q3 prog w (.r y t):=λ{n} d{A E s m P} r v c Q h=>by
    refine j9 r λz R l B C=>?_;subst l
    have d:max (y.D+1) t.D<=n+1:=d
    refine aU (dA.mp c) ?_ ?_
    ·intro D;rw [D];exact W (bb Y Z [.l aB aY,.l aR aB] U d<|tZ _ _) B Q h
    ·intro c;exact X (bb Y aY [.l aB aY,.l Y aB] U d<|I0 _ _) C v c Q h
   refine⟨λ{n} d{A E s m x} r Q h=>?_,q⟩
   refine pA r λa k z R H g B C=>?_;subst H
   haveI I:max (y.D+1) t.D<=n:=d
   induction n using iJ with
   |zero=>exact absurd (dN (tZ _ _) I) (Nat.not_succ_le_zero _)
   |succ n=>exact Q1 g (λv c=>q d ⟨z,R,rfl,B,C⟩ v c) h) v p).1
theorem aEN(h:mJ (x::a) n=mJ (y::c) m):x=y/\a=c:=by simp only [mJ,Obj.mk.injEq,Data.seq.injEq]at h;haveI:=h.2.2.1.1;simpa using this
theorem aEO{h:e_}{w A:dR}(a b:V)(p:a.u=true)(q:b.u=true):∀{x:aQ},aT h w a x->aT h A b x->a=b:=
 (rR (P:=λa=>∀b,b.u=true->∀{x:aQ},aT h w a x->aT h A b x->a=b) (T:=λa=>∀b,b.u=true->tP b->∀{H:List aQ},jX h w a H->jX h A b H->a=b)
  (λi b q=>tQ (P:=λb=>∀{x:aQ},aT h w (.d i) x->aT h A b x->.d i=b)
   (λj{x} r q=>by refine oE r λt c=>?_;subst c;refine oE q λu e=>?_;injection e with e;rw [e])
   (λ_ _{x} r q=>by refine oE r λt c=>?_;subst c;refine oE q λu e=>rY e)
   (λ{x} r q=>by refine oE r λt c=>?_;subst c;refine cV q λu _ e _=>rY e)
   (λ_ _ _{x} r q=>by refine oE r λt c=>?_;clear r;subst c;obtain⟨u,_,_,_,e,_⟩:=q;exact rY e) q)
  (λi _ b q=>tQ (P:=λb=>∀{x:aQ},aT h w (.k i) x->aT h A b x->.k i=b)
   (λj{x} r q=>by refine oE r λt c=>?_;subst c;refine oE q λu e=>rY e)
   (λ_ _{x} r q=>by refine oE r λt c=>?_;subst c;refine oE q λu e=>?_;injection e with e;injection e with e;congr 1;simpa using e)
   (λ{x} r q=>by refine oE r λt c=>?_;subst c;refine cV q λu _ e _=>rY e)
   (λ_ _ _{x} r q=>by refine oE r λt c=>?_;subst c;obtain⟨u,_,_,_,e,_⟩:=q;exact rY e) q)
  ⟨λb q=>tQ (P:=λb=>∀{x:aQ},aT h w .w x->aT h A b x->.w=b)
   (λj{x} r q=>by refine oE q λt c=>?_;subst c;refine cV r λu _ e _=>rY e)
   (λ_ _{x} r q=>by refine oE q λt c=>?_;subst c;refine cV r λu _ e _=>rY e)
   (λ_ _=>rfl)
   (λ_ _ _{x} r d=>by
    refine cV r λa n l g=>?_;subst l
    obtain⟨a',n',R,B,e,C,_⟩:=d
    (injection e with e;subst e);rw [g]at C;simp [mJ]at C) q,λb _ z{H} r d=>by
   have r:H=[]:=r
   rcases z with rfl|⟨y,u,rfl⟩
   ·rfl
   ·obtain⟨R,B,e,_⟩:=d
    rw [r]at e;exact iN e⟩
  (λx t _ p3 ix it=>by
   have I:∀y u,(V.r y u).u=true->∀{z:aQ}{D:List aQ},aT h w x z->jX h w t D->aT h A y z->jX h A u D->V.r x t=V.r y u:=λy u q{z D} P Q m v=>by
    have q:=zu q
    rw [ix y q.1 P m,it u q.2.1 q.2.2 Q v]
   exact⟨λb q=>tQ (P:=λb=>∀{z:aQ},aT h w (.r x t) z->aT h A b z->.r x t=b)
    (λj{x} r q=>by refine oE q λt c=>?_;subst c;obtain⟨u,_,_,_,e,_⟩:=r;exact rY e)
    (λ_ _{x} r q=>by refine oE q λt c=>?_;subst c;obtain⟨u,_,_,_,e,_⟩:=r;exact rY e)
    (λ{x} d r=>by
     refine cV r λa n l g=>?_;subst l
     obtain⟨a',n',R,B,e,C,_⟩:=d
     (injection e with e;subst e);rw [g]at C;simp [mJ]at C)
    (λy u q{z} r d=>by
     refine pA r λa n z D W g P Q=>?_;subst W
     refine pA d λa' n' R B e C m v=>?_
     (injection e with e;subst e)
     rw [g]at C
     refine on (aEN<|ao C) λX c=>?_;clear C g;subst X;subst c
     exact I y u q P Q m v) q,λb q z{H} r d=>by
    refine j9 r λz0 D l P Q=>?_;clear r;subst l
    rcases z with rfl|⟨y,u,rfl⟩
    ·haveI d:z0::D=[]:=d
     exact hI d
    ·refine j9 d λR B e m v=>?_
     cases e
     exact I y u q P Q m v⟩) a p).1 b q
theorem HR{E:aQ->bG->Prop}{s:bG}{m n:dR}{a b:V}{x y:aQ}{Q:Bool->bG->Prop}(c:a.p=true)(d:b.p=true)(p:A.units+64<iY)
  (e:aT s.heap m a x) (l:aT s.heap n b y) (h:Q (aJ<|a=b) s):aq (bL prog w) A (eqBool x y) Q E s:=by
 refine oE (xh a (gZ c) e) λq e=>oE (xh b (gZ d) l) λbs l=>SeqAt.eqAt_reads _ _ A s x y q bs e l (zw a<|gZ c) (zw b<|gZ d) (SeqAt.room_of_shaped (zx c) p) prog w E Q ?_;rw [Cp a b (gZ c)<|gZ d];exact h
end
noncomputable def pW(prog:vx)(w:cz):HeapKind prog w V where
 is:=λh v a=>v.B=true/\aT h [] v (.ref a)
 hash:=tR w
 draws:=fz
 room:=λA=>A.units+64<iY
 inj:=λe l=>aEO _ _ (gZ (bi.mp e.1).1) (gZ (bi.mp l.1).1) e.2 l.2
 keeps:=λ{h B k a d o es C} x q hd t=>⟨x.1,aT.b (λb D n g=>(t.2 b λz=>by clear t;subst z;rw [q]at g;(replace g:=ao g;clear q;subst g);exact AT hd).trans g) (f8 _) _ x.2⟩
 pyHash:=λ{A E s k a Q} m c h=>by haveI p:=(bi.mp c.1).1;haveI:=Cq p;exact aEL k (gZ p) (dg (.a (.a Y Z) au) aB [.t (.p 0 64) aB,.l Z iG] U m this) c.2 h
 eqBool:=λm e l h=>HR (bi.mp e.1).1 (bi.mp l.1).1 m e.2 l.2 h
 quiet:=λc h=>aEM _ (gZ (bi.mp c.1).1) (Cq (bi.mp c.1).1) c.2 _ h
set_option backward.match.sparseCases true
set_option genInjectivity false
def vW(h:e_)(a:cO)(c:List aQ):Prop:=∃n,h.get? a=J (vX c n)
theorem vW.b(x:vW h a d):h.IsList a d.toArray:=let ⟨n,g⟩:=x;⟨_,g,rfl,n,rfl⟩
noncomputable def dX(h:e_)(c:dR):List (Int×V)->List (Int×aQ)->Prop|[],a=>a=[]|(k,v)::es,a=>X2 λx r=>A3 (a=(k,x)::r) (aT h c v x)<|dX h c es r
noncomputable def fF(P:iI)(h:e_)(c:dR):List (Nat×V)->List iq->Prop|[],a=>a=[]|(k,v)::es,a=>X4 λn t x r=>A4 (gU[k]?=J n) (a=⟨tX P n,.str n t,x⟩::r) (aT h c v x)<|fF P h c es r
noncomputable def eN(h:e_)(d:dR):List (V×V)->List (V×cO×aQ)->Prop|[],c=>c=[]|(k,v)::es,c=>X3 λa x r=>A3 (c=(k,a,x)::r) (aT h d v x)<|eN h d es r
noncomputable def qV(prog:vx)(w:cz)(h:e_)(d:dR)(p:cO×cO):O->Prop|.a l=>p.2=p.1/\∃e,vW h p.1 e/\ca h d l e|.f l=>p.2=p.1/\∃e,h.IsList p.1 e.toArray/\ca h d l e|.d es=>p.2=p.1/\∃a,h.DictOf (nJ prog w) p.1 a/\dX h d es a|.e es=>p.2=p.1/\∃a,h.DictOfH (pW prog w) p.1 a/\eN h d es a|.b c m=>h.get? p.1=J (AW c p.2)/\(m.map (·.1)).Nodup/\(m.all λf=>oS c f.1)=true/\X2 λa n=>A2 (h.get? p.2=J (vY a n))<|fF w.params h d m a
theorem dX.j(T:iU h n)(Q:p<+:a):(es:List<|Int×V)->{c:List<|Int×aQ}->dX h p es c->dX n a es c|[],_,r=>r|(_,v)::es,_,r=>let ⟨x,q,e,t,w⟩:=r;⟨x,q,e,aT.b T Q v t,dX.j T Q es w⟩
theorem fF.c(T:iU h m)(Q:p<+:a):(es:List<|Nat×V)->{l:List iq}->fF P h p es l->fF P m a es l|[],_,r=>r|(_,v)::es,_,r=>let ⟨n,t,x,q,e,w,z,A⟩:=r;⟨n,t,x,q,e,w,aT.b T Q v z,fF.c T Q es A⟩
theorem eN.j(T:iU h n)(Q:p<+:a):(es:List<|V×V)->{c:List<|V×cO×aQ}->eN h p es c->eN n a es c|[],_,r=>r|(k,v)::es,_,r=>let ⟨y,x,q,e,t,w⟩:=r;⟨y,x,q,e,aT.b T Q v t,eN.j T Q es w⟩
def f6(a:dR)(b:cO):Prop:=X2 λ(l:Nat)(p:cO×cO)=>A2 (a[l]?=J p)<|b=p.1\/b=p.2
theorem aFI(T:iU h c)(k1:c.get? a=h.get? a)(r:h.DictOfH (pW prog w) a m):c.DictOfH (pW prog w) a m:=by refine uV r λo es n g x d e q p=>⟨o,es,n,k1.trans g,x,d,e,λy l=>⟨(q y l).1,aT.b T (f8 _) _ (q y l).2⟩,p⟩
theorem qV.b(T:iU h m)(Q:v<+:q)(k1:m.get? p.1=h.get? p.1)(k2:m.get? p.2=h.get? p.2)(r:qV prog w h v p o):qV prog w m q p o:=by
 induction o with
 |a z=>refine ja r λe t d r=>oE d λn g=>yq e t ⟨n,k1.trans g⟩<|ca.d T Q _ r|f z=>refine ja r λe t d r=>aG d λo g c=>yq e t ⟨o,k1.trans g,c⟩<|ca.d T Q _ r|d es=>refine ja r λe l d r=>wp d λo x y g c=>yq e l ⟨o,x,y,k1.trans g,c⟩<|dX.j T Q _ r|e es=>refine ja r λe l g r=>yq e l (aFI T k1 g)<|eN.j T Q _ r|b c D=>refine Eu r λg A B l n C r=>⟨k1.trans g,A,B,l,n,k2.trans C,fF.c T Q _ r⟩
structure Wd where
 i:vx
 w:cz
 K:nH
 j:e_
 p:vx
 r:List ac
 m:ac->Option aQ
 o:ac->Option aQ
 q:AJ
 X:K.In j
 T:TopRead p r m o j
 n:Hl K=true
structure aZ(W:Wd)(φ:dR)(H:Hp)(h:e_):Prop where
 w:φ.length=H.length
 L:∀(l:Nat)(o:O)(p:cO×cO),H[l]?=J o->φ[l]?=J p->qV W.i W.w h φ p o
 N:∀(l l':Nat)(p p':cO×cO),φ[l]?=J p->φ[l']?=J p'->l≠l'->p.1≠p'.1/\p.1≠p'.2/\p.2≠p'.1/\p.2≠p'.2
 I:∀(l:Nat)(o:O)(p:cO×cO),H[l]?=J o->φ[l]?=J p->(∃vs,o=.f vs)\/(W.j.get? p.1=aA/\W.j.get? p.2=aA/\2<p.1)
 j:∀b o,W.j.get? b=J o->h.get? b=J o
def Ok(W:Wd)(s:bG):Prop:=s.gens=#[]/\s.os=W.q
structure b_(φ:dR)(h:e_)(cD:dR)(h':e_):Prop where
 i:φ<+:cD
 k:∀(l:Nat)(p:cO×cO),φ.length<=l->cD[l]?=J p->h.get? p.1=aA/\h.get? p.2=aA
 j:∀b o,h.get? b=J o->¬f6 φ b->h'.get? b=J o
theorem b_.u(a:dR)(h:e_):b_ a h a h:=⟨f8 _,λl p m e=>(by rw [ey m]at e;exact aX e),λ_ _ e _=>e⟩
section
theorem aZ.D(R:aZ W a H h){l:Nat}{o:O}(e:H[l]?=J o):∃p,a[l]?=J p/\qV W.i W.w h a p o:=by
 haveI c:l<a.length:=by rw [R.w];exact(jM.mp e).1
 exact bU (a[l]) (f7 c)<|R.L _ _ _ e<|f7 c
theorem aZ.af(R:aZ W a H h){l:Nat}{p:cO×cO}(e:a[l]?=J p):∃o,H[l]?=J o/\qV W.i W.w h a p o:=by
 haveI c:l<H.length:=by rw [<-R.w];exact(jM.mp e).1
 exact bU (H[l]) (f7 c)<|R.L _ _ _ (f7 c) e
theorem Cw:Im "list"≠Im "tuple":=by decide
theorem AA:Im "dict"≠Im "tuple":=by decide
theorem qV.a(r:qV prog w h z p o):(∃x,h.get? p.1=J x/\x.cls≠.type "tuple")/\∃x,h.get? p.2=J x/\x.cls≠.type "tuple":=by
 induction o with
 |a m=>refine ja r λe q d r=>oE d λn g=>?_;rw [e];exact⟨⟨_,g,Cw⟩,⟨_,g,Cw⟩⟩|f m=>refine ja r λe q d r=>hJ d λo g c _=>?_;rw [e];exact⟨⟨o,g,c▸Cw⟩,⟨o,g,c▸Cw⟩⟩|d es=>refine ja r λe l d r=>wu d λo _ _ g c _=>?_;rw [e];exact⟨⟨o,g,c.1▸AA⟩,⟨o,g,c.1▸AA⟩⟩|e es=>refine ja r λe l d r=>wu d λo _ _ g c _=>?_;rw [e];exact⟨⟨o,g,c.1▸AA⟩,⟨o,g,c.1▸AA⟩⟩|b c A=>refine Eu r λg B _ l n t r=>⟨⟨_,g,λv=>nomatch v⟩,⟨_,t,AA⟩⟩
theorem aZ.P(R:aZ W a H h){b:cO}(m:f6 a b):∃x,h.get? b=J x/\x.cls≠.type "tuple":=by
 refine cV m λl p e q=>aG (R.af e) λo _ r=>?_;clear e m;rcases q with rfl|rfl
 ·exact r.a.1
 exact r.a.2
theorem aZ.ag(R:aZ W d H h)(g:h.get? a=J o)(c:o.cls=.type "tuple"):¬f6 d a:=λm=>by refine aG (R.P m) λx e n=>?_;rw [g]at e;(replace e:=ao e;subst e);exact n c
theorem b_.w(S:b_ a h e l)(R:aZ W a H h):iU h l:=λ_ _ _ g=>S.j _ _ g<|R.ag g rfl
theorem b_.d(S:b_ e h a l)(R:aZ W e H h)(r:aT h e v x):aT l a v x:=aT.b (S.w R) S.i v r
theorem b_.s(S:b_ e h a l)(R:aZ W e H h)(r:ca h e v x):ca l a v x:=ca.d (S.w R) S.i v r
theorem b_.c(A:aZ W v kL z)(a:b_ I h v z)(b:b_ v z D P):b_ I h D P:=by
 haveI old:∀x o,h.get? x=J o->∃R,z.get? x=J R:=λx o e=>by
  by_cases m:f6 I x;·refine cV m λl p e q=>aG (A.P ⟨l,p,AB a.i e,q⟩) λR g _=>⟨R,g⟩
  exact⟨o,a.j _ _ e m⟩
 haveI C:∀x,z.get? x=aA->h.get? x=none:=λx e=>by
  induction q:h.get? x with
  |none=>rfl|some o=>refine oE (old _ _ q) λR g=>?_;rw [e]at g;exact aX g
 haveI B:∀x,f6 v x->¬f6 I x->h.get? x=none:=λx ⟨l,p,e,q⟩ n=>by
  have X:I.length<=l:=by
   refine aU (fV l I.length) ?_ ?_;·intro h;exact absurd ⟨l,p,by refine oE a.i λt H=>?_;clear A;clear b a;subst H;rwa [jL h]at e,q⟩ n
   intro h;exact h
  clear n;rcases q with rfl|rfl
  ·exact(a.k l p X e).1
  exact(a.k l p X e).2
 refine⟨a.i.trans b.i,λl p X e=>?_,λx o e m=>?_⟩
 ·refine aU (fV l v.length) ?_ ?_
  ·intro h;refine a.k l p X ?_;refine oE b.i λt H=>?_;clear B b a A;subst H
   rwa [jL h]at e
  intro h;haveI:=b.k l p h e;exact⟨C _ this.1,C _ this.2⟩
 refine b.j _ _ (a.j _ _ e m) λQ=>?_;rw [B _ Q m]at e;exact aX e
theorem aZ.u(R:aZ W c H h)(k:∀b o,h.get? b=J o->h'.get? b=J o):aZ W c H h'/\b_ c h c h':=by refine⟨⟨R.w,λl o p e q=>?_,R.N,R.I,λb o e=>k _ _<|R.j _ _ e⟩,⟨f8 _,λl p v e=>(by rw [ey v]at e;exact aX e),λb o e _=>k _ _ e⟩⟩;haveI r:=R.L l o p e q;obtain⟨⟨x,d,_⟩,⟨y,m,_⟩⟩:=r.a;exact r.b (λa z n g=>k _ _ g) (f8 _) ((k _ _ d).trans d.symm)<|(k _ _ m).trans m.symm
theorem aZ.aa(R:aZ W a H h){p:cO×cO}{o:O}(k:∀b o,h.get? b=J o->h'.get? b=J o) (v:h.get? p.1=aA) (A:h.get? p.2=aA) (n3:2<p.1)
  (r:qV W.i W.w h' (a++[p]) p o):aZ W (a++[p]) (H++[o]) h'/\b_ a h (a++[p]) h':=by
 have M:=R.u k;haveI al:∀(l:Nat)(q:cO×cO),a[l]?=J q->(∃x,h.get? q.1=J x)/\∃x,h.get? q.2=J x:=λl q e=>by refine aG (R.af e) λo _ r=>?_;haveI cG:=r.a.1;haveI bT:=r.a.2;refine aG cG λx gx _=>?_;obtain⟨y,gy,_⟩:=bT;exact⟨⟨x,gx⟩,⟨y,gy⟩⟩
 have ne:∀(l:Nat)(q:cO×cO),a[l]?=J q->q.1≠p.1/\q.1≠p.2/\q.2≠p.1/\q.2≠p.2:=λl q e=>by
  refine on (al l q e) λcG bT=>oE cG λx gx=>?_;obtain⟨y,gy⟩:=bT;refine⟨λz=>?_,λz=>?_,λz=>?_,λz=>?_⟩;·rw [z,v]at gx;exact aX gx
  ·rw [z,A]at gx;exact aX gx
  ·rw [z,v]at gy;exact aX gy
  rw [z,A]at gy;exact aX gy
 have c:∀(l:Nat)(q:cO×cO),(a++[p])[l]?=J q->a[l]?=J q\/(l=a.length/\q=p):=λl q e=>by
  rcases IR l a.length with h|h|h;·rw [jL h]at e;exact .inl e
  ·clear ne al M r R;subst h;simp at e;exact .inr ⟨rfl,e.symm⟩
  rw [kf<|RZ h]at e;have:l-a.length≠0:=(a9<|dg bQ Y [.t Z aB,.g (.a Y Z) aB] U h<|bY<|aV Y Z [.t Y Z] U h)
  induction q:l-a.length using iJ with
  |zero=>exact absurd q this|succ m=>rw [q]at e;simp at e
 refine⟨⟨by simp [R.w],λl o' q e d=>?_,λl l' q q' e e' n=>?_,λl o' q e d=>?_,M.1.j⟩,⟨IU _ _,λl q n e=>?_,M.2.j⟩⟩
 ·clear ne al n3 A v;rcases c l q d with d|⟨rfl,rfl⟩
  ·have n:l<H.length:=by rw [<-R.w];exact(jM.mp d).1
   rw [jL n]at e;exact(M.1.L l o' q e d).b (λ_ _ _ g=>g) (IU _ _) rfl rfl
  rw [R.w]at e;simp at e;subst e;exact r
 ·clear al M r n3 A v;rcases c l q e with e2|⟨rfl,rfl⟩<;>rcases c l' q' e' with e3|⟨rfl,rfl⟩
  ·exact R.N l l' q q' e2 e3 n
  ·exact ne _ _ e2
  ·haveI:=ne _ _ e3;exact⟨this.1.symm,this.2.2.1.symm,this.2.1.symm,this.2.2.2.symm⟩
  exact absurd rfl n
 ·clear ne al M r;rcases c l q d with d|⟨rfl,rfl⟩
  ·have n:l<H.length:=by rw [<-R.w];exact(jM.mp d).1
   rw [jL n]at e;exact R.I l o' q e d
  refine .inr ⟨?_,?_,n3⟩
  ·induction z:W.j.get? q.1 with
   |none=>rfl|some x=>rw [R.j _ _ z]at v;exact iC v
  induction z:W.j.get? q.2 with
  |none=>rfl|some x=>rw [R.j _ _ z]at A;exact iC A
 clear ne al M r n3 R;rcases c l q e with e|⟨rfl,rfl⟩
 ·rw [ey n]at e;exact aX e
 exact⟨v,A⟩
theorem aZ.S(R:aZ W φ H h)(e:H[l]?=J o)(ep:φ[l]?=J p)(hro:∀vs,o≠.f vs) (ha:a=p.1\/a=p.2)
  (sb:∀b ob,b≠a->h.get? b=J ob->h'.get? b=J ob) (r:iU h h'->qV W.i W.w h' φ p o'):aZ W φ (H.set l o') h'/\b_ φ h φ h':=by
 have hm:f6 φ a:=⟨l,p,ep,ha⟩
 have T:iU h h':=λb vs n g=>sb b _ (λz=>by subst z;exact R.ag g rfl hm) g;haveI hl:l<H.length:=(jM.mp e).1;haveI ab:=(R.I l o p e ep).resolve_left λ⟨vs,q⟩=>hro vs q;refine⟨⟨by simp [R.w],λl' o1 q v d=>?_,R.N,λl' o1 q v d=>?_,λb ob g=>?_⟩,⟨f8 _,λl p hl e=>(by rw [ey hl]at e;exact aX e),λb ob g m=>?_⟩⟩
 ·by_cases c:l'=l
  ·clear e;subst c;rw [vg hl]at v;rw [ep]at d;(replace d:=ao d;clear ep ab ha;subst d);(replace v:=ao v;subst v);exact r T
  rw [qY<|iX c]at v;haveI A:=R.N l' l q p d ep c;haveI r0:=R.L l' o1 q v d;refine on r0.a λcG bT=>?_;obtain⟨x,gx,_⟩:=cG;obtain⟨y,gy,_⟩:=bT;refine r0.b T (f8 _) ((sb _ _ ?_ gx).trans gx.symm)<|(sb _ _ ?_ gy).trans gy.symm;·clear ab hm r sb ep;rcases ha with rfl|rfl;exact A.1;exact A.2.1
  clear ab hm r sb ep;rcases ha with rfl|rfl;exact A.2.2.1;exact A.2.2.2
 ·by_cases c:l'=l
  ·clear hl e;clear v;subst c;rw [ep]at d;(replace d:=ao d;clear ep r;clear ha;subst d);exact .inr ab
  rw [qY<|iX c]at v;exact R.I l' o1 q v d
 ·refine sb b _ (λz=>?_)<|R.j _ _ g;clear hm sb;subst z;rcases ha with rfl|rfl;·rw [ab.1]at g;exact aX g
  rw [ab.2.1]at g;exact aX g
 exact sb b _ (λz=>by clear sb ha;subst z;exact m hm) g
end
set_option genInjectivity true
noncomputable def HW:lO->IV|.a=>.Add|.c=>.Sub|.g=>.Mult|.f=>.FloorDiv|.e=>.Mod|.b=>.BitAnd|.d=>.BitOr
theorem HX(h:xa o=J q):o=HW q:=by induction o<;>first|exact aX h|((replace h:=ao h;subst h);rfl)
noncomputable def Qe:tF->CmpOp|.c=>.Eq|.d=>.NotEq|.f=>.Lt|.g=>.LtE|.h=>.Gt|.e=>.GtE|.b=>.In|.a=>.NotIn
theorem Qf(h:Ce o=J q):o=Qe q:=by induction o<;>first|exact aX h|((replace h:=ao h;subst h);rfl)
theorem aFB(a b:List Nat):((⟨a.toArray⟩:ac)++(⟨b.toArray⟩:ac))=⟨(a++b).toArray⟩:=by refine(?_:aIu _ _=_);simp [aIu]
section
variable{W:Wd}{E:aQ->bG->Prop}{s:bG}
theorem Qg(e:mF q a b=J v)(n:aT s.heap p a x)(B:aT s.heap p b y)
  (h:∀z C,aT s.heap p v z->Q z {s with toks:=C}):aq (bL W.i W.w) A (Df (HW q) x y) Q E s:=by
 induction a with
 |d i=>induction b with
  |d j=>
   obtain⟨t,rfl⟩:=n;obtain⟨u,rfl⟩:=B;have wz:∀{c:Prop} [Decidable c]{w:V},(if c then J w else aA)=J v->c/\w=v:=λ{c _ w} g=>by
    by_cases d:c;·rw [if_pos d]at g;exact⟨d,ao g⟩
    rw [if_neg d]at g;exact aX g
   induction q with
   |a=>exact wpAny_add_int<|h _ _<|(ao e)▸⟨_,rfl⟩|c=>exact sub_int'<|h _ _<|(ao e)▸⟨_,rfl⟩|g=>obtain⟨m,rfl⟩:=wz e;exact mul_int (h _ _ ⟨_,rfl⟩)<|IntMulOk.of_left<|intBits_le_64 (RK (by decide) m.1)<|Ig m.2<|by decide
   |f=>obtain⟨m,rfl⟩:=wz e;exact floordiv_int (aIv m.1)<|h _ _ ⟨_,rfl⟩
   |e=>obtain⟨m,rfl⟩:=wz e;exact mod_int' (aIv m.1)<|h _ _ ⟨_,rfl⟩
   |b=>exact and_int<|h _ _<|(ao e)▸⟨_,rfl⟩|d=>exact or_int<|h _ _<|(ao e)▸⟨_,rfl⟩
  |_=>exact aX e
 |k i=>induction b with
  |k j=>
   induction q with
   |a=>
    by_cases l:i.length+j.length<1000000
    ·have e:(if i.length+j.length<1000000 then J (V.k<|i++j)else aA)=J v:=e;rw [if_pos l]at e
     (replace e:=ao e;subst e);obtain⟨t,rfl⟩:=n;obtain⟨u,rfl⟩:=B
     refine add_str (λD C=>h _ _ ⟨D,?_⟩) ?_;·rw [aFB]
     simp only [nK,j4,kI];exact(uS l)
    exact aX<|(if_neg l).symm.trans e
   |_=>exact aX e
  |_=>exact aX e
 |_=>exact aX e
theorem aFC(d:q=.a\/q=.c)(e:mF q a b=J v)(l:∀i,a≠.k i) (m:aT s.heap c a x) (n:aT s.heap c b y)
  (h:∀z p,aT s.heap c v z->Q z {s with toks:=p}):aq (bL W.i W.w) A (inplaceOp (HW q) x y) Q E s:=by
 induction a with
 |d i=>induction b with
  |d j=>
   obtain⟨t,rfl⟩:=m;obtain⟨u,rfl⟩:=n;rcases d with rfl|rfl;·exact wpAny_iadd_int<|h _ _<|(ao e)▸⟨_,rfl⟩
   exact isub_int<|h _ _<|(ao e)▸⟨_,rfl⟩
  |_=>exact aX e
 |k i=>exact absurd rfl (l _)|_=>exact aX e
theorem aZ.t(R:aZ W m H s.heap)(e:H[l]?=J (.a A))(r:aT s.heap m (.j l) x):X2 λa d=>A4 (x=.ref a) (m[l]?=J (a,a)) (vW s.heap a d) (ca s.heap m A d):=by refine aG (R.D e) λp q v=>aG r λp' c n=>?_;rw [n];rw [q]at c;(replace c:=ao c;rw [<-c]);refine ja v λz d la rl=>?_;obtain⟨p1,p2⟩:=p;dsimp only at z;clear r v;clear c;subst z;exact⟨_,d,rfl,q,la,rl⟩
theorem Qh:(a:List V)->(∀v∈a,v.p=true)->{d:List aQ}->ca h w a d->∃e,ReadsAll h d (a.map di) e|[],_,_,r=>by haveI r:_=[]:=r;rw [r];exact⟨_,.nil⟩|v::a,p,_,r=>by refine j9 r λy x c l m=>?_;rw [c];refine oE (xh v (gZ<|p v<|.head _) l) λe n=>oE (Qh a (λv q=>p v<|.tail _ q) m) λbs t=>⟨_,.cons n t⟩
theorem xk:(e:List V)->(∀v∈e,v.p=true)->SS (e.map di)=true/\AU (e.map di)<=8|[],_=>⟨rfl,jI _⟩|v::e,p=>by haveI a:=(xk e λv l=>p v<|.tail _ l).1;haveI b:=(xk e λv l=>p v<|.tail _ l).2;haveI c:=zw v<|gZ<|p v<|.head _;haveI d:=QY v<|gZ<|p v<|.head _;haveI m:=Cq<|p v<|.head _;simp only [g9,SS,AU,a,c,Bool.and_self,true_and];omega
theorem Qi:(a c:List V)->(∀v∈a,v.p=true)->(∀v∈c,v.p=true)->vv (a.map di) (c.map di)=aJ (a=c)|[],[],_,_=>by simp [vv]|[],_::_,_,_=>by simp [vv]|_::_,[],_,_=>by simp [vv]|v::a,w::c,p,q=>by simp only [g9,vv,Cp v w (gZ<|p v<|.head _)<|gZ<|q w<|.head _,Qi a c (λv d=>p v<|.tail _ d) λv d=>q v<|.tail _ d];simp
theorem Qj:(a:List V)->(v:V)->(∀v∈a,v.p=true)->v.p=true->(a.map di).any (λy=>q8 y<|di v)=aJ (v∈a)|[],v,_,_=>by simp|w::a,v,p,q=>by simp only [g9,Ih,Cp w v (gZ<|p w<|.head _)<|gZ q,Qj a v (λv c=>p v<|.tail _ c) q];simp [eq_comm]
theorem vW.c(l:vW h a m)(p:∀v∈d,v.p=true) (r:ca h t d m):∃e,Reads h (.ref a) (.list<|d.map di) e:=by refine oE l λn g=>oE (Qh d p r) λe q=>⟨_,.list g rfl rfl q⟩
theorem Cu{c:List V}(p:∀v∈c,v.p=true):aH3 (.list<|c.map di)=true:=by haveI a:=(xk c p).1;haveI b:=(xk c p).2;exact bi.mpr ⟨a,decide_eq_true<|cN b⟩
set_option tactic.hygienic true in
theorem Cv(R:aZ W p H s.heap)(e:oL H v=J t)(r:aT s.heap p v x)
  (h:∀w,Q t {s with toks:=w}):aq (bL W.i W.w) A (truthy x) Q E s:=by
 induction v with
 |o=>(replace e:=ao e;subst e);subst r;exact truthy_none<|h _|n b=>(replace e:=ao e;subst e);subst r;exact Il<|h _|d i=>
  (replace e:=ao e;subst e);obtain⟨u,rfl⟩:=r
  refine aMx ?_;have:(i !=0)=aJ (i≠0):=by by_cases q:i=0<;>simp [q]
  rw [this];exact h _
 |j l=>
  refine aG (lP e) λo z e=>?_;induction o with
  |a d=>
   refine on (io e) λB e=>?_
   (replace e:=ao e;subst e)
   refine iH (R.t z r) λa m c _ C D=>?_;clear r;subst c;haveI n:=D.c;refine wpAny_truthy_list C.b ?_ ?_;·rw [j4,<-n];omega
   have:m.toArray.isEmpty=d.isEmpty:=by induction d<;>induction m<;>first|rfl|cases n
   rw [this];exact h _
  |_=>exact aX e
 |_=>exact aX e
end
section
variable{E:aQ->bG->Prop}
theorem On(a:i<n)(h:p i=false):(cF n).all p=false:=by rw [List.all_eq_false];exact⟨i,oU.mpr a,by rw [h];decide⟩
theorem aED(h:∀i,i<n->p i=true):(cF n).all p=true:=by rw [eI];exact λi a=>h i<|oU.mp a
theorem Oo(ha:(a==rX)=false)(hb:(b==rX)=false)
  (n:s.heap.get? a=J oa) (p:oa.data=.dict es ep) (C:s.heap.get? b=J ob) (D:ob.data=.dict l gQ) (F:Nat->Option Nat) (c:Nat->Bool)
  (H:∀i(e:iq),es[i]?=J e->∀(Q:Option Nat->bG->Prop),Q (F i) s->aq (bL prog w) A (dictFind b e.key e.hash) Q E s)
  (P:∀i j(e:iq),es[i]?=J e->F i=J j->∃R,l[j]?=J R/\∀(Q:Bool->bG->Prop),Q (c i) s->aq (bL prog w) A (eqBool e.val R.val) Q E s)
  (h:Q (es.size==l.size&&(cF es.size).all λi=>(F i).isSome&&c i) s):aq (bL prog w) A (SM nm a b) Q E s:=by
 delta SM aMr;rw [if_neg (show ¬(a==rX)=true by rw [ha];exact yA),if_neg (show ¬(b==rX)=true by rw [hb];exact yA)];refine bC<|bm<|bC<|bm ?_;refine bC<|D6 n p ?_;refine bC<|D6 C D ?_;by_cases t:es.size=l.size
 case neg=>
  rw [if_pos<|by simpa using t];haveI W:(es.size==l.size)=false:=by simpa using t
  rw [W,DU]at h;exact bC<|wpAny_rule<|bm h
 case pos=>
  rw [if_neg<|by rw [t];simp];haveI X:(es.size==l.size)=true:=by simpa using t
  rw [X,Hy]at h;refine bC<|aHP n p ?_;refine bC ?_;rw [Std.Legacy.Range.forIn_eq_forIn_range'];simp only [Std.Legacy.Range.size,Nat.sub_zero,Nat.add_sub_cancel,Nat.div_one];refine aHQ _
   (λbo q s'=>s'=s/\q=(aA,())/\∃i,A3 (bo=aHR i (es.size-i)) (i<=es.size) (∀j,j<i->((F j).isSome&&c j)=true))
   _ ?_ ?_ _ _ ⟨rfl,rfl,0,by simp,jI _,λj hj=>absurd hj<|aHS _⟩
  ·rintro x bo q s' ⟨rfl,rfl,i,v,z,m⟩;have d:i<es.size:=by
    refine aU (fV i es.size) ?_ ?_;·intro h;exact h
    intro h;rw [Nat.sub_eq_zero_of_le h]at v;simp at v
   obtain⟨rfl,B⟩:x=i/\bo=aHR (i+1) (es.size-(i+1)):=by
    haveI e:es.size-i=(es.size-(i+1))+1:=(bj (de Y aY [.e (.a Y aB) aI,.g (.a Z bN) aI] U (bY<|aV Y Z [.l Y Z] U z)<|bY<|aV aR Z [.t Y Z] U d)<|de aR Z [.g (.a Z aB) aI,.e (.a Y bN) aI] U (bY<|aV Y Z [.l Y Z] U z)<|bY<|aV aR Z [.t Y Z] U d)
    rw [e,aHT]at v;injection v with h1 h2;exact⟨h1,h2⟩
   refine bC<|D6 n p ?_;haveI hx:es[x]?=J es[x]:=SN d;rw [hx];refine bC<|pd<|bC<|H x _ hx _ ?_;induction I:F x with
   |none=>rw [On d<|by rw [I];rfl]at h;refine bm ?_;rw [if_pos<|by decide];exact bm<|bm h|some j=>
    refine aG (P x j _ hx I) λR q9 hc=>bC (D6 C D ?_);rw [q9];refine pd<|hc _ ?_;induction hG:c x with
    |false=>rw [On d<|by rw [I,hG];rfl]at h;rw [if_pos<|by decide];exact bm<|bm h|true=>
     rw [if_neg<|by decide];refine bC<|aHP n p ?_;rw [if_neg<|by simp];refine bm ⟨rfl,rfl,x+1,B,d,λj' qf=>?_⟩;refine aU (fV j' x) ?_ ?_;·intro q;exact m j' q
     intro q;have:j'=x:=(bj (aV Y Z [.t Y aY] U qf)<|aV Y Z [.l Y Z] U q)
     rw [this];rw [I,hG];rfl
  rintro q s' ⟨rfl,rfl,i,v,z,m⟩;haveI hin:i=es.size:=by
   refine aU (fV i es.size) ?_ ?_
   ·intro h;haveI e:es.size-i=(es.size-(i+1))+1:=(bj (de Y aY [.e (.a Y aB) aI,.g (.a Z bN) aI] U (bY<|aV Y Z [.l Y Z] U z)<|bY<|aV aR Z [.t Y Z] U h)<|de aR Z [.g (.a Z aB) aI,.e (.a Y bN) aI] U (bY<|aV Y Z [.l Y Z] U z)<|bY<|aV aR Z [.t Y Z] U h)
    rw [e,aHT]at v;exact nomatch v
   intro h;exact bj z h
  clear z v;subst hin;rw [aED m]at h;exact bm h
theorem Op(l:Bool)(c:s.TypeIs (.ref a) "dict")(d:s.TypeIs (.ref b) "dict")(m:A.units<iY)
  (e:∀(nm:String)(Q:Bool->bG->Prop),Q r s->aq (bL prog w) A.in1 (SM nm a b) Q E s) (h:Q (.bool (if l then !r else r)) s):
  aq (bL prog w) A (nI (if l then .NotEq else .Eq) (.ref a)<|.ref b) Q E s:=by
 induction l with
 |false=>
  refine aHU (op:=.Eq) c d aHV (IX aHV c PySem.F.entry_dict_eq ?_<|PySem.F.args_dict_eq_2 _ _) m;refine bC<|bC (aHW c ?_);refine bm<|bC (SO (T:="dict") d aHX ?_);simp only [IY,ti,if_false];refine bC<|bm<|bC<|bm ?_;refine bC<|e _ _ ?_;refine bm ⟨_,rfl,?_,?_⟩;·exact λx=>nomatch x
  simpa using h
 |true=>
  refine aHU (op:=.NotEq) c d aHY (IX aHY c PySem.F.entry_dict_ne ?_<|PySem.F.args_dict_ne_2 _ _) m;refine bC<|bC (aHW c ?_);refine bm<|bC (SO (T:="dict") d aHX ?_);simp only [IY,ti,if_false];refine bC<|bm<|bC<|bm ?_;refine bC<|e _ _ ?_;refine bm ⟨_,rfl,?_,?_⟩;·exact λx=>nomatch x
  simpa using h
end
theorem dX.f:(es:List<|Int×V)->{a:List<|Int×aQ}->dX h c es a->a.map (·.1)=es.map (·.1)|[],_,r=>by haveI r:_=[]:=r;rw [r];rfl|(k,v)::es,_,r=>by obtain⟨x,q,rfl,_,r⟩:=r;simp [dX.f es r]
theorem eN.d:(es:List<|V×V)->{a:List<|V×cO×aQ}->eN h c es a->a.map (·.1)=es.map (·.1)|[],_,r=>by haveI r:_=[]:=r;rw [r];rfl|(k,v)::es,_,r=>by obtain⟨y,x,q,rfl,_,r⟩:=r;simp [eN.d es r]
theorem dX.g:(es:List<|Int×V)->{a:List<|Int×aQ}->dX h c es a->(i:Nat)->(es[i]?=aA/\a[i]?=aA)\/X3 λk v x=>A3 (es[i]?=J (k,v)) (a[i]?=J (k,x))<|aT h c v x
 |[],_,r,i=>by haveI r:_=[]:=r;rw [r];exact .inl ⟨rfl,rfl⟩|(k,v)::es,_,r,i=>by
  obtain⟨x,q,rfl,e,r⟩:=r;induction i using iJ with
  |zero=>exact .inr ⟨k,v,x,rfl,rfl,e⟩|succ i=>simpa using dX.g es r i
theorem eN.g:(es:List<|V×V)->{c:List<|V×cO×aQ}->eN h e es c->(i:Nat)->(es[i]?=aA/\c[i]?=aA)\/X4 λk v a x=>A3 (es[i]?=J (k,v)) (c[i]?=J (k,a,x))<|aT h e v x
 |[],_,r,i=>by haveI r:_=[]:=r;rw [r];exact .inl ⟨rfl,rfl⟩|(k,v)::es,_,r,i=>by
  obtain⟨y,x,q,rfl,n,r⟩:=r;induction i using iJ with
  |zero=>exact .inr ⟨k,v,y,x,rfl,rfl,n⟩|succ i=>simpa using eN.g es r i
section
variable{α β:Type} [DecidableEq α]
noncomputable def oQ(es:List<|α×β)(k:α):Option β:=(es.find? λe=>aJ<|e.1=k).map (·.2)
theorem HL(es:List<|α×β)(k:α):oQ es k=(es.findIdx? λe=>aJ<|e.1=k).bind λj=>(es[j]?).map (·.2):=by
 induction es with
 |nil=>rfl|cons e es a=>
  simp only [oQ,gA,aHZ]at a⊢;by_cases q:e.1=k;·simp [q]
  simp only [decide_eq_false q,ti,if_false,a];cases List.findIdx? (λe=>aJ<|e.1=k) es<;>simp
theorem Oq{d:Type}(es:List<|α×β)(c:List<|α×d)(h:c.map (·.1)=es.map (·.1))(k:α):(c.findIdx? λe=>aJ<|e.1=k)=es.findIdx? λe=>aJ (e.1=k):=by
 haveI a:∀{m:Type}(l:List<|α×m),(l.findIdx? λe=>aJ<|e.1=k)=(l.map (·.1)).findIdx? λe=>aJ (e=k):=λl=>by rw [List.findIdx?_map];rfl
 rw [a,a,h]
noncomputable def rQ(a c:List<|α×β)(i:Nat):Option Nat:=(a[i]?).bind λe=>c.findIdx? λy=>aJ<|y.1=e.1
noncomputable def vR [DecidableEq β](a c:List<|α×β)(i:Nat):Bool:=match a[i]? with|some e=>aJ (oQ c e.1=J e.2)|none=>false
theorem Os{c:List<|α×β} [DecidableEq β]{n:Nat}(l:n=d.length):
  ((cF n).all λi=>(rQ d c i).isSome&&vR d c i)=d.all λe=>aJ (oQ c e.1=J e.2):=by
 rw [l];rw [aHj,eI,eI];constructor;·intro q e m;obtain⟨i,a,rfl⟩:=List.mem_iff_getElem.mp m;have:=q i<|oU.mpr a;unfold rQ vR at this;rw [f7 a]at this;exact(bi.mp this).2
 intro q i a;have a:=oU.mp a;delta rQ vR;rw [f7 a];have:=q _<|List.getElem_mem a;refine bi.mpr ⟨?_,this⟩;haveI:=of_decide_eq_true this;rw [HL]at this;induction r:c.findIdx? λy=>aJ (y.1=d[i].1)with
 |none=>rw [r]at this;exact aX this|some j=>simp [r]
end
section
variable{W:Wd}{E:aQ->bG->Prop}{s:bG}
theorem aZ.C(R:aZ W n H s.heap)(e:H[l]?=J (.d es))(r:aT s.heap n (.j l) x):
  X2 λa m=>A5 (x=.ref a) (n[l]?=J (a,a)) (s.heap.DictOf (nJ W.i W.w) a m) (dX s.heap n es m) ((a==rX)=false):=by
 refine aG (R.D e) λp v ro=>?_;haveI ab:=R.I _ _ _ e v;refine aG r λp' c A=>?_;clear r;subst A;rw [v]at c;(replace c:=ao c;subst c);refine ja ro λe2 m d rl=>?_;obtain⟨p1,p2⟩:=p;dsimp only at e2;clear ro;subst e2;refine⟨_,m,rfl,v,d,rl,?_⟩;refine aU ab ?_ ?_;·refine λqz=>oE qz λvs q=>Mine.O.noConfusion q
 refine λqz=>fk qz λ_ _ q=>?_;exact beq_eq_false_iff_ne.mpr λz=>vd 2<|kE (z▸q)<|by decide
theorem aZ.F(R:aZ W n H s.heap)(e:H[l]?=J (.e es))(r:aT s.heap n (.j l) x):
  X2 λa m=>A5 (x=.ref a) (n[l]?=J (a,a)) (s.heap.DictOfH (pW W.i W.w) a m) (eN s.heap n es m) ((a==rX)=false):=by
 refine aG (R.D e) λp v ro=>?_;haveI ab:=R.I _ _ _ e v;refine aG r λp' c A=>?_;clear r;subst A;rw [v]at c;(replace c:=ao c;subst c);refine ja ro λe2 m d rl=>?_;obtain⟨p1,p2⟩:=p;dsimp only at e2;clear ro;subst e2;refine⟨_,m,rfl,v,d,rl,?_⟩;refine aU ab ?_ ?_;·refine λqz=>oE qz λvs q=>Mine.O.noConfusion q
 refine λqz=>fk qz λ_ _ q=>beq_eq_false_iff_ne.mpr λz=>vd 2<|kE (z▸q)<|by decide
theorem HM{m:Type} [DecidableEq m]{knd:KeyKind W.i W.w m}{es:List iq}{a:List<|m×aQ}(h:Pairs knd es a):∀(i:Nat)(e:iq),es[i]?=J e->∃k,a[i]?=J (k,e.val)/\knd.is k e.key=true:=by
 induction h with
 |nil=>intro i e q;exact aX q|cons c d _ l=>
  intro i e q;induction i using iJ with
  |zero=>(replace q:=ao q;subst q);exact⟨_,by rw [d];rfl,c⟩|succ i=>simpa using l i e<|by simpa using q
theorem aEE(R:aZ W φ H s.heap){d c:List<|Int×V}{x y:aQ}{Q:aQ->bG->Prop}(ne:Bool)(e1:H[l]?=J (.d d))(e2:H[r]?=J (.d c))
  (px:d.all (·.2.p)=true) (py:c.all (·.2.p)=true) (hu:A.units+70<iY) (rx:aT s.heap φ (.j l) x) (ry:aT s.heap φ (.j r) y)
  (h:Q (.bool (if ne then !rH d c else rH d c)) s):aq (bL W.i W.w) A (nI (if ne then .NotEq else .Eq) x y) Q E s:=by
 refine l_ (R.C e1 rx) λa da C _ ha ra sa=>?_;clear rx;subst C;refine l_ (R.C e2 ry) λb db C _ hb rb sb=>?_;clear ry;subst C;haveI ta:=ha.typeIs;haveI tb:=hb.typeIs;refine uV ha λoa es ep KR _ KU hka D _=>uV hb λob m gQ X _ BZ hkb I _=>?_;have la:es.size=d.length:=by rw [<-IZ,D.length,<-ai (f:=(·.1)) (as:=da),dX.f d ra,ai]
 have lb:m.size=c.length:=by rw [<-IZ,I.length,<-ai (f:=(·.1)) (as:=db),dX.f c rb,ai]
 refine Op (r:=rH d c) ne ta tb (uR hu) (λnm Q w=>?_) h;refine Oo sa sb KR KU X BZ (rQ d c) (vR d c) ?_ ?_ ?_
 ·intro i e he Q w;obtain⟨k,P,n⟩:=HM D i e<|by rw [SP];exact he
  refine aU (dX.g d ra i) ?_ ?_;·refine λp=>on p λ_ q=>?_;rw [P]at q;exact iC q
  refine λp=>qA p λk' v x q1 q2 rv=>?_;rw [P]at q2;cases q2;refine aG (hka e<|Array.mem_of_getElem? he) λB t hh=>?_;have:=(nJ W.i W.w).inj _ _ _ t n;clear t P;subst this;rw [hh];refine wpAny_dictFind_of n X BZ hkb ?_;rw [rQ,q1]at w;haveI e3:(m.findIdx? λe=>(nJ W.i W.w).is B e.key)=c.findIdx? λy=>aJ (y.1=B):=by rw [<-Oq c db<|dX.f c rb,<-I.findIdx];obtain⟨l⟩:=m;simp
  rw [e3];exact w
 ·intro i j e he hF;obtain⟨k,P,n⟩:=HM D i e<|by rw [SP];exact he
  refine aU (dX.g d ra i) ?_ ?_;·refine λp=>on p λ_ q=>?_;rw [P]at q;exact iC q
  refine λp=>qA p λk' v x q1 q2 rv=>?_;rw [P]at q2;cases q2;simp only [rQ,q1,SQ]at hF;obtain⟨hj,_,_⟩:=SR.mp hF;have qf:j<m.size:=by rw [lb];exact hj
  haveI q9:m[j]?=J m[j]:=SN qf;obtain⟨k3,Ux,_⟩:=HM I j _<|by rw [SP];exact q9
  refine aU (dX.g c rb j) ?_ ?_;·refine λp=>on p λ_ q=>?_;rw [Ux]at q;exact iC q
  refine λp=>qA p λk4 v4 x4 q3 q4 KW=>?_;rw [Ux]at q4;cases q4;refine bU _ q9 λQ w=>?_;refine HR (eI.mp px _<|dU q1) (eI.mp py _<|dU q3) (by simp only [to];exact(be (.a aR<|.n 64) Z [.t (.p 0 70) Z] U hu)) rv KW ?_;simp only [vR,q1]at w;have:oQ c k=J v4:=by rw [HL,hF];simp [q3]
  rw [this]at w;haveI e5:aJ (v=v4)=aJ (J v4=J v):=by by_cases z:v=v4<;>simp [z,eq_comm]
  rw [e5];exact w
 rw [Os la,la,lb];have:rH d c=(d.length==c.length&&d.all λe=>aJ<|oQ c e.1=J e.2):=by
  simp only [rH];congr 1;refine aH0 rfl λe=>?_;by_cases z:d9 c e.1=J e.2;·have z':oQ c e.1=J e.2:=z;rw [z,z'];simp
  haveI z':¬oQ c e.1=J e.2:=z;rw [decide_eq_false z'];exact beq_eq_false_iff_ne.mpr z
 rw [<-this];exact w
theorem aEF(R:aZ W φ H s.heap){x y:aQ}{Q:aQ->bG->Prop}(ne:Bool)(e1:H[l]?=J (.e m))(e2:H[r]?=J (.e c))
  (px:m.all (·.2.p)=true) (py:c.all (·.2.p)=true) (hu:A.units+70<iY) (rx:aT s.heap φ (.j l) x) (ry:aT s.heap φ (.j r) y)
  (h:Q (.bool (if ne then !rI m c else rI m c)) s):aq (bL W.i W.w) A (nI (if ne then .NotEq else .Eq) x y) Q E s:=by
 refine l_ (R.F e1 rx) λa da X _ ha ra sa=>?_;clear rx;rw [X];refine l_ (R.F e2 ry) λb I X _ hb rb sb=>?_;clear ry;rw [X];haveI ta:=ha.typeIs;haveI tb:=hb.typeIs;refine uV ha λoa es ep KR _ KU w KX _=>uV hb λob wC gQ Uy _ BZ B KY E9=>?_;haveI la:es.size=m.length:=by rw [<-IZ,w,ai,<-ai (f:=(·.1)) (as:=da),eN.d m ra,ai]
 haveI lb:wC.size=c.length:=by rw [<-IZ,B,ai,<-ai (f:=(·.1)) (as:=I),eN.d c rb,ai]
 haveI d:∀(i:Nat)(e:iq),es[i]?=J e->X4 λk v a x=>A4 (m[i]?=J (k,v)) (da[i]?=J (k,a,x)) (aT s.heap φ v x) (e=⟨tR W.w k,.ref a,x⟩):=λi e n=>by
  rw [entry_at w i]at n;rcases eN.g m ra i with⟨_,q⟩|⟨k,v,a,x,C,D,rv⟩;·rw [q]at n;exact aX n
  rw [D]at n;(replace n:=ao n;clear KY B KX w hb ha R;subst n);exact Kq k v a x C D rv rfl
 haveI P:∀(i:Nat),i<c.length->X4 λk v a x=>A4 (c[i]?=J (k,v)) (I[i]?=J (k,a,x)) (aT s.heap φ v x) (wC[i]?=J ⟨tR W.w k,.ref a,x⟩):=λi hi=>by
  rcases eN.g c rb i with⟨q,_⟩|⟨k,v,a,x,C,D,rv⟩;·rw [f7 hi]at q;exact iC q
  exact⟨k,v,a,x,C,D,rv,by rw [entry_at B i,D];rfl⟩
 refine Op (r:=rI m c) ne ta tb (uR hu) (λnm Q t=>?_) h;refine Oo sa sb KR KU Uy BZ (rQ m c) (vR m c) ?_ ?_ ?_
 ·intro i e n Q t;refine pA (d i e n) λk v a x C D rv KZ=>?_;clear rv n P d w hb ha R;rw [KZ];haveI hk:=KX _<|dU D;rw [rQ,C,SQ,<-Oq c I<|eN.d c rb]at t;refine wpAny_dictFind_heap (knd:=pW W.i W.w) (by refine(?_:A.in1.units+64<iY);simp only [to];exact(be (.a aR<|.n 64) Z [.t (.p 0 70) Z] U hu)) hk Uy BZ B KY E9 (λno=>?_) λj p hj=>?_
  ·have:(I.findIdx? λe=>aJ<|e.1=k)=none:=by
    rw [List.findIdx?_eq_none_iff];intro z hz;refine oE (IN.mp hz) λj hj=>decide_eq_false λq=>no j z.2<|by rw [hj,<-q]
   dsimp only at t;rw [this]at t;exact t
  have:(I.findIdx? λe=>aJ<|e.1=k)=J j:=by rw [SR];have Uz:=(jM.mp hj).1;haveI hjv:I[j]=(k,p):=(jM.mp hj).2;refine⟨Uz,by rw [hjv];simp,λj' qf=>?_⟩;intro q;haveI q:=of_decide_eq_true q;have aLR:j'<I.length:=lW qf Uz;have:j'=j:=idxH_unique E9 (k:=k) (p:=I[j'].2) (q:=p) (by rw [f7 aLR,<-q]) hj;exact(nU<|yk this qf)
  dsimp only at t;rw [this]at t;exact t
 ·intro i j e n hF;refine pA (d i e n) λk v a x C D rv KZ=>?_;clear n;clear D d KY B KX w hb ha R;rw [KZ];simp only [rQ,C,SQ]at hF;obtain⟨hj,_,_⟩:=SR.mp hF;refine pA (P j hj) λk4 v4 a4 x4 q3 q4 KW q9=>bU _ q9 (λQ t=>?_);refine HR (eI.mp px _<|dU C) (eI.mp py _<|dU q3) (by simp only [to];exact(be (.a aR<|.n 64) Z [.t (.p 0 70) Z] U hu)) rv KW ?_;simp only [vR,C]at t;have:oQ c k=J v4:=by rw [HL,hF];simp [q3]
  rw [this]at t;haveI e5:aJ (v=v4)=aJ (J v4=J v):=by by_cases z:v=v4<;>simp [z,eq_comm]
  rw [e5];exact t
 rw [Os la,la,lb];have:rI m c=(m.length==c.length&&m.all λe=>aJ<|oQ c e.1=J e.2):=by
  simp only [rI];congr 1;refine aH0 rfl λe=>?_;by_cases z:gK c e.1=J e.2;·haveI z':oQ c e.1=J e.2:=z;rw [z,z'];simp
  haveI z':¬oQ c e.1=J e.2:=z;rw [decide_eq_false z'];exact beq_eq_false_iff_ne.mpr z
 rw [<-this];exact t
set_option tactic.hygienic true in
theorem Ot(R:aZ W φ H s.heap)(q:Bool)(e:oK H a b=J t)(w:A.units+70<iY)(z:aT s.heap φ a x)(B:aT s.heap φ b y)
  (h:Q (.bool (if q then !t else t)) s):aq (bL W.i W.w) A (nI (if q then .NotEq else .Eq) x y) Q E s:=by
 have c:a.p=true->b.p=true->t=aJ (a=b)->aq (bL W.i W.w) A (nI (if q then .NotEq else .Eq) x y) Q E s:=by
  rintro m n rfl;refine oE (xh a (gZ m) z) λas C=>oE (xh b (gZ n) B) λbs D=>?_;have ev:=Cp a b (gZ m)<|gZ n;induction q with
  |false=>exact aH1 C D (zx m) (zx n) (be (.p 0 64) Z [.t (.p 0 70) Z] U w)<|by rw [ev];exact h|true=>exact aH2 C D (zx m) (zx n) (be (.p 0 64) Z [.t (.p 0 70) Z] U w)<|by rw [ev];exact h
 refine aU (aCN e) ?_ ?_
 ·refine λqz=>Ex qz λl r o p X j6 h1 h2 e=>?_;clear qz;clear c;subst X;subst j6;induction o with
  |a I=>induction p with
   |a P=>
    refine on (io e) λd e=>?_
    (replace e:=ao e;subst e)
    refine on (bi.mp d) λm n=>?_;have m:=eI.mp m;have n:=eI.mp n;refine iH (R.t h1 z) λa TE v _ la rl=>?_;clear z;subst v;refine iH (R.t h2 B) λb Dr v _ lb rl'=>?_;clear B;subst v;refine oE (la.c m rl) λas C=>oE (lb.c n rl') λbs D=>?_;haveI ev:q8 (.list<|I.map di) (.list<|P.map di)=aJ (I=P):=by simp only [q8];exact Qi I P m n
    induction q with
    |false=>exact aH1 C D (Cu m) (Cu n) (be (.p 0 64) Z [.t (.p 0 70) Z] U w)<|by rw [ev];exact h|true=>exact aH2 C D (Cu m) (Cu n) (be (.p 0 64) Z [.t (.p 0 70) Z] U w)<|by rw [ev];exact h
   |_=>exact aX e
  |d I=>induction p with
   |d P=>
    refine on (io e) λd e=>?_
    (replace e:=ao e;subst e)
    have d:=bi.mp d;exact aEE R q h1 h2 d.1 d.2 w z B h
   |_=>exact aX e
  |e I=>induction p with
   |e P=>
    refine on (io e) λd e=>?_
    (replace e:=ao e;subst e)
    have d:=bi.mp d;exact aEF R q h1 h2 d.1 d.2 w z B h
   |_=>exact aX e
  |_=>exact aX e
 intro e;haveI d:=(io e).1;haveI e:=(io e).2
 (replace e:=ao e;clear h;clear B z;subst e)
 haveI d:=bi.mp d;exact c d.1 d.2 rfl
end
theorem dX.d:(es:List<|Int×V)->{n:List<|Int×aQ}->dX h t es n->(k:Int)->(d9 es k=aA/\Db n k=aA)\/X2 λv x=>A3 (d9 es k=J v) (Db n k=J x)<|aT h t v x
 |[],_,r,k=>by haveI r:_=[]:=r;rw [r];exact .inl ⟨rfl,rfl⟩|(w,v)::es,_,r,k=>by
  obtain⟨x,q,rfl,z,r⟩:=r;by_cases e:w=k;·subst e;exact .inr ⟨v,x,by simp [d9],by simp [Db],z⟩
  refine aU (dX.d es r k) ?_ ?_;·refine λp=>on p λa b=>.inl ⟨by simpa [d9,gA,e]using a,by simpa [Db,gA,e]using b⟩
  refine λp=>j9 p λA B a b c=>?_;exact .inr ⟨A,B,by simpa [d9,gA,e]using a,by simpa [Db,gA,e]using b,c⟩
theorem eN.f:(es:List<|V×V)->{n:List<|V×cO×aQ}->eN h w es n->(k:V)->(gK es k=aA/\AV n k=aA)\/X3 λv a x=>A3 (gK es k=J v) (AV n k=J (a,x))<|aT h w v x
 |[],_,r,k=>by haveI r:_=[]:=r;rw [r];exact .inl ⟨rfl,rfl⟩|(z,v)::es,_,r,k=>by
  obtain⟨a,x,q,rfl,A,r⟩:=r;by_cases e:z=k;·subst e;exact .inr ⟨v,a,x,by simp [gK],by simp [AV],A⟩
  refine aU (eN.f es r k) ?_ ?_;·refine λt=>on t λp b=>.inl ⟨by simpa [gK,gA,e]using p,by simpa [AV,gA,e]using b⟩
  refine λt=>qA t λB C D p b c=>.inr ⟨B,C,D,by simpa [gK,gA,e]using p,by simpa [AV,gA,e]using b,c⟩
section
theorem Wd.k(W:Wd):qS.all (DH W.K)=true/\HQ.all (Hh W.K)=true/\Co.all (Qx W.K)=true/\zt.all (Qy W.K)=true/\mI.all (Hi W.K)=true/\Hj.all (Qz W.K)=true/\tO.all (Q_ W.K)=true/\tO.all (HK W.K)=true:=by haveI:=W.n;simp only [Hl,iV]at this;refine on this λt h=>?_;obtain⟨⟨⟨⟨⟨⟨a,b⟩,c⟩,d⟩,e⟩,f⟩,g⟩:=t;exact⟨a,b,c,d,e,f,g,h⟩
noncomputable def xi(a:Nat):List (Int×V):=(bW.a a).map λp=>(p.1,V.d p.2)
theorem HS(l:List<|Int×Int)(k:Int):d9 (l.map λp=>(p.1,V.d p.2)) k=(mE l k).map V.d:=by
 induction l with
 |nil=>rfl|cons p l a=>
  simp only [d9,mE,g9,gA]at a⊢;by_cases q:p.1=k;·simp [q]
  simp only [decide_eq_false q];exact a
theorem aEP:∀{es:List iq}{l:List<|Int×Int},DI es l=true->
  ∃d,A3 (Pairs (nJ prog w) es d) (∀e∈es,∃k,(nJ prog w).is k e.key=true/\e.hash=(nJ prog w).hash k) (∀(h:e_)(n:dR),dX h n (l.map λp=>(p.1,V.d p.2)) d):=by
 intro es;induction es with
 |nil=>intro l h;rw [jH h];exact uY ([]) .nil (λ_ h=>by exact bR h) λ_ _=>rfl|cons e es H=>
  intro l h;refine cV (G_ h) λq l x h=>?_;obtain⟨P,Q⟩:=q;rw [x];obtain⟨R,I,ev⟩:=e;have h:=bV h;refine cV (HH h.1) λk t z m=>cV (HH m) λv u A m=>?_;haveI m:=eM m;refine sR (H h.2) λd a b c=>?_;haveI z:I=.int k t:=z;haveI A:ev=.int v u:=A;rw [z,A];have D:(nJ prog w).is k (.int k t)=true:=by simp [nJ,aH6]
  refine uY ((k,.int v u)::d) (.cons D rfl a) ?_ λh n=>⟨_,_,?_,⟨u,rfl⟩,c h n⟩
  ·intro e B;refine aU (dA.mp B) ?_ ?_;·intro C;rw [C];exact bU k D<|beq_iff_eq.mp m.1
   intro B;exact b e B
  rw [beq_iff_eq.mp m.2.1,beq_iff_eq.mp m.2.2]
structure aEQ(K:nH)(p:ac×Nat×List (Int×Int)):Prop where
 b:qX K kC p.1=J (J<|.ref p.2.1)
 a:2<p.2.1
 c:(p.2.2.map (·.1)).Nodup
 d:X2 λes n=>A2 (K.lookup p.2.1=J ⟨.type "dict",aA,.dict es n,#[]⟩)<|DI es.toList p.2.2=true
theorem HT{z:nH}{p:ac×Nat×List (Int×Int)}(h:Hi z p=true):aEQ z p:=by have h:=jz h;refine aG (rN h.2.2.2) λl v a=>?_;obtain⟨c,d,e,sl⟩:=l;refine aG (Og a) λt m a=>?_;subst m;refine cV (aEA a) λes n q a=>?_;subst q;have a:=jz a;haveI w:d=none:=Rr.mp a.2.2.1;haveI x:sl=#[]:=Array.isEmpty_iff.mp a.2.1;rw [w,x,beq_iff_eq.mp a.1]at v;exact⟨of_decide_eq_true h.1,of_decide_eq_true h.2.1,of_decide_eq_true h.2.2.1,es,n,v,a.2.2.2⟩
theorem Q4(W:Wd){k:Nat}{x:ac}{a:Nat}{l:List<|Int×Int}(e:mI[k]?=J (x,a,l)){h:e_}(d:∀b o,W.j.get? b=J o->h.get? b=J o):
  ∃c,A3 (h.DictOf (nJ W.i W.w) a c) (∀m:dR,dX h m (l.map λp=>(p.1,V.d p.2)) c) ((a==rX)=false):=by
 have g:=HT<|eI.mp W.k.2.2.2.2.1 _<|dU e;refine cV g.d λes n q t=>sR (aEP (prog:=W.i) (w:=W.w) t) λc p1 p2 p3=>?_;haveI v:(c.map (·.1)).Nodup:=by rw [dX.f _<|p3 W.j [],iv];exact g.c
 refine uY c ⟨_,es,n,d _ _<|W.X _ _ q,⟨rfl,rfl,rfl⟩,rfl,λe w=>p2 e<|Array.mem_toList_iff.mpr w,p1,v⟩ (p3 h) ?_;haveI A:2<a:=g.a;exact beq_eq_false_iff_ne.mpr λz=>vd 2<|kE (z▸A)<|by decide
theorem aER{k:Nat}{x:ac}{a:Nat}{l:List<|Int×Int}(e:mI[k]?=J (x,a,l)):bW.a a=l:=by
 have:mI.all (λp=>aJ<|bW.a p.2.1=p.2.2)=true:=by decide+kernel
 exact of_decide_eq_true<|eI.mp this _<|dU e
end
theorem aES(h:Qn a=true):X3 λ(i:Nat)(x:ac)(l:List<|Int×Int)=>mI[i]?=J (x,a,l):=by refine aG (Ib.mp h) λp c q=>oE (IN.mp c) λi d=>?_;simp only [beq_iff_eq]at q;exact⟨i,p.1,p.2.2,by rw [d,<-q]⟩
section
variable{W:Wd}{E:aQ->bG->Prop}{s:bG}
theorem aZ.Q(R:aZ W m H s.heap){a:Nat}{x:aQ}(r:aT s.heap m (.A a) x):
  ∃c,A4 (x=.ref a) (s.heap.DictOf (nJ W.i W.w) a c) (dX s.heap m (xi a) c) ((a==rX)=false):=by
 obtain⟨i,x,l,e⟩:=aES r.2;refine sR (Q4 W e R.j) λc d q z=>⟨c,r.1,d,by unfold xi;rw [aER e];exact q m,z⟩
theorem vU(k:Int)(t:jo):(nJ W.i W.w).is k (.int k t)=true:=by simp [nJ,aH6]
theorem Ct(c:v.B=true)(r:aT h p v x):∃a,x=.ref a/\(pW W.i W.w).is h v a:=by
 haveI l:=(bi.mp c).1;have m:=(bi.mp c).2;have d:aT h [] v x:=aEI v (gZ l) r;clear l r;cases v with
 |w=>refine cV (id d) λa n e g=>?_;subst e;exact⟨a,rfl,c,d⟩|r y t=>obtain⟨a,n,z,q,rfl,g⟩:=id d;exact⟨a,rfl,c,d⟩
 |_=>exact ft m
theorem aET(x c:aQ):nI .In x c=(contains c x>>=λb=>gc<|Ie b):=rfl
theorem aEU(x c:aQ):nI .NotIn x c=(contains c x>>=λb=>gc<|Ie<|!b):=rfl
theorem aEV(h:aq M A (nI .In x c) (λv d=>∃b,v=Ie b/\Q (Ie<|!b) d) E s):aq M A (nI .NotIn x c) Q E s:=λl p a=>by
 haveI h:=h l p a;rw [aET,Sem.wp_bind']at h;rw [aEU,Sem.wp_bind'];refine Sem.wp_mono M l _ (λb n d m=>?_) (λ_ _ _ x=>x) _ _ h;rw [Sem.wp_pure']at m⊢;refine aG m λt e q=>?_
 (injection e with e;rw [e]);exact q
theorem aEW(R:aZ W X H s.heap)(D:H[l]?=J o)(e:mG a o=J t)(hu:A.units+80<iY)(B:aT s.heap X a x)(w:aT s.heap X (.j l) y)
  (h:∀tk,Q (.bool t) {s with toks:=tk}):aq (bL W.i W.w) A (nI .In x y) Q E s:=by
 induction o with
 |a C=>
  refine on (io e) λhp e=>?_
  (replace e:=ao e;subst e)
  refine on (bi.mp hp) λI z=>?_;have z:=eI.mp z;refine iH (R.t D w) λc Dr m _ la rl=>?_;clear w;subst m;refine oE (xh a (gZ I) B) λas qa=>oE (la.c z rl) λbs qb=>?_;haveI l1:=(xk C z).1;haveI l2:=(xk C z).2;refine SeqAt.in_list_reads qb qa l1 (zw a<|gZ I) ?_<|by rw [Qj C a z I];exact h _
  have:min (AU<|C.map di) (di a).depth<=8:=dN (aHv _ _) l2;exact(dg (.a aR Z) aB [.t nT aB,.l Z iG] U hu this)
 |d es=>
  refine aG (pL e) λi n e=>?_;subst n
  (replace e:=ao e;subst e)
  refine l_ (R.C D w) λd ds m _ dd rd P=>?_;clear w;subst m;refine oE B λu n=>?_;clear e B;subst n;refine aH7 (vU i u) P dd.mapOf ?_;rcases dX.d es rd i with⟨p,q⟩|⟨v,x,p,q,_⟩<;>(rw [q];haveI:=h (s.toks+1);rw [p]at this;exact this)
 |e es=>
  refine on (io e) λhk e=>?_
  (replace e:=ao e;subst e)
  refine l_ (R.F D w) λd ds m _ dd rd P=>?_;clear w;subst m;refine aG (Ct (W:=W) hk B) λka n kk=>?_;clear B;subst n;refine wpAny_in_heap (knd:=pW W.i W.w) (by refine(?_:A.in1.units+64<iY);simp only [to];exact(be (.a aR<|.n 64) Z [.t nT Z] U hu)) kk P dd ?_;rcases eN.f es rd a with⟨p,q⟩|⟨v,a',x,p,q,_⟩<;>(rw [q];haveI:=h (s.toks+(pW W.i W.w).draws a);rw [p]at this;exact this)
 |_=>exact aX e
theorem aEX(R:aZ W e H s.heap)(m:aT s.heap e (.d i) x)(n:aT s.heap e (.A c) y)
  (h:∀t,Q (.bool (mE (bW.a c) i).isSome) {s with toks:=t}):aq (bL W.i W.w) A (nI .In x y) Q E s:=by
 refine qm (R.Q n) λB a dd rd C=>?_;rw [a];refine oE m λu a=>?_;rw [a];refine aH7 (vU i u) C dd.mapOf ?_;haveI l:=HS (bW.a c) i;refine aU (dX.d _ rd i) ?_ ?_
 ·refine λd=>on d λp q=>?_;rw [q];haveI:=h<|s.toks+1;rw [l]at p;induction z:mE (bW.a c) i with
  |none=>rw [z]at this;exact this|some w=>rw [z]at p;exact iC p
 refine λd=>j9 d λv x p q _=>?_;rw [q];haveI:=h<|s.toks+1;rw [l]at p;induction z:mE (bW.a c) i with
 |none=>rw [z]at p;exact aX p|some w=>rw [z]at this;exact this
theorem aEY{s:List Nat}{x:V}{t:Bool}(e:Nt s x=J t):∃c,x=.k [c]/\t=aJ (c∈s):=by
 induction x with
 |k u=>induction u using bk with|nil=>exact aX e|cons c r=>induction r using bk with|nil=>exact bU c rfl ((ao e).symm)|cons _ _=>exact aX e
 |_=>exact aX e
theorem Q5(R:aZ W q H s.heap){x y:aQ}{t:Bool}{Q:aQ->bG->Prop}(e:Ge bW H a b=J t)(v:A.units+80<iY)(m:aT s.heap q a x)(n:aT s.heap q b y)
  (h:∀w,Q (.bool t) {s with toks:=w}):aq (bL W.i W.w) A (nI .In x y) Q E s:=by
 induction b with
 |j l=>refine aG (lP e) λo z e=>aEW R z e v m n h|A c=>
  refine aG (pL e) λi d e=>?_;subst d
  (replace e:=ao e;subst e)
  exact aEX R m n h
 |k u=>refine aG (aEY e) λc d p=>?_;clear e;subst d;subst p;refine oE m λB d=>?_;clear m;subst d;refine oE n λC d=>?_;rw [d];refine in_str ?_;rw [StrLaws.found_one];exact h _|_=>exact aX e
theorem Q6(R:aZ W B H s.heap)(e:eK bW H q a b=J t)(w:A.units+80<iY)(n:aT s.heap B a x)(p:aT s.heap B b y)
  (h:∀z,Q (.bool t) {s with toks:=z}):aq (bL W.i W.w) A (nI (Qe q) x y) Q E s:=by
 induction q with
 |c=>exact Ot R false e (be (.p 0 70) Z [.t nT Z] U w) n p<|h s.toks|d=>simp only [eK,kF]at e;obtain⟨C,e,rfl⟩:=e;exact Ot R true e (be (.p 0 70) Z [.t nT Z] U w) n p<|h s.toks
 |b=>exact Q5 R e w n p h|a=>simp only [eK,kF]at e;obtain⟨C,e,rfl⟩:=e;exact aEV<|Q5 R e w n p λz=>⟨_,rfl,h z⟩
 |f=>refine sK (C7 e) λi j d l m=>?_;subst d;subst l;subst m;refine oE n λu c=>?_;subst c;refine oE p λv c=>?_;subst c;exact wpAny_lt_int<|h s.toks|g=>refine sK (C7 e) λi j d l m=>?_;subst d;subst l;subst m;refine oE n λu c=>?_;subst c;refine oE p λv c=>?_;subst c;exact aMt<|h s.toks|h=>refine sK (C7 e) λi j d l m=>?_;subst d;subst l;subst m;refine oE n λu c=>?_;subst c;refine oE p λv c=>?_;subst c;exact aMu<|h s.toks|e=>refine sK (C7 e) λi j d l m=>?_;clear e;subst d;subst l;subst m;refine oE n λu c=>?_;clear n;subst c;refine oE p λv c=>?_;clear p;subst c;exact aMv<|h s.toks
end
def dw(W:Wd)(d:dR)(s:bG)(e:Hp)(v:V)(Q:aQ->bG->Prop):Prop:=
 ∀a c z,aZ W a e c.heap->b_ d s.heap a c.heap->aT c.heap a v z->Ok W c->Q z c
section
variable{W:Wd}{E:aQ->bG->Prop}
theorem dw.a(k:dw W e s H v Q)(R:aZ W e H s.heap)(O:Ok W s)(l:jo)(r:aT s.heap e v z):Q z {s with toks:=l}:=
 k e {s with toks:=l} z R (b_.u _ _) r O
theorem aEZ(c:zj a=true)(o i:aQ):SW a false o i=SY [o,i] (SZ o i):=by cases a<;>first|rfl|cases c
theorem zz(h:Dc (bL W.i W.w) A E o i Q s)
  (c:SW a false o i=SY d (SZ o i)):aq (bL W.i W.w) A (vy value a o i) Q E s:=by
 refine sK h λT id e l m=>tail_any l e m c
theorem xj(e:v.z=J l)(r:aT h m v x):X3 λa n c=>A4 (x=.ref a) (h.get? a=J (mJ c n)) (ca h m l c) (IsTup h a c.toArray):=by haveI:=V.F e;clear e;subst this;refine qA (Cy.mp r) λa n c d g q=>?_;subst d;exact⟨a,n,c,rfl,g,q,_,g,rfl,n,rfl⟩
theorem Q7(k:Int)(n:Nat):S1 k n=oI n k:=by
 haveI c:∀j:Int,(if(aJ (0<=j)&&aJ (j<(n:Int)))=true then J j.toNat else aA)=if 0<=j then(if j<n then J j.toNat else aA)else none:=by intro j;by_cases a:0<=j<;>by_cases b:j<n<;>simp [a,b]
 have:S1 k n=(λj:Int=>if(aJ (0<=j)&&aJ (j<(n:Int)))=true then J j.toNat else aA) (if k<0 then k+n else k):=rfl;rw [this];refine(?_:(if(aJ (0<=(if k<0 then k+n else k))&&aJ ((if k<0 then k+n else k)<(n:Int)))=true then J (if k<0 then k+n else k).toNat else aA)=_);rw [c];unfold oI;by_cases h:k<0
 ·haveI d:¬0<=k:=λe=>absurd h<|AM.mpr e;haveI l:k+n<n:=by have:=Int.add_lt_add_right h (n:Int);rw [aHd]at this;exact this
  simp only [if_pos h,if_neg d,if_pos l]
 haveI d:0<=k:=AM.mp h;simp only [if_neg h,if_pos d]
theorem aE0(a:0<=k)(h:k.toNat<n):S1 k n=J k.toNat:=by rw [Q7];unfold oI;rw [if_pos a,if_pos<|(aH8 a).mp h]
theorem aE1(h:oI n k=J j):-(n:Int)<=k/\k<n/\j<n:=by
 unfold oI at h;split at h;·split at h<;>cases h;exact⟨Hr (Int.neg_nonpos_of_nonneg<|j1 n)<|by assumption,by assumption,(aH8<|by assumption).mpr<|by assumption⟩
 split at h<;>cases h;exact⟨by omega,by omega,by omega⟩
set_option tactic.hygienic true in
theorem aE2(R:aZ W c H s.heap)(O:Ok W s)(e:zZ v d=J x)(z:aT s.heap c v o)(B:aT s.heap c (.d d) i)(h:dw W c s H x Q):Dc (bL W.i W.w) A E o i Q s:=by refine on (io e) λl e=>aG (lP e) λX C e=>uU (xj C z) λa n D m g I t=>?_;rw [m];refine oE B λu p=>?_;rw [p];refine aG (I.f e) λy w P=>?_;haveI q:d.toNat<D.length:=(jM.mp w).1;exact⟨_,_,slot_tuple_getitem.lookup,t.typeIs,getItem_tuple t (yz l.1) (ww l.2) (j:=d.toNat) (x:=y) (by rw [j4];exact aE0 l.1 q) (by simpa using w)<|h.a R O s.toks P⟩
theorem aE3(R:aZ W l H s.heap)(O:Ok W s){st:List Nat}{x:V}{m:Int}{o i:aQ}{Q:aQ->bG->Prop}(e:Nm st m=J x)(v:aT s.heap l (.k st) o)(w:aT s.heap l (.d m) i)(h:dw W l s H x Q):Dc (bL W.i W.w) A E o i Q s:=by
 refine on (io e) λa e=>aG (lP e) λj z e=>aG (kF.mp e) λc D n=>?_;clear e;clear e;subst n;refine oE v λt d=>?_;clear v;subst d;refine oE w λu d=>?_;clear w;subst d;refine fk (aE1 z) λB C I=>?_;haveI p:nK ⟨st.toArray⟩=st.length:=by simp [nK]
 haveI q:aH9 ⟨st.toArray⟩ m=⟨[c].toArray⟩:=by delta aH9 Txt.charAt;rw [Q7,p,z];simp [D]
 refine SB.item (fitsSsize_of (N:=1000000) (RK (Int.neg_lt_neg<|fT.mpr a) B) (Ig C<|fT.mpr a)<|AI.mpr<|dy [] eX (.n 9223372036854775808) [] U) (charAt_isSome (by rw [p];exact B)<|by rw [p];exact C) ?_;rw [q];exact h.a R O _ ⟨_,rfl⟩
theorem aE4(R:aZ W w H s.heap)(O:Ok W s)(z:H[l]?=J p)(e:zY p k=J x)(X:A.units+80<iY)(t:aT s.heap w (.j l) o)(v:aT s.heap w k i)(h:dw W w s H x Q):Dc (bL W.i W.w) A E o i Q s:=by
 induction p with
 |a vs=>refine aG (pL e) λB c e=>?_;subst c;haveI D:=(io e).1;haveI e:=(io e).2;refine iH (R.t z t) λa xs m _ I rl=>?_;clear t;subst m;refine oE v λu c=>?_;clear v;subst c;refine aG (rl.f e) λy hy ry=>⟨_,_,aIa.lookup,I.b.typeIs,wpAny_getItem_list I.b D.1 (ww D.2) (x:=y) (by simpa using hy)<|h.a R O s.toks ry⟩|d es=>
  refine aG (pL e) λB c e=>?_;subst c;refine l_ (R.C z t) λd ds m _ dd rd P=>?_;clear P t;subst m;refine oE v λu c=>?_;clear v;subst c;refine aU (dX.d es rd B) ?_ ?_;·refine λn=>on n λp q=>aX<|p.symm.trans e
  refine λn=>j9 n λv' y p q C=>?_;cases p.symm.trans e;exact sS _ _ S4.lookup dd.typeIs<|aIb (vU B u) dd.mapOf q<|h.a R O _ C
 |e es=>
  refine on (io e) λhk e=>l_ (R.F z t) λd ds m _ dd rd P=>?_;rw [m];refine aG (Ct (W:=W) hk v) λka c kk=>?_;rw [c];refine aU (eN.f es rd k) ?_ ?_;·refine λn=>on n λp q=>aX<|p.symm.trans e
  refine λn=>qA n λv' a' y p q C=>?_;cases p.symm.trans e;refine sS _ _ S4.lookup dd.typeIs<|wpAny_getItem_heap (knd:=pW W.i W.w) (by refine(?_:A.in1.units+64<iY);simp only [to];exact(be (.a aR<|.n 64) Z [.t nT Z] U X)) kk dd q<|h.a R O _ C
 |_=>exact aX e
theorem aE5(R:aZ W l H s.heap)(O:Ok W s)(e:(mE (bW.a a) d).map V.d=J x)(w:aT s.heap l (.A a) o)(z:aT s.heap l (.d d) i)(h:dw W l s H x Q):Dc (bL W.i W.w) A E o i Q s:=by
 refine qm (R.Q w) λB c dd rd D=>?_;rw [c];refine oE z λu c=>?_;rw [c];refine aG (kF.mp e) λy t m=>?_;clear e;subst m;haveI v:=HS (bW.a a) d;refine aU (dX.d _ rd d) ?_ ?_;·refine λn=>on n λp q=>?_;unfold xi at p;rw [v,t]at p;exact iC p
 refine λn=>j9 n λI P p q C=>?_;unfold xi at p;rw [v,t]at p;(replace p:=ao p;subst p);exact sS _ _ S4.lookup dd.typeIs<|aIb (vU d u) dd.mapOf q<|h.a R O _ C
theorem aE6(R:aZ W q H s.heap)(O:Ok W s)(e:oJ bW H v k=J x)(w:zj d=true)(z:A.units+80<iY)
  (m:aT s.heap q v o) (n:aT s.heap q k i) (h:dw W q s H x Q):aq (bL W.i W.w) A (vy value d o i) Q E s:=by
 refine zz ?_<|aEZ w o i;induction v with
 |j l=>refine aG (lP e) λp B e=>aE4 R O B e z m n h|A a=>refine aG (pL e) λt c e=>?_;subst c;exact aE5 R O e m n h|k st=>refine aG (pL e) λt c e=>?_;subst c;exact aE3 R O e m n h|_=>refine aG (pL e) λt c e=>?_;subst c;exact aE2 R O e m n h
end
section
variable{W:Wd}{E:aQ->bG->Prop}{s:bG}
theorem aE7{h:e_}{a:cO}{c:List aQ}{n:Nat}(g:h.get? a=J (vX c n))(f:Array aQ->Array aQ):vW (h.update a<|yF f) a (f c.toArray).toList:=
 ⟨_,by simpa [vX]using get?_update_seq (c:="list") (xs:=c.toArray) (n:=n) g f⟩
theorem aZ.ad(R:aZ W c H s.heap)(e:H[l]?=J (.a v))(d:c[l]?=J (a,a))(g:s.heap.get? a=J (vX m n))
  (r:ca s.heap c yM (f m.toArray).toList):aZ W c (H.set l<|.a yM) (s.heap.update a<|yF f)/\b_ c s.heap c (s.heap.update a<|yF f):=
 R.S e d (λ_ h=>nomatch h) (.inl rfl) (λb ob p q=>(aIc s.heap _<|iX p).trans q) λT=>⟨rfl,_,aE7 g f,r.d T<|f8 _⟩
theorem aE8{k:Int}{t:jo}{v:aQ}{Q:Unit->bG->Prop}(g:s.heap.get? l=J (vX c n))(m:0<=k)(a:k<2^63)(p:k<c.length)
  (h:Q () {s with heap:=s.heap.update l<|yF (·.setIfInBounds k.toNat v)}):aq (bL W.i W.w) A (S6 (.ref l) (.int k t) v) Q E s:=by
 haveI d:s.heap.IsList l c.toArray:=⟨_,g,rfl,n,rfl⟩
 unfold S6
 try with_reducible refine pd ?_
 first|refine bC (bm ?_)|skip
 refine bC<|wpAny_sequenceKey d.typeIs (by decide) ?_
 refine bC (wpAny_callSpecial?_slot (name:=aM "__setitem__") d.typeIs aId
  (IX aId d.typeIs entry_list_setitem ?_ (args_list_setitem _ _ _)))
 refine(?_:aq _ _ (Builtin.List.listSubscript? (.int k t)>>=_) _ _ s)
 refine bC<|wpAny_listSubscript_int (fitsIndex_of m a) ?_
 clear a
 obtain⟨j,rfl⟩:=Sa m
 haveI q:j<c.toArray.size:=by rw [j4];exact(be Y Z [.t Y Z] U<|fT.mp p)
 haveI e:c.toArray[j]?=J c.toArray[j]:=SN q
 refine bC<|bC<|wpAny_seqItemAt g rfl (bm ?_)
 rw [e]
 refine bC<|wpAny_setSeqItemAt g rfl ?_
 first
  |exact bC (bm (bm ⟨.none,rfl,bm h⟩))
  |exact wpAny_pure ⟨.none,rfl,wpAny_pure h⟩
theorem dX.m(B:aT h c v x)(r:dX h c es a):dX h c (fR es k v) (stored a k x):=by
 haveI w:∀{es:List<|Int×V}{a:List<|Int×aQ},dX h c es a->a.any (λp=>aJ<|p.1=k)=(d9 es k).isSome:=by
  intro es;induction es with
  |nil=>intro a r;haveI r:_=[]:=r;subst r;rfl|cons e es n=>
   obtain⟨t,C⟩:=e;intro a r;obtain⟨y,q,rfl,_,r⟩:=r;haveI:=n r;by_cases z:t=k;·simp [d9,z]
   simp only [Ih,decide_eq_false z,Bool.false_or,this];simp [d9,gA,z]
 haveI mp:∀{es:List<|Int×V}{a:List<|Int×aQ},dX h c es a->dX h c (es.map λe=>if e.1=k then(e.1,v)else e) (a.map λp=>if p.1=k then(p.1,x)else p):=by
  intro es;induction es with
  |nil=>intro a r;haveI r:_=[]:=r;subst r;rfl|cons e es n=>
   obtain⟨t,C⟩:=e;intro a r;obtain⟨y,q,rfl,A,r⟩:=r;by_cases z:t=k;·simp only [g9,z,if_true];exact k_ _ _ rfl B (n r)
   simp only [g9,z,if_false];exact k_ _ _ rfl A (n r)
 haveI D:∀{es:List<|Int×V}{a:List<|Int×aQ},dX h c es a->dX h c (es++[(k,v)]) (a++[(k,x)]):=by
  intro es;induction es with
  |nil=>intro a r;haveI r:_=[]:=r;subst r;exact k_ _ _ rfl B rfl|cons e es n=>obtain⟨t,C⟩:=e;intro a r;obtain⟨y,q,rfl,A,r⟩:=r;exact k_ _ _ rfl A (n r)
 delta fR stored;rw [w r];by_cases z:(d9 es k).isSome=true;·rw [if_pos z,if_pos z];exact mp r
 rw [if_neg z,if_neg z];exact D r
theorem eN.m(w:aT h n v x)(r:eN h n es c):eN h n (ik es k v) (storedH c k a x):=by
 haveI A:(AV c k).isSome=(gK es k).isSome:=by rcases eN.f es r k with⟨p,q⟩|⟨_,_,_,p,q,_⟩<;>simp [p,q]
 haveI mp:∀{es:List<|V×V}{c:List<|V×cO×aQ},eN h n es c->eN h n (es.map λe=>if e.1=k then(e.1,v)else e) (c.map<|putAt k x):=by
  intro es;induction es with
  |nil=>intro c r;haveI r:_=[]:=r;subst r;rfl|cons e es t=>
   obtain⟨C,D⟩:=e;intro c r;obtain⟨b,y,q,rfl,B,r⟩:=r;by_cases z:C=k;·simp only [g9,putAt,z,if_true];exact yp _ _ _ rfl w (t r)
   simp only [g9,putAt,z,if_false];exact yp _ _ _ rfl B (t r)
 haveI H:∀{es:List<|V×V}{c:List<|V×cO×aQ},eN h n es c->eN h n (es++[(k,v)]) (c++[(k,a,x)]):=by
  intro es;induction es with
  |nil=>intro c r;haveI r:_=[]:=r;subst r;exact yp _ _ _ rfl w rfl|cons e es t=>obtain⟨C,D⟩:=e;intro c r;clear mp w;obtain⟨b,y,q,rfl,B,r⟩:=r;exact yp _ _ _ rfl B (t r)
 delta ik storedH;rw [A];by_cases z:(gK es k).isSome=true;·rw [if_pos z,if_pos z];exact mp r
 rw [if_neg z,if_neg z];exact H r
theorem dX.l(r:dX h c es a):a.length=es.length:=by haveI:=congrArg gB<|dX.f es r;simpa using this
theorem eN.l(r:eN h c es a):a.length=es.length:=by haveI:=congrArg gB<|eN.d es r;simpa using this
def Q8(W:Wd)(d:dR)(s:bG)(e:Hp)(Q:Unit->bG->Prop):Prop:=
 ∀a c,aZ W a e c.heap->b_ d s.heap a c.heap->Ok W c->Q () c
theorem aE9(R:aZ W w H s.heap)(O:Ok W s){d k v:V}{H':Hp}{o i x:aQ}{Q:Unit->bG->Prop}(e:GZ H d k v=J H')(hu:A.units+80<iY)
  (rd:aT s.heap w d o) (P:aT s.heap w k i) (X:aT s.heap w v x) (h:Q8 W w s H' Q):aq (bL W.i W.w) A (S6 o i x) Q E s:=by
 induction d with
 |j l=>
  refine aG (lP e) λo' B e=>aG (kF.mp e) λp z q=>?_;clear e;subst q;clear e;induction o' with
  |a vs=>
   refine aG (pL z) λC c t=>?_;clear z;subst c;refine on (io t) λm t=>?_
   (replace t:=ao t;subst t)
   refine iH (R.t B rd) λa xs q D iM rl=>?_;clear rd;subst q;obtain⟨n,g⟩:=iM;refine oE P λu c=>?_;subst c;have I:=rl.c;refine aE8 g m.1 (ww m.2.1) (I▸m.2.2) ?_;have:=R.ad (yM:=vs.set C.toNat v) (f:=(·.setIfInBounds C.toNat x)) B D g<|by simpa using rl.j C.toNat X
   exact h w _ this.1 this.2 O
  |d es=>
   refine aG (pL z) λC c t=>?_;clear z;subst c;refine on (io t) λm t=>?_
   (replace t:=ao t;subst t)
   refine l_ (R.C B rd) λa ds q D dd rr sm=>?_;clear sm rd;subst q;refine oE P λu c=>?_;subst c;refine wpAny_setItem_pairs (vU C u) dd (λh' d' sb=>?_)<|by rw [rr.l,kI];exact(uS m)
   haveI:=R.S (o':=.d<|fR es C v) B D (λ_ h=>nomatch h) (.inl rfl) (λb ob m gb=>(sb.2 b m).trans gb) λT=>⟨rfl,_,d',(rr.m X).j T<|f8 _⟩
   exact h w _ this.1 this.2 O
  |e es=>
   refine on (io z) λm t=>?_
   (replace t:=ao t;clear z;subst t)
   haveI hk:=(bi.mp m).1;haveI m:=(bi.mp m).2;have m:=of_decide_eq_true m;refine l_ (R.F B rd) λa ds q D dd rr sm=>?_;clear rd;clear sm;subst q;refine aG (Ct (W:=W) hk P) λka c kk=>?_;clear P;subst c;refine wpAny_setItem_heap (knd:=pW W.i W.w) (by refine(?_:A.in1.units+64<iY);rw [to];exact(be (.a aR<|.n 64) Z [.t nT Z] U hu)) kk dd (λh' d' sb=>?_)<|by rw [rr.l,kI];exact(uS m)
   haveI:=R.S (o':=.e<|ik es k v) B D (λ_ h=>nomatch h) (.inl rfl) (λb ob m gb=>(sb.2 b m).trans gb) λT=>⟨rfl,_,d',(rr.m X).j T<|f8 _⟩
   exact h w _ this.1 this.2 O
  |_=>exact aX z
 |_=>exact aX e
end
section
variable{W:Wd}{E:aQ->bG->Prop}{s:bG}
theorem aZ.X(R:aZ W A H s.heap)(e:m_ H v=J vs)(r:aT s.heap A v x):
  vs.length<1000000/\X2 λa n=>A3 (x=.ref a) (s.heap.IsList a n.toArray) (ca s.heap A vs n):=by
 induction v with
 |j l=>
  refine aG (lP e) λo hl e=>aG (lP e) λws d e=>?_;haveI hb:=(io e).1;haveI e:=(io e).2
  (replace e:=ao e;rw [<-e])
  clear e;induction o with
  |a ws=>
   (replace d:=ao d;clear e;clear e;subst d)
   refine iH (R.t hl r) λa n m _ q z=>?_;clear r;subst m;exact⟨hb,a,n,rfl,q.b,z⟩
  |f ws=>
   (replace d:=ao d;clear e;clear e;subst d)
   refine aG (R.D hl) λp ep ro=>aG r λp' c m=>?_;clear r;subst m;rw [ep]at c;(replace c:=ao c;clear ep;subst c);refine ja ro λe2 n q z=>⟨hb,_,n,rfl,q,z⟩
  |_=>exact aX d
 |_=>exact aX e
theorem aZ.ac(R:aZ W c H s.heap)(k:∀b o,s.heap.get? b=J o->h'.get? b=J o) (d:s.heap.get? a=aA) (e:2<a) (g:h'.get? a=J (vX xs n)) (l:ca s.heap c vs xs):
  aZ W (c++[(a,a)]) (H++[.a vs]) h'/\b_ c s.heap (c++[(a,a)]) h':=
 R.aa k d d e ⟨rfl,xs,⟨n,g⟩,l.d (λ_ _ _ g=>k _ _ g)<|IU _ _⟩
theorem aZ.G(R:aZ W c H s.heap)(h:e_)(a b:Nat):aT h (c++[(a,b)]) (.j H.length) (.ref a):=⟨(a,b),by rw [<-R.w];simp,rfl⟩
theorem aZ.K(R:aZ W m H s.heap):2<s.heap.objs.size:=by
 haveI e:mI[0]?=J (mI[0]'(by decide)):=f7<|by decide
 generalize(mI[0]'(by decide))=p at e;obtain⟨x,a,l⟩:=p;haveI c:=(HT<|eI.mp W.k.2.2.2.2.1 _<|dU e).a;obtain⟨d,⟨o,es,n,g,_⟩,_⟩:=Q4 W e (h:=s.heap) R.j;exact lW c<|aHH g
theorem qT(h:e_):h.get? h.objs.size=none:=DX<|aK _
theorem dw.f(k:dw W e s (H++[.a m]) (.j H.length) Q)(R:aZ W e H s.heap)(O:Ok W s)(p:jo)
  (q:∀b o,s.heap.get? b=J o->l.get? b=J o) (g:l.get? s.heap.objs.size=J (vX t n)) (v:ca s.heap e m t):Q (.ref s.heap.objs.size) {s with heap:=l,toks:=p}:=by
 haveI:=R.ac q (qT _) R.K g v;exact k _ _ _ this.1 this.2 (R.G _ _ _) O
theorem dw.d(k:dw W e s (H++[.a m]) (.j H.length) Q)(R:aZ W e H s.heap)(O:Ok W s)(l:jo)(p:ca s.heap e m q):
  Q (.ref s.heap.objs.size) {s with heap:=s.heap.push {cls:=.type "list",data:=.seq q.toArray},toks:=l}:=
 k.f R O l (λ_ _ g=>iA _ g) (n:=0) (oY _ rfl) p
theorem dw.h(k:dw W C s D v Q)(A:∀b o,s.heap.get? b=J o->n.get? b=J o) (H:jo):dw W C {s with heap:=n,toks:=H} D v Q:=by
 haveI t:∀x,n.get? x=aA->s.heap.get? x=none:=λx e=>by
  induction q:s.heap.get? x with
  |none=>rfl|some o=>rw [A _ _ q]at e;exact iC e
 exact λw I z P S r O=>k w I z P ⟨S.i,λl p B e=>⟨t _ (S.k l p B e).1,t _ (S.k l p B e).2⟩,λb o g m=>S.j _ _ (A _ _ g) m⟩ r O
theorem Q9(g:s.heap.get? d=J o)(c:o.cls=.type "dict")(e:o.data=.dict es q)(l:(d==rX)=false)(m:es.size<1000000)
  (h:Q (.int es.size<|s.toks+1) {s with toks:=s.toks+1+1}):aq (bL W.i W.w) A (pZ (.builtin "len") [.ref d]) Q E s:=by
 have a:s.TypeIs (.ref d) "dict":=⟨o,g,c⟩
 refine call_len_slot a aIe (n:=(es.size:Int)) (λt p=>?_) (AM.mpr<|j1 _) (aIf.mpr<|fT.mpr<|lW m<|by decide) h;refine IX aIe a F.entry_dict_len ?_<|F.args_dict_len_1 _;refine(?_:aq _ _ (dictSize d>>=_) _ _ s);unfold dictSize;refine bC<|bC<|D6 g e<|bm ?_;refine bC<|wpAny_pendingCount_other l ?_;refine wpAny_ret_mkInt<|p
set_option tactic.hygienic true in
theorem aFa(R:aZ W φ H s.heap)(O:Ok W s)(e:xW H v=J n)(C:n<1000000)(r:aT s.heap φ v x)(k:dw W φ s H (.d n) Q):
  aq (bL W.i W.w) A (pZ (.builtin "len") [x]) Q E s:=by
 haveI p:v.z.map (·.length)=J n->aq (bL W.i W.w) A (pZ (.builtin "len") [x]) Q E s:=by intro e';refine aG (kF.mp e') λvs hv w=>?_;clear e';clear e;subst w;refine uU (xj hv r) λa m ys D g I it=>?_;clear g r;subst D;have q:=I.c;exact aMw it (by rw [j4,<-q];exact fT.mpr<|lW C<|by decide)<|k.a R O _ ⟨_,by rw [j4,q]⟩
 induction v with
 |j l=>
  refine aG (lP e) λo q e=>?_;induction o with
  |a vs=>
   (replace e:=ao e;clear p;subst e)
   refine iH (R.t q r) λa xs w _ la I=>?_;subst w;have q:=I.c;exact Calls.call_len_list la.b (by rw [j4,<-q];exact fT.mpr<|lW C<|by decide)<|k.a R O _ ⟨_,by rw [j4,q]⟩
  |d es=>
   (replace e:=ao e;clear p;subst e)
   refine l_ (R.C q r) λd ds w _ dd rd X=>?_;clear r;subst w;have q:=rd.l;refine uV dd λo B ep g c ed hk hp nd=>?_;have z:B.size=es.length:=by haveI:=hp.length;rw [<-q,<-this];simp
   exact Q9 g c.1 ed X (yh z C)<|k.a R O _ ⟨_,by rw [z]⟩
  |e es=>
   (replace e:=ao e;clear p;subst e)
   refine l_ (R.F q r) λd ds w _ dd rd X=>?_;clear r;subst w;have q:=rd.l;refine uV dd λo B ep g c d' ed hp nd=>?_;have z:B.size=es.length:=by rw [size_of_entries ed,q]
   exact Q9 g c.1 d' X (yh z C)<|k.a R O _ ⟨_,by rw [z]⟩
  |_=>exact aX e
 |k st=>
  (replace e:=ao e;clear p;subst e)
  refine oE r λt bT=>?_;clear r;subst bT;haveI q:nK ⟨st.toArray⟩=st.length:=by simp [nK]
  exact P.len_str (by rw [q];exact aIf.mpr<|fT.mpr<|lW C<|by decide)<|k.a R O _ ⟨_,by rw [q]⟩
 |w=>exact p e|r x t=>exact p e|_=>exact aX e
theorem aFb(R:aZ W d H s.heap)(O:Ok W s)(e:m_ H v=J p\/v.z=J p)(r:aT s.heap d v x)(k:dw W d s H (V.m p) Q):
  aq (bL W.i W.w) A (pZ (.type "tuple") [x]) Q E s:=by
 refine aU e ?_ ?_
 ·intro e;refine Bj (R.X e r) λw a t c z l=>?_;clear r;rw [c];haveI B:=l.c;refine call_tuple_list z (λC D=>?_)<|by rw [j4,kI];exact(cY<|yj B w)
  haveI n:∀b o,s.heap.get? b=J o->(C.push {cls:=.type "tuple",data:=.seq t.toArray}).get? b=J o:=λb o g=>iA _<|D _ _ g;haveI M:=R.u n;refine k d _ _ M.1 M.2 (Cy.mpr ⟨_,0,t,rfl,oY _ rfl,M.2.s R l⟩) O
 intro e;refine uU (xj e r) λa m P c g l I=>?_;clear g;subst c;haveI q:=V.F e;exact call_tuple_tup I<|k.a R O s.toks<|q▸r
theorem aFc(R:aZ W C H s.heap)(O:Ok W s)(e:m_ H v=J q\/(v.z=J q/\q.length<1000000))(r:aT s.heap C v x)(k:dw W C s (H++[.a q]) (.j H.length) Q):
  aq (bL W.i W.w) A (pZ (.type "list") [x]) Q E s:=by
 refine aU e ?_ ?_
 ·intro e;refine Bj (R.X e r) λt a xs l D p=>?_;rw [l];haveI w:=p.c;obtain⟨o,g,c,n,d⟩:=D;refine aIg a (.inl rfl) g c d (λI P z B=>?_)<|by rw [j4,kI];exact(cY<|yj w t)
  exact k.f R O s.toks z B p
 refine λX=>on X λe t=>uU (xj e r) λa m ys l g p it=>?_;rw [l];have w:=p.c;refine aIg a (.inr rfl) g rfl rfl (λI P z B=>?_) (by rw [j4,kI];exact(cY<|yj w t));exact k.f R O s.toks z B p
theorem aFd:∀n:Nat,n<10->aM (toString (n:Int))=⟨[48+n].toArray⟩:=by
 intro n a;have:∀n:Fin 10,aM (toString ((n.val:Nat):Int))=⟨[48+n.val].toArray⟩:=by decide
 exact this ⟨n,a⟩
theorem aFe(R:aZ W c H s.heap)(O:Ok W s)(d:0<=i)(e:i<10)(r:aT s.heap c (.d i) x)(k:dw W c s H (.k [48+i.toNat]) Q):
  aq (bL W.i W.w) A (pZ (.type "str") [x]) Q E s:=by
 obtain⟨t,rfl⟩:=r;refine oE (Sa d) λn a=>?_;clear d;subst a;refine P.str_of_int ((by decide:∀n:Fin 10,((n.val:Nat):Int).natAbs.log2<1920) ⟨n,(bA Y iF [.t Y iF] U<|fT.mp e)⟩) ?_;rw [show((toString (n:Int):String):ac)=⟨[48+n].toArray⟩from aFd n<|bA Y iF [.t Y iF] U<|fT.mp e];exact k.a R O _ ⟨_,rfl⟩
theorem aFf(R:aZ W p H s.heap)(O:Ok W s)(w:H[l]?=J (.a q))(z:H[r]?=J (.a t))(B:q.length+t.length<1000000)
  (C:aT s.heap p (.j l) x) (D:aT s.heap p (.j r) y) (k:dw W p s (H++[.a<|q++t]) (.j H.length) Q):aq (bL W.i W.w) A (Df .Add x y) Q E s:=by
 refine iH (R.t w C) λa I c _ d v=>?_;rw [c];obtain⟨n,g⟩:=d;refine iH (R.t z D) λb X c _ d e=>?_;rw [c];obtain⟨m,g'⟩:=d;haveI h1:=v.c;haveI h2:=e.c;refine P.add_list (items:=I.toArray) (items2:=X.toArray) g g' ?_<|by simp only [j4,kI];exact(de (.a Y Z) (.n 16777216) [.t (.a aB aI) eX,.g aB Y,.g aI Z] U B h1 h2)
 haveI:=k.d R O s.toks<|v.g e;simpa using this
theorem Qb(R:aZ W d H s.heap)(O:Ok W s)(e:H[l]?=J (.a m))(x:m.length<1000000)(z:aT s.heap d (.j l)<|.ref a)(A:aT s.heap d v y)
  (k:dw W d s (H.set l<|.a<|m++[v]) .o Q):∃items n,items.size<=sizeLine/\IsL s.heap a items n/\Q .none {s with heap:=s.heap.update a<|yF λc=>c.push y}:=by
 refine iH (R.t e z) λD c p B q w=>?_;obtain⟨n,g⟩:=q
 (injection p with p;rw [p])
 haveI C:=w.c;refine⟨c.toArray,n,by rw [j4,kI];exact(cY<|yj C x),g,?_⟩;haveI t:ca s.heap d (m++[v]) (c++[y]):=w.g (show ca s.heap d [v] [y]from⟨y,[],rfl,A,rfl⟩);haveI:=R.ad (yM:=m++[v]) (f:=λc=>c.push y) e B g<|by simpa using t
 exact k _ {s with heap:=s.heap.update _<|yF λc=>c.push y} _ this.1 this.2 rfl O
theorem aFg(R:aZ W w H s.heap)(O:Ok W s)(e:H[l]?=J (.a<|p++[v]))(I:p.length<1000000)(z:aT s.heap w (.j l) x)
  (k:dw W w s (H.set l<|.a p) v Q):aq (bL W.i W.w) A (Sc pos (.builtin "list.pop") [x] [] []) Q E s:=by
 refine iH (R.t e z) λa m c X q B=>?_;clear z;subst c;obtain⟨n,g⟩:=q;refine j9 B.k λd zs c C D=>?_;clear B;subst c;refine j9 D λy zs' c ry t=>?_;clear D;subst c;haveI t:_=[]:=t;subst t;haveI hl:=C.c;refine P.pop_list (items:=(d++[y]).toArray) g (y:=y) (by simp) ?_<|by simp only [j4,b9,List.length_singleton,kI];exact(ae<|yk hl I)
 haveI hf:((d++[y]).toArray.eraseIdxIfInBounds<|(d++[y]).toArray.size-1).toList=d:=by simp [List.eraseIdx_append]
 haveI:=R.ad (yM:=p) (f:=λm=>m.eraseIdxIfInBounds<|(d++[y]).toArray.size-1) e X g<|by rw [hf];exact C
 exact k _ {s with heap:=s.heap.update a<|yF λm=>m.eraseIdxIfInBounds<|(d++[y]).toArray.size-1} _ this.1 this.2 (this.2.d R ry) O
theorem HU(e:tG H v=J d):(X2 λl es=>A3 (v=.j l) (H[l]?=J (.d es))<|d=.i)\/(X2 λl es=>A3 (v=.j l) (H[l]?=J (.e es))<|d=.t)\/∃a,v=.A a/\d=.i:=by
 induction v with
 |j l=>
  refine aG (lP e) λo c e=>?_;induction o with
  |d es=>exact .inl ⟨l,es,rfl,c,(ao e).symm⟩|e es=>exact .inr<|.inl ⟨l,es,rfl,c,(ao e).symm⟩|_=>exact aX e
 |A a=>exact .inr<|.inr ⟨a,rfl,(ao e).symm⟩|_=>exact aX e
theorem aFh(c:H[l]?=J (.d es))(e:rG T H (.j l) k d=J r):∃i,k=.d i/\r=(d9 es i).getD d:=by refine aG (pL<|(f0 c).symm.trans e) λi a q=>?_;rw [a];exact bU i rfl ((ao q).symm)
theorem aFi(a:H[l]?=J (.e es))(e:rG T H (.j l) k d=J r):k.B=true/\r=(gK es k).getD d:=by haveI h:=(io<|(f0 a).symm.trans e).1;haveI q:=(io<|(f0 a).symm.trans e).2;exact⟨h,(ao q).symm⟩
theorem aFj(e:rG T H (.A a) k d=J r):∃i,k=.d i/\r=((mE (T.a a) i).map V.d).getD d:=by refine aG (pL e) λi c q=>?_;rw [c];exact bU i rfl ((ao q).symm)
theorem aFk(R:aZ W φ H s.heap)(e:tG H v=J dk)(hu:A.units+80<iY)(rv:aT s.heap φ v o)
  (h:aq (bL W.i W.w) A x (λsA eE=>aq (bL W.i W.w) A y (λKe B=>X5 λn I k d r=>A8 (aZ W n I B.heap) (Ok W B) (aT B.heap n v o) (aT B.heap n k sA) (aT B.heap n d Ke) (tG I v=J dk) (rG bW I v k d=J r)<|dw W n B I r Q) E eE) E s):
  MethodOnS W.i W.w A E "get" o pos [(false,x),(false,y)] Q s:=by
 have fC:∀{a:cO},o=.ref a->s.TypeIs o "dict"->(∃ob,s.heap.get? a=J ob/\ob.dict=aA)->(a==rX)=false->MethodOnS W.i W.w A E "get" o pos [(false,x),(false,y)] Q s:=by
  intro a e2 hT hd sm;clear rv;subst e2;refine⟨"dict","dict.get",F.plainAttrs_dict,F.slot_dict_get,F.type_dict_get,hT,(λb eb=>by(injection eb with eb;clear hT;subst eb);exact hd),?_⟩;induction dk with
  |i=>
   refine wpAny_dict_get2 (knd:=nJ W.i W.w) sm<|iw h (λsA eE P=>iw P (λKe B pt=>?_) λ_ _ e=>e) λ_ _ e=>e;obtain⟨n,I,k,d,r,m,C,w,rk,rd,Kg,D,kk⟩:=pt;clear h e;rcases HU Kg with⟨l,es,rfl,hl,_⟩|⟨l,es,rfl,hl,z⟩|⟨c,rfl,_⟩
   ·obtain⟨d',ds,X,_,dd,rr,sm⟩:=m.C hl w
    (injection X with X;clear hT hd h1;subst X)
    obtain⟨i,rfl,rfl⟩:=aFh hl D;clear D w P;obtain⟨u,rfl⟩:=rk;refine sS i _ (vU i u) dd.mapOf ?_;rcases dX.d es rr i with⟨p,q⟩|⟨v',y',p,q,r'⟩;·rw [q];rw [p]at kk;exact kk.a m C _ rd
    rw [q];rw [p]at kk;exact kk.a m C _ r'
   ·exact Mine.DK.noConfusion z
   obtain⟨wd,X,dd,rr,sm⟩:=m.Q w;obtain rfl:=Value.ref.inj X;refine aG (aFj D) λi bT bM=>?_;subst bT;subst bM;clear D w P;obtain⟨u,rfl⟩:=rk;refine sS i _ (vU i u) dd.mapOf ?_;haveI gm:=HS (bW.a a) i;refine aU (dX.d _ rr i) ?_ ?_;·refine λqz=>on qz λp q=>?_;unfold xi at p;rw [gm]at p;rw [q];rw [p]at kk;exact kk.a m C _ rd
   refine λqz=>j9 qz λv' y' p q r'=>?_;unfold xi at p;rw [gm]at p;rw [q];rw [p]at kk;exact kk.a m C _ r'
  |t=>
   refine wpAny_dict_get2_heap (knd:=pW W.i W.w) (by refine(?_:A.in1.units+64<iY);rw [to];exact(be (.a aR<|.n 64) Z [.t nT Z] U hu)) sm<|iw h (λsA eE P=>iw P (λKe B pt=>?_) λ_ _ e=>e) λ_ _ e=>e;obtain⟨n,I,k,d,r,m,C,w,rk,rd,Kg,D,kk⟩:=pt;clear e;refine aU (HU Kg) ?_ λqz=>aU qz ?_ ?_;·refine λqz=>j9 qz λl es bM hl z=>?_;subst bM;exact Mine.DK.noConfusion z
   ·refine λqz=>j9 qz λl es bM hl _=>?_;subst bM;obtain⟨d',ds,X,_,dd,rr,sm⟩:=m.F hl w
    (injection X with X;clear w P h hT hd h1;clear sm;subst X)
    obtain⟨hk,rfl⟩:=aFi hl D;clear D R;obtain⟨ka,rfl,kk'⟩:=Ct (W:=W) hk rk;refine⟨ka,k,ds,rfl,kk',dd,?_⟩;rcases eN.f es rr k with⟨p,q⟩|⟨v',a',y',p,q,r'⟩;·rw [q];rw [p]at kk;exact kk.a m C _ rd
    rw [q];rw [p]at kk;exact kk.a m C _ r'
   refine λqz=>aG qz λc bT z=>?_;subst bT;exact Mine.DK.noConfusion z
 clear h;rcases HU e with⟨l,es,rfl,hl,_⟩|⟨l,es,rfl,hl,_⟩|⟨c,rfl,_⟩
 ·refine l_ (R.C hl rv) λd' ds X _ dd rr sm=>fC X (X▸dd.typeIs) (dd.mapOf.noDict _ rfl) sm
 ·refine l_ (R.F hl rv) λd' ds X _ dd rr sm=>
    fC X (X▸dd.typeIs) ?_ sm
  refine wu dd λo wC ep g c _=>bU o g c.2.1
 refine qm (R.Q rv) λwd X dd rr sm=>fC X (X▸dd.typeIs) (dd.mapOf.noDict _ rfl) sm
end
noncomputable def qU(l u st:aQ):Obj:={cls:=.type "slice",data:=.fields #[l,u,st]}
theorem aFl(h:a≠[]):Dh ⟨a.toArray⟩ (J 1) aA=⟨a.tail.toArray⟩:=by
 induction a using bk with
 |nil=>exact absurd rfl h|cons c a=>refine(?_:StrLaws.sliceText _ _ _=_);rw [StrLaws.sliceText_from ⟨(j1 _),by simp;omega⟩];simp
theorem aFm(h:a≠[]):Dh ⟨a.toArray⟩ aA (J<|-1)=⟨a.dropLast.toArray⟩:=by
 have l:nK ⟨a.toArray⟩=a.length:=by simp [nK]
 have d:1<=a.length:=by induction a using bk with|nil=>exact absurd rfl h|cons=>simp
 haveI e:Dh ⟨a.toArray⟩ aA (J<|-1)=Dh ⟨a.toArray⟩ aA (J<|(a.length:Int)-1):=by
  have:Ii aA (J<|-1) 1 (nK ⟨a.toArray⟩)=Ii aA (J<|(a.length:Int)-1) 1 (nK ⟨a.toArray⟩):=by
   unfold Ii;haveI c:¬((a.length:Int)-1<0):=by rw [yx d];exact AM.mpr<|j1 _
   simp only [l,show(-1:Int)<0 by decide,if_true,if_neg c];have:(-1:Int)+a.length=a.length-1:=Int.add_comm _ _;rw [this]
  unfold Dh;rw [this]
 rw [e];refine(?_:StrLaws.sliceText _ _ _=_);rw [StrLaws.sliceText_to ⟨by omega,by simp;omega⟩];have:((a.length:Int)-1-0).toNat=a.length-1:=by rw [yx d];rfl
 simp [List.dropLast_eq_take]
theorem aFn(a:List Nat)(u:jo):aIh ⟨a.toArray⟩ aA aA (-1,u)=⟨a.reverse.toArray⟩:=by
 haveI h:=step_rev_list ⟨a.toArray⟩ u;generalize aIh ⟨a.toArray⟩ aA aA (-1,u)=y at h;obtain⟨⟨l⟩⟩:=y;haveI d:nK ⟨a.toArray⟩=a.length:=by simp [nK]
 have:l=a.reverse:=by
  rw [d]at h;refine(show l=_ from h).trans<|ID λi=>?_;by_cases c:i<a.length
  ·rw [aIi c];simp only [jJ,aHq c,AP];haveI e:a.length-1-i<a.length:=(dg Y Z [.e bN Z,.l Y aB] U (bY<|aV au Y [.t Z Y] U c)<|j3 _ _)
   simp [Array.getD,e]
  rw [ey<|by simp;exact(aV Y Z [.l Y Z] U<|RI c),ey<|by simp;exact(aV Y Z [.l Y Z] U<|RI c)]
 rw [this]
theorem aFo(a:List aQ):Sf a.toArray aA aA (J<|-1)=a.reverse.toArray:=by
 haveI e:aIj aA aA (J<|-1) a.toArray.size=((a.length:Int)-1,-1,-1):=by simp [aIj]
 unfold Sf;rw [e];haveI l:sliceRange ((a.length:Int)-1) (-1) (-1)=(cF a.length).map λk=>a.length-1-k:=by haveI:=picked_rev a.length;unfold Ii at this;simpa using this
 simp only [l];congr 1;refine ID λi=>?_;haveI c:∀(n:Nat),n<=a.length->((cF n).map λk=>a.length-1-k).filterMap (λj=>a.toArray[j]?)=(a.reverse).take n:=by
  intro n;induction n with
  |zero=>intro _;rfl|succ n m=>
   intro d;rw [kg,cL,List.filterMap_append,m<|lz d];haveI p:a.length-1-n<a.length:=(dg Y Z [.e bN Z,.l Y aB] U (bY<|aV au Y [.l aY Y] U d)<|j3 _ _)
   rw [aHe,aIi<|kz d];simp [f7 p]
 rw [c a.length<|aK _];rw [DT<|by simp]
section
variable{E:aQ->bG->Prop}
def vV(h:e_):e_->Prop:=λa=>∀b o,h.get? b=J o->a.get? b=J o
theorem Qc(h:e_):KeptH (vV h):=λ_ _ k b o g=>iA _<|k b o g
theorem HV(k:dw W c s H (.k l) Q)(R:aZ W c H s.heap)(O:Ok W s)(a:e_)(t d:jo)(e:vV s.heap a):Q (.str ⟨l.toArray⟩ t) {s with heap:=a,toks:=d}:=by haveI M:=R.u e;exact k c {s with heap:=a,toks:=d} _ M.1 M.2 ⟨_,rfl⟩ O
theorem aFp(R:aZ W d H s.heap)(O:Ok W s){u:jo}(h:a≠[])(l:a.length<1000000)(r:aT s.heap d (.k a) o)(k:dw W d s H (.k a.dropLast) Q):
  aq (bL W.i W.w) A (vy value (.Slice aA (J m) aA p) o<|.ref s.heap.objs.size) Q E {s with heap:=s.heap.push<|qU .none (.int (-1) u) .none}:=by
 refine oE r λt c=>?_;rw [c];refine zz (SBH.sliceItem_ns (Qc s.heap) (λ_ _ g=>g) (λn q v e=>?_) ?_) rfl;·rw [aFm h];exact HV k R O n q v e
 simp only [nK,j4,kI];exact(uS l)
theorem aFq(R:aZ W d H s.heap)(O:Ok W s){u:jo}(h:a≠[])(l:a.length<1000000)(r:aT s.heap d (.k a) o)(k:dw W d s H (.k a.tail) Q):
  aq (bL W.i W.w) A (vy value (.Slice (J m) aA aA p) o<|.ref s.heap.objs.size) Q E {s with heap:=s.heap.push<|qU (.int 1 u) .none .none}:=by
 refine oE r λt c=>?_;rw [c];refine zz (SBH.sliceItem_sn (Qc s.heap) (λ_ _ g=>g) (λn q v e=>?_) ?_) rfl;·rw [aFl h];exact HV k R O n q v e
 simp only [nK,j4,kI];exact(uS l)
theorem aFr(R:aZ W e H s.heap)(O:Ok W s){u:jo}(n:a.length<1000000)(r:aT s.heap e (.k a) o)(k:dw W e s H (.k a.reverse) Q):
  aq (bL W.i W.w) A (vy value (.Slice aA aA (J m) p) o<|.ref s.heap.objs.size) Q E {s with heap:=s.heap.push<|qU .none .none<|.int (-1) u}:=by
 refine oE r λt d=>?_;subst d
 refine zz ⟨"str",_,F.slot_str_getitem.lookup,typeIs_str _ _ _,wpAny_getItem_str_slice (l:=aA) (u:=aA) (st:=J (-1,u)) ⟨_,oY _ rfl,rfl,rfl⟩ (show((-1:Int)==0)=false by decide)
  (post_val_or_str ⟨dN (Txt.sliceBy_le _ _ _ (-1,u) (show(-1:Int)≠0 by decide)) ?_,λq c=>?_⟩)⟩ rfl
 ·simp only [nK,j4,kI];exact(uS n)
 ·haveI:=HV k R O (s.heap.push<|qU .none .none<|.int (-1) u) q c λb o g=>iA _ g
  rw [<-aFn a u]at this
  exact this
theorem Qd(R:aZ W q H s.heap)(O:Ok W s){n:List aQ}{t:List V}{l u st:aQ}{v w d:Option Int}{x:List aQ}{Q:aQ->bG->Prop}(z:s.heap.IsList a n.toArray)(B:n.length<1000000)
  (C:IsPart l v) (D:IsPart u w) (I:IsPart st d) (P:d≠J 0) (X:Sf n.toArray v w d=x.toArray) (hs:SW e false (.ref a) (.ref s.heap.objs.size)=SY TR (SZ (.ref a)<|.ref s.heap.objs.size))
  (rl:ca s.heap q t x) (k:dw W q s (H++[.a t]) (.j H.length) Q):
  aq (bL W.i W.w) A (vy value e (.ref a)<|.ref s.heap.objs.size) Q E {s with heap:=s.heap.push<|qU l u st}:=by
 have p:∀b o,s.heap.get? b=J o->(s.heap.push<|qU l u st).get? b=J o:=λb o g=>iA _ g;haveI M:=R.u p;haveI m:(s.heap.push<|qU l u st).IsList a n.toArray:=by refine aG z λo g c=>bU o (p _ _ g) c
 refine zz ⟨_,_,aIa.lookup,Heap.IsList.typeIs (s:={s with heap:=s.heap.push<|qU l u st}) m,wpAny_getItem_list_slice m (Heap.IsSliceOf.new _ _ _ _) C D I P ?_<|by rw [j4,kI];exact(uS B)⟩ hs;rw [X];exact(k.h p s.toks).d M.1 O s.toks<|M.2.s R rl
theorem aFs(R:aZ W d H s.heap)(O:Ok W s){v:V}{l:List V}{o:aQ}{u:jo}{Q:aQ->bG->Prop}(e:m_ H v=J l)(r:aT s.heap d v o)(k:dw W d s (H++[.a l.reverse]) (.j H.length) Q):
  aq (bL W.i W.w) A (vy value (.Slice aA aA (J m) p) o<|.ref s.heap.objs.size) Q E {s with heap:=s.heap.push<|qU .none .none<|.int (-1) u}:=by
 refine Bj (R.X e r) λq a t c w n=>?_;rw [c];have x:=n.c;exact Qd R O w (yk x q) .none .none (.int _ _) (by decide) (aFo t) rfl n.l k
theorem aFt(R:aZ W d H s.heap)(O:Ok W s){q:List V}{o x:aQ}{i:Int}{Q:aQ->bG->Prop}(e:m_ H v=J q)(w:0<=i)(r:aT s.heap d v o)(z:aT s.heap d (.d i) x)(k:dw W d s (H++[.a<|q.take i.toNat]) (.j H.length) Q):
  aq (bL W.i W.w) A (vy value (.Slice aA (J m) aA p) o<|.ref s.heap.objs.size) Q E {s with heap:=s.heap.push<|qU .none x .none}:=by
 refine Bj (R.X e r) λC a D l I B=>?_;clear r;subst l;refine oE z λt c=>?_;clear z;subst c;refine oE (Sa w) λn c=>?_;clear w;subst c;haveI P:=B.c;exact Qd R O I (yk P C) .none (.int _ _) .none (by decide) (slicePick_upto' D.toArray n) rfl (B.m n) k
end
end Mine
end
section
namespace Mine
open PySem PyProof.Rows PySem.Builtin PySem.W
set_option tactic.hygienic false
set_option maxRecDepth 100000 in
theorem aFu:fillsNumberSlot (.type "tuple") "mul"=gc false:=
 PySem.fillsNumberSlot_seq (id:="tuple.__mul__") (r:=J<|.builtin "tuple.__rmul__") Sg.lookup (by decide+kernel) aIk.lookup (by decide+kernel)
set_option maxRecDepth 100000 in
theorem aFv:seqRepeat? (.type "tuple")=gc (J<|.builtin "tuple.__mul__"):=by rw [aIl (T:="tuple") (name:="__mul__") (id:="tuple.__mul__") Sg.lookup<|by decide+kernel,aIl (T:="tuple") (name:="__rmul__") (id:="tuple.__rmul__") aIk.lookup<|by decide+kernel];rfl
set_option maxRecDepth 100000 in
theorem aFw(a:Int)(t:jo)(l:cO)(items:Array aQ)(n:Nat):
  Meets (Builtin.«int.__rmul__» ⟨[.int a t,.ref l],[]⟩) (λ_ R s=>s.heap.get? l=J {cls:=.type "tuple",dict:=aA,data:=.seq items n,slots:=#[]}/\R (.ok<|.ret Value.notImplemented) s):=
 .of_wp λprog w A R s h=>by obtain⟨c,g,d,e,m⟩:=s;obtain⟨p,h⟩:=h;wp_walk;exact bU _ rfl h
set_option maxRecDepth 100000 in
theorem aFx(u:jo)(l:cO)(items:Array aQ)(n:Nat):
  Meets (Builtin.«tuple.__mul__» ⟨[.ref l,.int 1 u],[]⟩) (λ_ R s=>s.heap.get? l=J {cls:=.type "tuple",dict:=aA,data:=.seq items n,slots:=#[]}/\R (.ok<|.ret<|aHy l) s):=
 .of_wp λprog w A R s h=>by
  obtain⟨a,g,d,c,e⟩:=s;obtain⟨m,h⟩:=h
  wp_walk
  exact bU _ rfl h
section
variable{E:aQ->bG->Prop}
theorem aFy(a:List aQ)(n:Nat):∀(b:Array aQ),(aIm (λc d=>c++d) b<|jK n a.toArray)=b++(jK n a).flatten.toArray:=by
 induction n with
 |zero=>intro b;simp|succ n e=>intro b;simp only [aIn,H_,e,aIo];simp
theorem aFz(R:aZ W d H s.heap)(O:Ok W s)(e:H[l]?=J (.a w))(C:0<=i)(z:i<1000)(D:w.length<1000)(r:aT s.heap d (.j l) o)(I:aT s.heap d (.d i) x)
  (k:dw W d s (H++[.a (jK i.toNat w).flatten]) (.j H.length) Q):aq (bL W.i W.w) A (Df .Mult o x) Q E s:=by
 refine iH (R.t e r) λa c m _ p q=>?_;rw [m];obtain⟨n,g⟩:=p
 refine oE I λu t=>?_;rw [t]
 haveI B:=q.c
 haveI hm:c.length*i.toNat<=1000*1000:=Nat.mul_le_mul (yj B D)<|(Int.toNat_le).mpr<|Int.le_of_lt z
 refine aIp (T:="list") (U:="int") (by decide) ⟨_,g,rfl⟩ (λP=>Ij P i u) noFill_list_mul aIq Ik repeat_list aIr.lookup
  (D5 Ik (Ij s i u) aIs (aIt _ _) (int___rmul___int_list i u a c.toArray n)
   ⟨g,rfl,⟨_,g,rfl⟩,D5 F.slot_list_mul ⟨_,g,rfl⟩ F.entry_list_mul (F.args_list_mul_2 _ _)
    (AutoListH.list___mul___list_int_3 a c.toArray n i u (by simp [Builtin.List.listFitsIndex];exact⟨yz C,Ig z<|by decide⟩) (by rw [j4];omega)<|by simp [Builtin.List.listTooLong,sizeLine];exact(cA Y (.n 16777216) [.l Y<|.m 1000 dz] U hm))
    ⟨g,?_⟩⟩)
 haveI v:aIm (λX x2=>X++x2) #[] (jK (if c.toArray.isEmpty=true then 0 else i.toNat) c.toArray)=(jK i.toNat c).flatten.toArray:=by
  rw [aFy]
  clear hm B g;clear q;induction c using bk with
  |nil=>simp
  |cons=>simp
 rw [v]
 exact k.d R O s.toks<|q.o i.toNat
theorem aFA(R:aZ W c H s.heap)(O:Ok W s)(r:aT s.heap c (V.m p) o)(l:aT s.heap c (.d 1) x)
  (k:dw W c s H (V.m p) Q):aq (bL W.i W.w) A (Df .Mult o x) Q E s:=by
 refine qA (Cy.mp r) λa n m d g q=>?_;subst d
 refine oE l λu e=>?_;clear l;subst e
 refine aIp (T:="tuple") (U:="int") (by decide) ⟨_,g,rfl⟩ (λt=>Ij t 1 u) aFu aIq Ik aFv aIr.lookup
  (D5 Ik (Ij s 1 u) aIs (aIt _ _) (aFw 1 u a m.toArray n)
   ⟨g,rfl,⟨_,g,rfl⟩,D5 Sg ⟨_,g,rfl⟩ F.entry_tuple_mul (F.args_tuple_mul_2 _ _)
    (aFx u a m.toArray n) ⟨g,?_⟩⟩)
 exact k.a R O s.toks r
end
end Mine
end
section
namespace Mine
open PySem PyProof.Rows PySem.W
set_option tactic.hygienic false
theorem Qk:∀(n:Nat)(l:List Nat),l.Nodup->(∀x∈l,x<n)->l.length<=n
 |0,[],_,_=>aK _|0,x::_,_,h=>absurd (h x<|.head _)<|aHS _|n+1,l,d,h=>by
  haveI a:=Qk n (l.erase n) (d.erase n) λx m=>by
   haveI c:x≠n:=λe=>by clear h;subst e;exact(List.Nodup.not_mem_erase d) m
   exact Ra (Nat.le_of_lt_succ<|h x<|List.mem_of_mem_erase m) c
  haveI:=List.length_erase_le (a:=n) (l:=l);by_cases hm:n∈l;·rw [RR hm]at a;exact dN (AH (bY<|RS hm).symm)<|iW a
  rw [List.erase_of_not_mem hm]at a;exact(dF _ a)
section
theorem Ql{a b:Nat}{n:ac}(m:gU[a]?=J n)(p:gU[b]?=J n):a=b:=by
 obtain⟨c,d⟩:=jM.mp m;obtain⟨e,l⟩:=jM.mp p;haveI P:=Rs.mp aGE;refine aU (IR a b) ?_ λq=>aU q ?_ ?_;·intro h;exact absurd (d.trans l.symm)<|P a b c e h
 ·intro h;exact h
 intro h;exact absurd (l.trans d.symm)<|P b a e c h
theorem z_(x n:ac)(t:jo):(Value.str x t).isStr n=(x==n):=rfl
theorem fF.d{a:Nat}{name:ac}(p:gU[a]?=J name):(m:List<|Nat×V)->{w:List iq}->fF P h H m w->
  (m.lookup a=aA/\w.find? (·.key.isStr name)=aA)\/X4 λv x A B=>A3 (m.lookup a=J v) (w.find? (·.key.isStr name)=J ⟨A,B,x⟩)<|aT h H v x
 |[],_,r=>by haveI r:_=[]:=r;rw [r];exact .inl ⟨rfl,rfl⟩|(k,v)::m,_,r=>by
  refine pA r λn t x q en l I Q=>?_;rw [l];by_cases e:k=a;·clear r;subst e;rw [p]at en;(replace en:=ao en;clear p l;subst en);exact .inr ⟨v,x,tX P name,.str name t,by simp,by simp [z_],I⟩
  haveI C:(n==name)=false:=by refine beq_eq_false_iff_ne.mpr λz=>e ?_;clear l;subst z;exact Ql en p
  have D:(a==k)=false:=beq_eq_false_iff_ne.mpr λz=>e z.symm;rcases fF.d p m Q with⟨p1,p2⟩|⟨R,W,A,B,p1,p2,p3⟩;·exact .inl ⟨by simp only [kG,D];exact p1,by simp only [gA,z_,C];exact p2⟩
  exact .inr ⟨R,W,A,B,by simp only [kG,D];exact p1,by simp only [gA,z_,C];exact p2,p3⟩
theorem fF.b:(a:List<|Nat×V)->{l:List iq}->fF P h p a l->l.any (·.refKey)=false|[],_,r=>by haveI r:_=[]:=r;rw [r];rfl|(k,v)::a,_,r=>by refine pA r λn t x q en e w m=>?_;rw [e];simp only [Ih,fF.b a m,Bool.or_false];rfl
theorem fF.f:(a:List<|Nat×V)->{l:List iq}->fF P h p a l->l.length=a.length|[],_,r=>by haveI r:_=[]:=r;rw [r];rfl|(k,v)::a,_,r=>by refine pA r λn t x q en e w m=>?_;clear r;rw [e];simp [fF.f a m]
theorem fF.g:(e:List<|Nat×V)->{l:List iq}->fF P h w e l->∀k∈e.map (·.1),k<gU.length
 |[],_,_,_,a=>nomatch a|(k,v)::e,_,r,m,a=>by
  obtain⟨n,t,x,q,en,rfl,z,p⟩:=r;rcases dA.mp a with rfl|a;·exact(jM.mp en).1
  exact fF.g e p m a
theorem fF.i(e:List<|Nat×V){l:List iq}(r:fF P h n e l){a:Nat}{name:ac}(p:gU[a]?=J name):
  (e.lookup a=aA/\Di name l=J aA)\/X2 λv x=>A3 (e.lookup a=J v) (Di name l=J (J x)) (aT h n v x):=by
 refine aU (fF.d p e r) ?_ ?_;·refine λm=>on m λp1 p2=>.inl ⟨p1,by unfold Di;rw [p2,fF.b e r];rfl⟩
 intro m;obtain⟨v,x,q,t,p1,p2,p3⟩:=m;exact .inr ⟨v,x,p1,by unfold Di;rw [p2],p3⟩
theorem fF.j{a:Nat}{name:ac}{v:V}{x:aQ}{B:jo}(p:gU[a]?=J name)(A:aT h C v x):(l:List<|Nat×V)->{D:List iq}->fF P h C l D->
  fF P h C (lQ l a v) (vz name (tX P name) (.str name B) x D)
 |[],_,r=>by haveI r:_=[]:=r;rw [r];exact⟨name,B,x,[],p,rfl,A,rfl⟩|(k,w)::l,_,r=>by
  refine pA r λn t y q en m I H=>?_;rw [m];by_cases e:k=a;·clear r;subst e;rw [p]at en;(replace en:=ao en;clear m;subst en);rw [show lQ ((k,w)::l) k v=(k,v)::l from if_pos rfl];simp only [vz,z_,beq_self_eq_true,if_true];exact⟨name,t,x,q,p,rfl,A,H⟩
  haveI Q:(n==name)=false:=by refine beq_eq_false_iff_ne.mpr λz=>e ?_;clear m;subst z;exact Ql en p
  rw [show lQ ((k,w)::l) a v=(k,w)::lQ l a v from if_neg e];simp only [vz,z_,Q,ti,if_false];exact⟨n,t,y,_,en,rfl,I,fF.j p A l H⟩
theorem Qm(c:List<|Nat×V)(a:Nat)(v:V):(lQ c a v).map (·.1)=c.map (·.1)\/(a∉c.map (·.1)/\(lQ c a v).map (·.1)=c.map (·.1)++[a]):=by
 induction c with
 |nil=>exact .inr ⟨by simp,rfl⟩|cons f c d=>
  obtain⟨k,w⟩:=f;by_cases e:k=a;·rw [e];left;simp [lQ]
  refine aU d ?_ ?_;·intro d;left;exact(congrArg (aIw bI)<|if_neg e).trans<|congrArg (k::·) d
  refine λl=>on l λm n=>?_;right;refine⟨?_,(congrArg (aIw bI)<|if_neg e).trans<|congrArg (k::·) n⟩;simp only [g9,dA,not_or];exact⟨λz=>e z.symm,m⟩
end
section
variable{W:Wd}{E:aQ->bG->Prop}{s:bG}
theorem Wd.l(W:Wd)(R:aZ W a H s.heap):W.K.In s.heap:=W.X.keeps R.j
theorem aZ.ae(R:aZ W z H s.heap){l c:Nat}{v:List<|Nat×V}{x:aQ}(e:H[l]?=J (.b c v))(r:aT s.heap z (.j l) x):
  X4 λa d q n=>A7 (x=.ref a) (z[l]?=J (a,d)) (InstAt s.heap a (AW c d) c<|J<|Dj q n) (s.heap.get? d=J (vY q n)) (fF W.w.params s.heap z v q) ((v.map (·.1)).Nodup) ((v.all λf=>oS c f.1)=true):=by
 refine aG (R.D e) λp ep ro=>aG r λp' m A=>?_;rw [A];rw [ep]at m;(replace m:=ao m;subst m);refine Eu ro λg nd dk q n g2 rf=>⟨p.1,p.2,q,n,rfl,ep,⟨g,rfl,rfl,g2⟩,g2,rf,nd,dk⟩
theorem HY(W:Wd){c:Nat}(p:(qS.any λq=>q.1==c)=true):plainGet W.K c ""=true/\Sh W.K c=true/\Si W.K c=true/\v_ W.K (.ref c) "__setattr__"=J (J<|.builtin "object.__setattr__"):=by refine aG (Ib.mp p) λq t e=>?_;simp only [beq_iff_eq]at e;haveI:=eI.mp W.k.1 _ t;simp only [DH,iV,decide_eq_true_eq]at this;haveI a:=this.1;haveI v:=this.2;obtain⟨⟨⟨⟨⟨⟨w,x⟩,z⟩,d⟩,l⟩,m⟩,n⟩:=a;rw [e]at d l m n;exact⟨d,l,m,n⟩
theorem HZ(W:Wd){c a:Nat}{name:ac}(hd:oS c a=true)(l:gU[a]?=J name):(qS.any λq=>q.1==c)=true/\v_ W.K (.ref c) name=J none:=by
 refine aG (Ib.mp hd) λp m e=>?_;simp only [iV,beq_iff_eq]at e;have:=eI.mp W.k.2.1 _ m;simp only [Hh,iV]at this;haveI d:=this.1;haveI n:=this.2;haveI:=eI.mp n a<|by simpa using e.2
 rw [l]at this;simp only [iV,decide_eq_true_eq]at this;rw [e.1]at d this;exact⟨d,this.1⟩
theorem aFD{v:V}{h:e_}{x:aQ}(r:aT h d v x):handedIn x=true:=by
 induction v with
 |o=>rw [r];rfl|n b=>rw [r];rfl|d i=>obtain⟨t,rfl⟩:=r;rfl
 |k u=>obtain⟨t,rfl⟩:=r;rfl
 |j l=>refine aG r λp _ c=>?_;rw [c];rfl|A a=>rw [r.1];rfl|w=>refine cV r λa n c _=>?_;rw [c];rfl|r y t=>clear t_ih h_ih;obtain⟨a,n,z,e,rfl,_⟩:=r;rfl
set_option tactic.hygienic true in
theorem aFE(R:aZ W C H s.heap)(O:Ok W s){v y:V}{a:Nat}{name:ac}{x:aQ}{Q:aQ->bG->Prop}(D:gU[a]?=J name)(e:Gc H v a=J y)(r:aT s.heap C v x)(k:dw W C s H y Q):
  aq (bL W.i W.w) A (getAttr x name true) Q E s:=by
 induction v with
 |j l=>
  refine aG (lP e) λo P e=>?_;induction o with
  |b c m=>
   have e:m.lookup a=J y:=e;refine Ew (R.ae P r) λx d ds n t ep I g2 X nd dk=>?_;rw [t];rcases X.i m D with⟨p,_⟩|⟨y',z,p,q,rz⟩;·rw [p]at e;exact aX e
   rw [p]at e;(replace e:=ao e;subst e);haveI hd:oS c a=true:=by
    obtain⟨p1,w,e1⟩:∃f∈m,f.1=a:=by
     clear X q nd dk ep I g2 P r e;induction m with
     |nil=>exact aX p|cons f m ih=>
      obtain⟨k',w'⟩:=f;by_cases z:k'=a;·exact bU _ (.head _) z
      haveI hk:(a==k')=false:=beq_eq_false_iff_ne.mpr λq=>z q.symm;simp only [kG,hk]at p;refine aG (ih p) λf B e=>bU f (.tail _ B) e
    haveI:=eI.mp dk _ w;rw [e1]at this;exact this
   refine on (HZ W hd D) λhc B=>qo (HY W hc) λc1 c2 c3 c4=>get_value (W.l R) I (Sj c1).1 (findObj_own c2 B rfl q) (aFD rz) (k.a R O _ rz)
  |_=>exact aX e
 |_=>exact aX e
theorem aFF(name:ac)(c:Int)(k v:aQ)(a:List iq):(vz name c k v a).length<=a.length+1:=by
 induction a with
 |nil=>simp [vz]|cons e r d=>
  simp only [vz];split;·simp
  simp only [rV];exact(bP _ d)
theorem aFG{x d c:cO}{name:ac}{v:aQ}{a:List iq}{n:Nat}{Q:Unit->bG->Prop}(X:W.K.In s.heap)(I:InstAt s.heap x (AW c d) c<|J<|Dj a n)(D:s.heap.get? d=J (vY a n))
  (w:v_ W.K (.ref c) "__setattr__"=J (J<|.builtin "object.__setattr__")) (z:Si W.K c=true) (B:v_ W.K (.ref c) name=J aA) (C:Sh W.K c=true) (H:a.any (·.refKey)=false) (P:a.length<=999)
  (h:∀p R,(p.get? d=J (vY (vz name (tX W.w.params name) (.str name<|s.toks+1) v a) R))->(∀b ob,b≠d->s.heap.get? b=J ob->p.get? b=J ob)->Q () {s with heap:=p,toks:=s.toks+2}):
  aq (bL W.i W.w) A (setAttr (.ref x) name v) Q E s:=by
 refine set_plain X I w<|osa_open X I z (r:=aA) (by unfold takerIn;rw [B];rfl) λb=>aG (any_some C) λcd hc q=>?_;haveI hx:=I.at_;obtain⟨e,g,dr,m,os⟩:=s;refine bC<|bm<|bC<|bC<|aIx hx<|bC<|(looks_clsIn X hc).at ?_;rw [q];refine bm (a:=J d)<|bC<|bm<|bC ?_;refine bC<|bC<|wpAny_askSetting<|bm<|bC<|aIy<|bC<|aIx D ?_;haveI c:(!a.toArray.any (·.key.isStr name)&&a.toArray.any (·.refKey))=false:=by rw [<-aIz,<-aIz];simp only [List.toList_toArray,H,IB]
 refine(?_:aq _ _ (if aRefKeyMayBeTheName name a.toArray=true then _ else _) _ _ _);rw [aRefKeyMayBeTheName_at,c];haveI t:(e.update d<|aIA name (tX W.w.params name) (.str name<|m+1) v).get? d=J (vY (vz name (tX W.w.params name) (.str name<|m+1) v a)<|putN name a n):=by
  haveI:=Heap.get?_update_self (h:=e) (aIA name (tX W.w.params name) (.str name<|m+1) v) D<|by rw [show vY a n=Dj a n from rfl,aIB];rfl
  rw [this,show vY a n=Dj a n from rfl,aIB];rfl
 refine wpAny_updatePart D ?_;haveI l:=aFF name (tX W.w.params name) (.str name<|m+1) v a;refine bC<|wpAny_lookBehind t (by exact pastItsLine_dict<|by rw [j4,kI];exact(aV Y (.a (.n 16777216) au) [.l Z<|.n 999,.l Y aY] U P l)) ?_;exact bm<|h _ _ t λb ob hb gb=>(aIc e _<|iX hb).trans gb
set_option tactic.hygienic true in
theorem aFH(R:aZ W φ H s.heap)(O:Ok W s){v y:V}{a:Nat}{name:ac}{x z:aQ}{H':Hp}{Q:Unit->bG->Prop}(ea:gU[a]?=J name)(e:G0 bW H v a y=J H')(r:aT s.heap φ v x)(rz:aT s.heap φ y z)(k:Q8 W φ s H' Q):
  aq (bL W.i W.w) A (setAttr x name z) Q E s:=by
 induction v with
 |j l=>
  refine aG (lP e) λo hl e=>
    aG (kF.mp e) λp0 e2 t=>?_;clear e;subst t
  clear e;induction o with
  |b c m=>
   refine on (io e2) λhd e3=>?_
   (replace e3:=ao e3;clear e2;subst e3)
   refine Ew (R.ae hl r) λx d ds n iM ep I g2 rf nd dk=>?_;clear r;subst iM
   haveI w:oS c a=true:=hd
   haveI hc:=(HZ W w ea).1;haveI B:=(HZ W w ea).2
   refine qo (HY W hc) λc1 c2 c3 c4=>?_
   haveI C:ds.length<=999:=by
    haveI h1:=fF.f m rf
    haveI h2:=Qk gU.length (m.map (·.1)) nd<|fF.g m rf
    haveI h3:gU.length<=999:=by decide
    rw [ai]at h2;exact(aH (mZ h1 h2) h3)
   refine aFG (W.l R) I g2 c4 c3 B c2 (fF.b m rf) C λh' n' D sb=>?_
   haveI:=R.S (o':=.b c<|lQ m a y) hl ep (λ_ h=>nomatch h) (.inr rfl) sb λT=>by
    refine⟨?_,?_,?_,_,_,D,fF.c T (f8 _) _<|fF.j ea rz m rf⟩
    ·refine sb _ _ (λq=>?_) I.at_
     haveI P:=g2
     haveI ha:=I.at_
     rw [show x=d from q]at ha
     rw [ha]at P;cases P
    ·refine aU (Qm m a y) ?_ ?_
     ·intro q;rw [q];exact nd
     ·refine λqz=>on qz λq1 q2=>?_;rw [q2]
      exact iu.mpr ⟨nd,gN.mpr ⟨c_,fU⟩,λp hp q hq=>by
       rw [bg.mp hq];exact λz=>q1 (z▸hp)⟩
    ·refine eI.mpr λf B=>?_
     have hm:f.1∈(lQ m a y).map (·.1):=List.mem_map_of_mem B
     have X:∀b∈m.map (·.1),oS c b=true:=λb hb=>by
      refine aG (bc.mp hb) λf B t=>?_;clear hb;subst t
      exact eI.mp dk _ B
     refine aU (Qm m a y) ?_ ?_
     ·intro q;rw [q]at hm;exact X _ hm
     ·refine λqz=>on qz λq1 q2=>?_;rw [q2]at hm
      refine aU (eO.mp hm) ?_ ?_
      ·intro hm;exact X _ hm
      ·intro hm;rw [bg.mp hm];exact w
   exact k φ _ this.1 this.2 O
  |_=>exact aX e2
 |_=>exact aX e
end
set_option backward.match.sparseCases false
noncomputable abbrev dx:=Mine.aS
structure dS(W:Wd)(cx:Cx)(env:kH)(G:dx)(φ:dR)(h:e_):Prop where
 f:env.scope=cx.d
 n:cx.d.kind=.function
 s:env.globals=kC
 u:env.builtins=DP
 A:G.length=cx.j.length
 t:∃m,h.Ns env.locals m/\∀(i:Nat)(x:ac)(v:V),cx.j[i]?=J (J x)->cx.d.names.lookup x=J .local->G[i]?=J (J v)->∃z,m x=J z/\aT h φ v z
 q:∀(i:Nat)(x:ac),cx.j[i]?=J (J x)->cx.d.names.lookup x≠J .local->X2 λc o=>A7 (cx.d.names.lookup x=J .cell) (env.cells.lookup x=J c) (h.IsCell c o) (¬f6 φ c) (c≠env.locals) (W.j.get? c=aA) (∀v:V,G[i]?=J (J v)->∃z,o=J z/\aT h φ v z)
 inj:∀(i j:Nat)(x:ac),cx.j[i]?=J (J x)->cx.j[j]?=J (J x)->i=j
 w:∀(x y:ac)(c:cO),env.cells.lookup x=J c->env.cells.lookup y=J c->x=y
 l:¬f6 φ env.locals/\W.j.get? env.locals=aA
 p:∀(x:ac)(c:cO),env.cells.lookup x=J c->(∃o,h.get? c=J o)/\¬f6 φ c
theorem Cz{W:Wd}{H':Hp}(S:b_ v h c w)(g:h.get? a=J o)(m:¬f6 v a):¬f6 c a:=λ⟨l,p,e,q⟩=>by
 refine aU (fV l v.length) ?_ ?_
 ·intro d;refine m ⟨l,p,?_,q⟩;refine oE S.i λt n=>?_;clear m S;subst n
  rwa [jL d]at e
 intro d;haveI:=S.k l p d e;clear e m;rcases q with rfl|rfl
 ·rw [g]at this;cases this.1
 rw [g]at this;cases this.2
theorem dS.d(F:dS W cx env G φ h)(R:aZ W φ H h)(S:b_ φ h I h'):dS W cx env G I h':=by
 refine aG F.t λm hn P=>?_;haveI T:=S.w R;refine wp hn λo es ep g bo=>⟨F.f,F.n,F.s,F.u,F.A,⟨m,⟨o,es,ep,S.j _ _ g F.l.1,bo⟩,λi x v a b c=>?_⟩,λi x a b=>?_,F.inj,F.w,⟨Cz (W:=W) (H':=H) S g F.l.1,F.l.2⟩,λx c e=>?_⟩
 ·refine aG (P i x v a b c) λz e r=>bU z e (aT.b T S.i _ r)
 ·refine sP (F.q i x a b) λc oc k1 k2 Q k4 k5 k6 k7=>?_;obtain⟨ob,k3,X⟩:=Q;refine sU c oc k1 k2 ⟨ob,S.j _ _ k3 k4,X⟩ (Cz (W:=W) (H':=H) S k3 k4) k5 k6 λv P=>?_;refine aG (k7 v P) λz e r=>bU z e (aT.b T S.i _ r)
 haveI cG:=(F.p x c e).1;haveI m':=(F.p x c e).2;obtain⟨o',g'⟩:=cG;exact⟨⟨o',S.j _ _ g' m'⟩,Cz (W:=W) (H':=H) S g' m'⟩
def H0(A:nG)(n:Nat):Prop:=A.handled=aA/\A.depth+2*n+2<aIC/\A.units+20*n+200<iY
def oR(A:nG)(n:Nat):Prop:=A.handled=aA/\A.depth+2*n+3<aIC/\A.units+20*n+215<iY
theorem oR.a(h:oR A n):H0 A n:=⟨h.1,by haveI:=h.2.1;exact(dg (.a (.a Y<|.m 2 Z) dB) aB [.t (.a (.a Y<|.m 2 Z) bq) aB] U this),by haveI:=h.2.2;exact(dg (.a (.a Y<|.m 20 Z)<|.n 200) aB [.t (.a (.a Y<|.m 20 Z)<|.n 215) aB] U this)⟩
def xl(W:Wd)(d:dR)(s:bG)(e:Hp)(b:Bool)(Q:Bool->bG->Prop):Prop:=
 ∀a c,aZ W a e c.heap->b_ d s.heap a c.heap->Ok W c->Q b c
def aFJ(W:Wd)(e:dR)(s:bG)(l:Hp)(m:List V)(Q:List aQ->bG->Prop):Prop:=
 ∀a c d,aZ W a l c.heap->b_ e s.heap a c.heap->ca c.heap a m d->Ok W c->Q d c
section
theorem dw.c(k:dw W p s q v Q)(l:aZ W e n eE.heap)(S:b_ p s.heap e eE.heap):dw W e eE q v Q:=
 λm t z w x r O=>k m t z w (b_.c l S x) r O
theorem xl.a(k:xl W p s q v Q)(l:aZ W d n e.heap)(S:b_ p s.heap d e.heap):xl W d e q v Q:=
 λm t w x O=>k m t w (b_.c l S x) O
end
set_option backward.match.sparseCases true in
def hW(W:Wd)(C:fE)(n:Nat):Prop:=∀(f:Nat)(c:List V)(H:Hp)(p:V->Hp->Prop)(a:cO),C f c H p->tV f=J a->∀(A:nG)(s:bG)(d:dR)(e:List aQ)(Q:aQ->bG->Prop),
 H0 A n->aZ W d H s.heap->Ok W s->ca s.heap d c e->(∀v l,p v l->dw W d s l v Q)->
 yD (bL W.i W.w) A (.call (.ref a) ⟨e,[]⟩) (λr m=>match r with|.ok (.ret z)=>Q z m|_=>False) s
def bJ(W:Wd)(C:fE)(n:Nat)(cx:Cx)(e:E)(x:bp):Prop:=∀(A:nG)(d:aQ->bG->Prop)(env:kH)(G:dx)(a:dR)(H:Hp)(s:bG)(l:V->Hp->Prop)(Q:aQ->bG->Prop),
 oR A n->dS W cx env G a s.heap->aZ W a H s.heap->Ok W s->cK C bW e G H l->(∀v c,l v c->dw W a s c v Q)->aq (bL W.i W.w) A (gC x env) Q d s
def f_(W:Wd)(C:fE)(n:Nat)(cx:Cx)(e:E)(x:bp):Prop:=∀(A:nG)(d:aQ->bG->Prop)(env:kH)(G:dx)(a:dR)(H:Hp)(s:bG)(l:Bool->Hp->Prop)(Q:Bool->bG->Prop),
 oR A n->dS W cx env G a s.heap->aZ W a H s.heap->Ok W s->jm C bW e G H l->(∀v c,l v c->xl W a s c v Q)->aq (bL W.i W.w) A (AS x env<|gC x env) Q d s
def pX(W:Wd)(C:fE)(n:Nat)(cx:Cx)(es:Es)(l:List bp):Prop:=∀(A:nG)(d:aQ->bG->Prop)(env:kH)(G:dx)(a:dR)(H:Hp)(s:bG)(e:List V->Hp->Prop)(Q:List aQ->bG->Prop),
 oR A n->dS W cx env G a s.heap->aZ W a H s.heap->Ok W s->pO C bW es G H e->(∀v c,v.length=l.length->e v c->aFJ W a s c v Q)->aq (bL W.i W.w) A (Sk<|rZ l env) Q d s
theorem Qp{x:ac}(h:(x !="__debug__")=true):(x==("__debug__":ac))=false:=by simpa [bne]using h
section
variable{cx:Cx}
theorem C_:pS o=true↔o=J .local:=by induction o with|none=>exact⟨λh=>ft h,λh=>aX h⟩|some k=>induction k<;>first|exact⟨λ_=>rfl,λ_=>rfl⟩|exact⟨λh=>ft h,λh=>by cases h⟩
theorem C':mH o=true↔o=J .cell:=by induction o with|none=>exact⟨λh=>ft h,λh=>aX h⟩|some k=>induction k<;>first|exact⟨λ_=>rfl,λ_=>rfl⟩|exact⟨λh=>ft h,λh=>by cases h⟩
theorem aFK:OW o=true↔o=J .globalImplicit:=by induction o with|none=>exact⟨λh=>ft h,λh=>aX h⟩|some k=>induction k<;>first|exact⟨λ_=>rfl,λ_=>rfl⟩|exact⟨λh=>ft h,λh=>by cases h⟩
theorem aFL:vL o=true↔o=J .free:=by induction o with|none=>exact⟨λh=>ft h,λh=>aX h⟩|some k=>induction k<;>first|exact⟨λ_=>rfl,λ_=>rfl⟩|exact⟨λh=>ft h,λh=>by cases h⟩
set_option tactic.hygienic true in
theorem Cx.w{x:ac}(h:cx.u i x=true):cx.j[i]?=J (J x)/\(x==("__debug__":ac))=false:=by
 unfold Cx.u at h;split at h;·rename_i y c;refine on (bi.mp h) λa b=>?_;rw [beq_iff_eq.mp a]at c;exact⟨c,Qp b⟩
 exact ft h
theorem Cx.B{x:ac}(h:cx.f x=true):cx.d.names.lookup x=J .globalImplicit/\(x==("__debug__":ac))=false:=by haveI a:=(bi.mp h).1;haveI b:=(bi.mp h).2;exact⟨aFK.mp a,Qp b⟩
theorem Qq{H:Hp}{i:Nat}{x:ac}{v:V}{Q:aQ->bG->Prop}(F:dS W cx env G p s.heap)(l:cx.j[i]?=J (J x))(e:G[i]?=J (J v))
  (k:∀z,aT s.heap p v z->Q z s):aq (bL W.i W.w) A (loadName env x) Q B s:=by
 haveI n:env.scope.kind=.function:=by rw [F.f];exact F.n
 by_cases a:cx.d.names.lookup x=J .local;·refine aG F.t λm q t=>aG (t i x v l a e) λz w r=>wpAny_loadName_local n (by unfold tj;rw [F.f];exact a) q w (k z r)
 refine sP (F.q i x l a) λc C k1 k2 k3 k4 k5 k6 k7=>aG (k7 v e) λz d r=>?_;clear k7;subst d;exact wpAny_loadName_cell n (by unfold tj;rw [F.f];exact k1) k2 k3<|k z r
theorem Qr{i:Nat}{x:ac}{p:nC}(h:cx.u i x=true):bJ W C n cx (.g i) (.Name x p):=λA l env G a H s q Q m F R O w k=>by haveI c:=(Cx.w h).1;haveI hd:=(Cx.w h).2;refine aG w λv e d=>wpAny_Name (Qq (H:=H) F c e λz r=>k v H d a s z R (b_.u _ _) r O) hd
theorem DA(h:cx.f x=true)(F:dS W cx env G a s.heap)(R:aZ W a H s.heap)
  (e:qX W.K kC x=J (J v)) (k:Q v s):aq (bL W.i W.w) A (gC (.Name x p) env) Q d s:=by
 refine on (Cx.B h) λc hd=>?_;haveI T:=W.T.keeps R.j;refine aID (by rw [F.f];exact F.n) (by unfold tj;rw [F.f];exact c) (Calls.loadGlobal_global (mg:=W.m) (by rw [F.s];exact T.g) (mg_of (W.l R) T.g e) k) hd
theorem vZ(h:cx.f x=true)(F:dS W cx env G d s.heap)(R:aZ W d H s.heap)
  (c:x∈Hj) (l:bootBuiltins x=J v) (k:Q v s):aq (bL W.i W.w) A (gC (.Name x p) env) Q n s:=by
 refine on (Cx.B h) λa hd=>?_;haveI T:=W.T.keeps R.j;have e:qX W.K kC x=J none:=of_decide_eq_true<|eI.mp W.k.2.2.2.2.2.1 _ c;haveI m:x≠"__name__":=λe=>by clear h;subst e;exact absurd c<|by decide
 exact aID (by rw [F.f];exact F.n) (by unfold tj;rw [F.f];exact a)
  (Calls.loadGlobal_builtin (mg:=W.m) (mb:=W.o) (by rw [F.s];exact T.g) (mg_none_of (W.l R) T.g e) (by rw [F.u];exact T.b) ((T.builtins x m).trans l) k) hd
theorem aFM(h:vM k=J v):bJ W C n cx (.h v) (.Constant k l p):=λA m env G d H s t Q q F R O w e=>by
 have a:∀z c,aT s.heap d v z->Q z {s with toks:=c}:=λz c r=>(e v H w).a R O c r;induction k with
 |none=>(replace h:=ao h;clear w;subst h);exact aIE<|a _ s.toks rfl|bool b=>(replace h:=ao h;clear w;subst h);exact Constant_bool<|a _ s.toks rfl|int i=>(replace h:=ao h;clear w;subst h);exact Sl<|a _ _ ⟨_,rfl⟩|str x=>(replace h:=ao h;clear w;subst h);exact aIy<|a _ _ ⟨s.toks,by simp⟩|_=>exact aX h
set_option tactic.hygienic true in
theorem aFN(h:zt[k]?=J (y,i))(e:(y==x)=true)(l:v=.d i)(m:cx.f x=true):bJ W C n cx (.q k v) (.Name x p):=λA D env G I H s X Q P F R O w B=>by rw [beq_iff_eq.mp e]at h;subst l;haveI:=eI.mp W.k.2.2.2.1 _<|dU h;refine aG (rN this) λo d q=>aG (rN q) λz a q=>?_;subst a;refine cV (HH q) λj t c q=>?_;subst c;rw [beq_iff_eq.mp q]at d;exact DA m F R d<|(B _ H w).a R O s.toks ⟨t,rfl⟩
theorem aFO(h:mI[k]?=J (y,b,l))(c:(y==x&&a==b)=true)(d:cx.f x=true):bJ W C n cx (.K k a) (.Name x p):=λA t env G v H s B Q z F R O w e=>by refine on (bi.mp c) λm q=>?_;rw [beq_iff_eq.mp m,<-beq_iff_eq.mp q]at h;haveI:=eI.mp W.k.2.2.2.2.1 _<|dU h;exact DA d F R (HT this).b<|(e _ H w).a R O s.toks ⟨rfl,Ib.mpr ⟨_,dU h,by simp⟩⟩
end
set_option backward.match.sparseCases true
theorem AC(h:oP o=true)(name:ac)(env:kH)(c:rW aQ):attributeBase o name env c=c:=by
 cases o with
 |Call f a k p=>
  cases f with
  |Name x q=>
   induction a using bk with
   |nil=>induction k using bk with|nil=>exact nt h|cons _ _=>rfl
   |cons _ _=>rfl
  |_=>rfl
 |_=>rfl
theorem tT(h:fI x=true):rZ (x::l) env=(false,gC x env)::rZ l env:=by cases x<;>first|rfl|exact nt h
theorem pY:(es:Es)->(l:List bp)->kA a es l=true->(rZ l env).all (λx=>!x.1)=true|.nil,[],_=>rfl|.nil,_::_,h=>nt h|.cons _ _,[],h=>nt h|.cons e es,x::l,h=>by haveI h:=eM h;rw [tT h.1];exact pY es l h.2.2
theorem tU:{l:List<|Bool×rW aQ}->l.all (λx=>!x.1)=true->backTo pos l=l|[],_=>rfl|(b,t)::l,h=>by simp only [IE,iV,IW]at h;haveI:=tU (pos:=pos) h.2;unfold backTo at this⊢;simp only [g9,h.1,this];rfl
theorem aFP{l:List<|Bool×rW aQ}(h:l.all (λx=>!x.1)=true):l.any (·.1)=false:=by
 induction l with
 |nil=>rfl|cons p l a=>simp only [IE,iV,IW]at h;simp only [Ih,h.1,a h.2,Bool.or_self]
section
variable{E:aQ->bG->Prop}
theorem aFQ(a:l.all (λx=>!x.1)=true) (h:aq M A (Sk l) (λc d=>Q ⟨c,[]⟩ d) E s):aq M A (evalArgs f true l []) Q E s:=by
 induction l using bk with
 |nil=>refine bC<|iw h (λc d e=>?_) λ_ _ x=>x;refine bC<|bm ?_;refine pd<|bC (bm<|bC<|bm<|bm e)|cons p l=>obtain⟨b,t⟩:=p;simp only [IE,iV,IW]at a;obtain⟨rfl,_⟩:=a;exact Sm h
theorem aFR(C:oP o=true)(z:(rZ a env).all (λx=>!x.1)=true) (p:a.length<29) (m:(c.endLine==pos.line)=true)
  (h:aq M A (gC o env) (λB d=>∀D:rW Bool,aq M A (getMethod B name D) (λw l=>aq M A (Sc pos w.1 w.2 (rZ a env) []) Q E l) E d) E s):
  aq M A (gC (.Call (.Attribute o name c) a [] pos) env) Q E s:=by
 rw [arm_eval_Call,AC C];refine bC<|iw h (λB d q=>?_) λ_ _ e=>e;refine bC<|th ?_;rw [tU z];haveI n:aIF (a.length+([]:List Keyword).length) (rZ a env) (backToKw pos<|keywordEach [] env)=true:=by unfold aIF;rw [z];refine(?_:(true&&true&&aJ (a.length+0+0<30))=true);simp;exact(ae p)
 haveI t:aIG true o env c pos=gc pos:=by unfold aIG;simp [m]
 unfold methodCall;rw [n];refine bC<|pd ?_;refine iw (q _) (λw l v=>?_) λ_ _ e=>e;exact bC<|Rw t v
end
section
variable{W:Wd}
theorem He{Q:aQ->bG->Prop}(e:Dk W.K f=true)(c:l.all (λx=>!x.1)=true)
  (h:aq (bL W.i W.w) A (Sk l) (λm a=>W.K.In a.heap/\aq (bL W.i W.w) A (pZ f<|first++m) Q d a) d s):aq (bL W.i W.w) A (Sc pos f first l []) Q d s:=
 callWith_of (P:=W.K.In) (by rw [aFP c];rfl) (keeps_K e) (aFQ c h)
theorem aFS(ea:pU gU[a]? nm=true)(hb:oP x=true)(h1:bJ W C n cx e x):bJ W C n cx (.l e a) (.Attribute x nm p):=λA Eh env G φ H s K Q hr F R O w k=>by
 rw [arm_eval_Attribute,AC hb];refine bC<|h1 A Eh env G φ H s _ _ hr F R O w λv l hv iB eE z c t B D=>?_;refine aG hv λy e1 hK=>?_;haveI ea':gU[a]?=J nm:=by
  induction q:gU[a]? with
  |none=>rw [q]at ea;exact ft ea|some m=>rw [q]at ea;rw [beq_iff_eq.mp ea]
 refine bC<|th<|bC<|pd<|aFE c D ea' e1 B λd I P X qg kN dp=>?_;exact bC<|wpAny_letTemporaryGo<|bm<|k y l hK d I P X (b_.c c t qg) kN dp
theorem aFT(hs:zj y=true)(h1:bJ W C n cx e x)(h2:bJ W C n cx i y):bJ W C n cx (.p e i) (.Subscript x y p):=λA Eh env G φ H s K Q hr F R O w k=>by refine Dl<|h1 A Eh env G φ H s _ _ hr F R O w λv q hv m t z a c B D=>?_;refine h2 A Eh env G m q t _ _ hr (F.d R c) a D hv λkk I hk mV jO mW d l P X=>aG hk λy e1 hK=>aE6 d X e1 hs (by haveI:=hr.2.2;exact(dg nT Z [.t (.a (.a Y<|.m 20 aB)<|.n 215) Z] U this)) (l.d a B) P ((k y I hK).c d<|b_.c a c l)
theorem Qs(h:vM c=J (.d i)):c=.int i:=by
 induction c with
 |int _=>exact congrArg _<|V.d.inj<|ao h|_=>first|exact aX h|(injection h with h;injection h)
theorem aFU(h:vM c=J .o):c=.none:=by
 induction c with
 |none=>rfl|_=>first|exact aX h|(injection h with h;injection h)
theorem Hf(h:vQ m=true)(k:∀u d,Q (.int (-1) u) {s with toks:=d}):aq (bL W.i W.w) A (gC m env) Q e s:=by refine cp (zp h) λo x p a h=>?_;rw [a];haveI h:=bV h;rw [of_decide_eq_true h.1];refine cp (zm h.2) λc _ _ a j=>?_;rw [a];rw [Qs<|of_decide_eq_true j];exact Io<|Sl<|neg_int<|k _ _
theorem aFV(h:HA m=true)(k:∀u d,Q (.int 1 u) {s with toks:=d}):aq (bL W.i W.w) A (gC m env) Q e s:=by refine cp (zm h) λc _ _ a h=>?_;rw [a];rw [Qs<|of_decide_eq_true h];exact Sl<|k _ _
theorem aFW(hm:vQ m=true)(h1:bJ W C n cx e x):bJ W C n cx (.I e) (.Subscript x (.Slice aA aA (J m) q) p):=λA Eh env G φ H s K Q hr F R O w k=>by
 refine Dl<|h1 A Eh env G φ H s _ _ hr F R O w λv a hv I X z c t B D=>?_;refine Ip<|bm<|bm<|Hf hm λu tk=>?_;haveI d:aZ W I a ({X with toks:=tk}:bG).heap:=c;haveI L:∀(P:List V),m_ a v=J P->K (.j a.length) (a++[.a P.reverse])->_:=λP e1 hK=>aFs (A:=A) (E:=Eh) (value:=x) (m:=m) (p:=q) (u:=u) (Q:=Q) d D e1 B ((k _ _ hK).c c t);induction v with
 |k u'=>exact aFr d D hv.1 B<|(k _ _ hv.2).c c t|j l=>refine aG hv λP e1 hK=>L P e1 hK|_=>refine aG hv λP e1 hK=>aX e1
theorem aFX(hm:vQ m=true)(h1:bJ W C n cx e x):bJ W C n cx (.R e) (.Subscript x (.Slice aA (J m) aA q) p):=λA Eh env G φ H s K Q hr F R O w k=>by refine Dl<|h1 A Eh env G φ H s _ _ hr F R O w λv l X c t z a B D I=>?_;refine Ip<|bm<|Hf hm λu tk=>bm ?_;haveI d:aZ W c l ({t with toks:=tk}:bG).heap:=a;refine sQ X λy P b1 b2 hK=>?_;clear X;subst P;exact aFp d I b1 b2 D<|(k _ _ hK).c a B
theorem aFY(hm:HA m=true)(h1:bJ W C n cx e x):bJ W C n cx (.L e) (.Subscript x (.Slice (J m) aA aA q) p):=λA Eh env G φ H s K Q hr F R O w k=>by refine Dl<|h1 A Eh env G φ H s _ _ hr F R O w λv l X c t z a B D I=>?_;refine Ip<|aFV hm λu tk=>bm<|bm ?_;haveI d:aZ W c l ({t with toks:=tk}:bG).heap:=a;refine sQ X λy P b1 b2 hK=>?_;clear X;subst P;exact aFq d I b1 b2 D<|(k _ _ hK).c a B
theorem aFZ(h1:bJ W C n cx e x)(h2:bJ W C n cx i m):bJ W C n cx (.S e i) (.Subscript x (.Slice aA (J m) aA q) p):=λA Eh env G φ H s K Q hr F R O w k=>by refine Dl<|h1 A Eh env G φ H s _ _ hr F R O w λv B hv t D z a c I P=>?_;refine Ip<|bm<|h2 A Eh env G t B D _ _ hr (F.d R c) a P hv λkk i6 hk mV jO mW d l X dp=>bm ?_;clear hv w;obtain⟨vs,i,e1,rfl,b0,b1,hK⟩:=hk;exact aFt d dp e1 b0 (l.d a I) X<|(k _ _ hK).c d<|b_.c a c l
theorem aF0(ho:xa oo=J o)(h1:bJ W C n cx e x)(h2:bJ W C n cx i y):bJ W C n cx (.s o e i) (.BinOp x oo y p):=λA Eh env G φ H s K Q hr F R O w k=>by
 rw [HX ho];refine Iq<|h1 A Eh env G φ H s _ _ hr F R O w λv I hv D P z a d q X=>?_;refine h2 A Eh env G D I P _ _ hr (F.d R d) a X hv λkk i6 hk mV jO mW c m t B=>?_;have rv:=m.d a q;refine aU (Ny hk) ?_ ?_;·intro qz;clear hk q hv w ho;obtain⟨l,r,xs,ys,rfl,rfl,rfl,e1,e2,hb,hK⟩:=qz;exact aFf c B e1 e2 hb rv t<|(k _ _ hK).c c<|b_.c a d m
 intro qz;refine aG qz λu e1 hK=>Qg e1 rv t λKF tk wX=>((k _ _ hK).c c<|b_.c a d m).a c B tk wX
theorem aF1(I:bJ W C n P e x):bJ W C n P (.C e) (.UnaryOp .USub x p):=λA X env G φ H s K Q hr F R O w k=>by refine Io<|I A X env G φ H s _ _ hr F R O w λv B hv q D z a d l m=>?_;refine aG hv λi c hK=>?_;subst c;refine oE l λt c=>?_;subst c;exact neg_int<|((k _ _ hK).c a d).a a m _ ⟨_,rfl⟩
theorem aF2(I:bJ W C n P e x):bJ W C n P (.U e) (.UnaryOp .Invert x p):=λA X env G φ H s K Q hr F R O w k=>by refine Io<|I A X env G φ H s _ _ hr F R O w λv B hv m D z a c d l=>?_;refine aG hv λi q hK=>?_;subst q;obtain⟨t,rfl⟩:=d;exact invert_int<|((k _ _ hK).c a c).a a l _ ⟨_,rfl⟩
theorem aF3(B:bJ W C n D e x):bJ W C n D (.B e) (.UnaryOp .Not x p):=λA I env G P H s K Q X F R O w k=>by refine Io<|B A I env G P H s _ _ X F R O w λv q hv m t z a c d l=>?_;refine aG hv λb e1 hK=>not_of (Cv a e1 d λtk=>((k _ _ hK).c a c).a a l _ rfl)
theorem xm(h:kZ y=true):behindInMarks o y=false:=by cases y<;>first|rfl|exact nt h
theorem aF4(ho:Ce oo=J o)(hs:kZ y=true)(h1:bJ W C n cx e x)(h2:bJ W C n cx i y):bJ W C n cx (.w o e i) (.Compare x [oo] [y] p):=λA Eh env G φ H s K Q hr F R O w k=>by rw [Qf ho];refine Sn (h1 A Eh env G φ H s _ _ hr F R O w λv q hv m B z a d D I=>?_)<|xm hs;refine h2 A Eh env G m q B _ _ hr (F.d R d) a I hv λkk i6 hk mV jO mW c l P X=>aG hk λt e1 hK=>Q6 c e1 (by haveI:=hr.2.2;exact(dg nT Z [.t (.a (.a Y<|.m 20 aB)<|.n 215) Z] U this)) (l.d a D) P λtk=>((k _ _ hK).c c<|b_.c a d l).a c X _ rfl
theorem DB(r:aT h e v z):(z==.none)=aJ (v=.o):=by
 induction v with
 |o=>rw [r];rfl|n b=>rw [r];rfl|d i=>refine oE r λt c=>?_;rw [c];rfl|k u=>refine oE r λt c=>?_;rw [c];rfl|j l=>refine aG r λp _ d=>?_;rw [d];rfl|A a=>rw [r.1];rfl|w=>refine cV r λa n d _=>?_;rw [d];rfl|r y t=>clear t_ih h_ih;obtain⟨a,n,z,m,rfl,_⟩:=r;rfl
theorem DC(h:tL y=true)(k:Q .none s):aq (bL W.i W.w) A (gC y env) Q d s:=by refine cp (zm h) λc _ _ a h=>?_;rw [a];rw [aFU<|of_decide_eq_true h];exact aIE k
theorem DG(h:tL y=true):kZ y=true:=by refine cp (zm h) λc _ _ a h=>?_;rw [a];rfl
theorem Qt(h:Q (.bool<|!(v==.none)) s):aq (bL W.i W.w) A (nI .IsNot v .none) Q a s:=by refine(?_:aq _ A (do return .bool<|!(<-isSame v .none)) Q a s);rw [isSame_none];exact bC<|bm<|bm h
theorem aF5(t:tL y=true)(D:bJ W C n I e x):bJ W C n I (.D e) (.Compare x [.Is] [y] p):=λA P env G X H s K Q hr F R O w k=>by refine Sn (D A P env G X H s _ _ hr F R O w λv B hv q c z a d l m=>DC t ?_)<|xm<|DG t;refine is_none ?_;rw [DB l];exact((k _ _ hv).c a d).a a m c.toks rfl
theorem aF6(t:tL y=true)(D:bJ W C n I e x):bJ W C n I (.M e) (.Compare x [.IsNot] [y] p):=λA P env G X H s K Q hr F R O w k=>by refine Sn (D A P env G X H s _ _ hr F R O w λv B hv q c z a d l m=>DC t ?_)<|xm<|DG t;refine Qt ?_;rw [DB l];exact((k _ _ hv).c a d).a a m c.toks rfl
theorem aF7(h1:bJ W C n P e x)(h2:bJ W C n P f<|.BoolOp .And (y::r) p):bJ W C n P (.H e f) (.BoolOp .And (x::y::r) p):=λA X env G φ H s K Q hr F R O w k=>by
 refine BoolOp_and<|h1 A X env G φ H s _ _ hr F R O w λv q D m B z a c d l=>?_;refine aG D λt e1 D=>Cv a e1 d λtk=>?_;clear e1;induction t with
 |true=>exact h2 A X env G m q _ _ _ hr (F.d R c) a l D λv' H' I=>(k v' H' I).c (eE:={B with toks:=tk}) a c|false=>exact((k _ _ D).c a c).a a l tk d
theorem aF8(h1:bJ W C n P e x)(h2:bJ W C n P f<|.BoolOp .Or (y::r) p):bJ W C n P (.N e f) (.BoolOp .Or (x::y::r) p):=λA X env G φ H s K Q hr F R O w k=>by
 refine BoolOp_or<|h1 A X env G φ H s _ _ hr F R O w λv q D m B z a c d l=>?_;refine aG D λt e1 D=>Cv a e1 d λtk=>?_;clear e1;induction t with
 |false=>exact h2 A X env G m q _ _ _ hr (F.d R c) a l D λv' H' I=>(k v' H' I).c (eE:={B with toks:=tk}) a c|true=>exact((k _ _ D).c a c).a a l tk d
theorem aF9(h0:f_ W C n D c q)(h1:bJ W C n D e x)(h2:bJ W C n D f y):bJ W C n D (.F c e f) (.IfExp q x y p):=λA I env G φ H s K Q P F R O w k=>by
 refine IfExp_<|h0 A I env G φ H s _ _ P F R O w λv m hv l t a d z=>?_;induction v with
 |true=>exact h1 A I env G l m t _ _ P (F.d R d) a z hv λX H' B=>(k X H' B).c a d|false=>exact h2 A I env G l m t _ _ P (F.d R d) a z hv λX H' B=>(k X H' B).c a d
theorem aGa:pX W C n c .nil []:=λA d env G a H s l Q e F R O w k=>So<|k [] H rfl w a s [] R (b_.u _ _) rfl O
theorem aGb(hs:fI x=true)(h1:bJ W C n cx e x)(h2:pX W C n cx es l):pX W C n cx (.cons e es) (x::l):=λA Eh env G φ H s K Q hr F R O w k=>by rw [tT hs];refine AX<|h1 A Eh env G φ H s _ _ hr F R O w λv q hv m t z a c B D=>?_;refine h2 A Eh env G m q t _ _ hr (F.d R c) a D hv λvs i6 hl hk p I zs P d X dp=>k _ _ (by simp [hl]) hk p I _ P (b_.c a c d) ⟨z,zs,rfl,d.d a B,X⟩ dp
theorem Qu{A:nG}{Eh:aQ->bG->Prop}(R:aZ W a H s.heap)(O:Ok W s)(r:ca s.heap a d c)(k:dw W a s H (V.m d) Q):
  Q (.ref s.heap.objs.size) {s with heap:=s.heap.push {cls:=.type "tuple",data:=.seq c.toArray}}:=by
 haveI M:=R.u (h':=s.heap.push {cls:=.type "tuple",data:=.seq c.toArray}) λb o g=>iA _ g;exact k a _ _ M.1 M.2 (Cy.mpr ⟨_,0,c,rfl,oY _ rfl,M.2.s R r⟩) O
theorem aGc(B:kA t es l=true)(D:l.length<1000)(I:pX W C n t es l):bJ W C n t (.r es) (.Tuple l kk p):=λA v env G P H s K Q X F R O w k=>by
 refine aIH ?_;rw [tU<|pY es l B];refine I A v env G P H s _ _ X F R O w λvs x d hv q z zs a e c m=>⟨by haveI:=c.c;rw [kI];exact(cY<|cY (yi this d) D),?_⟩
 exact Qu (A:=A) (Eh:=v) a m c<|(k _ _ hv).c a e
theorem aGd(z:kA v es l=true)(B:l.length<1000)(D:pX W C n v es l):bJ W C n v (.u es) (.List l p):=λA I env G P H s K Q X F R O w k=>by
 refine wpAny_List ?_;rw [tU<|pY es l z];refine D A I env G P H s _ _ X F R O w λvs x d hv t e zs a m c q=>⟨by haveI:=c.c;rw [kI];exact(cY<|cY (yi this d) B),?_⟩
 exact((k _ _ hv).c a m).d a q e.toks c
theorem aGe:bJ W C n d (.A c) (.Dict [] [] p):=λA e env G l H s q Q m F R O w k=>by
 refine wpAny_Dict_empty ?_;haveI a:∀b o,s.heap.get? b=J o->(s.heap.push {cls:=.type "dict",data:=.dict #[]}).get? b=J o:=λb o g=>iA _ g;haveI fr:=qT s.heap;induction c with
 |i=>have M:=R.aa (p:=(s.heap.objs.size,s.heap.objs.size)) (o:=.d []) a fr fr R.K ⟨rfl,[],Heap.DictOf.new s.heap,rfl⟩;exact k _ _ w _ _ _ M.1 M.2 (R.G _ _ _) O|t=>have M:=R.aa (p:=(s.heap.objs.size,s.heap.objs.size)) (o:=.e []) a fr fr R.K ⟨rfl,[],Heap.DictOfH.new s.heap,rfl⟩;exact k _ _ w _ _ _ M.1 M.2 (R.G _ _ _) O
theorem aGf(hc:kA I es l=true)(hl:l.length<1000)(h1:pX W C n I es l)(h2:bJ W C n I i y):bJ W C n I (.W es i) (.BinOp (.List l p) .Mult y q):=λA Eh env G φ H s K Q hr F R O w k=>by
 refine Iq<|wpAny_List ?_;rw [tU<|pY es l hc];refine h1 A Eh env G φ H s _ _ hr F R O w λvs kL v hv P c zs a x e z=>⟨by haveI:=e.c;rw [kI];exact(cY<|cY (yi this v) hl),?_⟩
 have M:=a.ac (h':=c.heap.push {cls:=.type "list",data:=.seq zs.toArray}) (n:=0) (λb o g=>iA _ g) (qT _) a.K (oY _ rfl) e;haveI d:=b_.c a x M.2;refine h2 A Eh env G _ _ {c with heap:=c.heap.push {cls:=.type "list",data:=.seq zs.toArray}} _ _ hr (F.d R d) M.1 z hv λkk i6 hk X jO mW m t B D=>yl hk λj bT b0 b1 b2 hg hK=>?_;clear hk;subst bT;exact aFz m D hg b0 b1 b2 (t.d M.1<|a.G _ _ _) B<|(k _ _ hK).c m<|b_.c M.1 d t
theorem aGg(hc:kA cx es l=true)(hl:l.length<1000)(h1:pX W C n cx es l)(h2:bJ W C n cx i y):bJ W C n cx (.X es i) (.BinOp (.Tuple l kk p) .Mult y q):=λA P env G φ H s K Q hr F R O w k=>by
 refine Iq<|aIH ?_;rw [tU<|pY es l hc];refine h1 A P env G φ H s _ _ hr F R O w λvs X m hv iB eE zs t oh d f9=>⟨by haveI:=d.c;rw [kI];exact(cY<|cY (yi this m) hl),?_⟩
 refine Qu (A:=A) (Eh:=P) (Q:=λz a=>aq (bL W.i W.w) A (gC y env) (λb v=>aq (bL W.i W.w) A (Df Operator.Mult z b) Q P v) P a) t f9 d λe a z c D rz I=>?_;haveI S:=b_.c t oh D;refine h2 A P env G e X a _ _ hr (F.d R S) c I hv λkk i6 hk mV v mW x B kN dp=>?_;clear d hv m w;obtain⟨rfl,hK⟩:=hk;exact aFA x dp (B.d c rz) kN<|(k _ _ hK).c x<|b_.c c S B
end
set_option backward.match.sparseCases false
set_option backward.match.sparseCases true in
theorem Qv{Q E:aQ->bG->Prop}(h:yD M A c (λr a=>match r with|.ok (.ret z)=>Q z a|_=>False) s):
  yD M A c (λr a=>match r with|.ok (.ret v)=>Q v a|.ok _=>False|.error e=>E e a) s:=
 Hv h λr a z=>by rcases r with e|(v|_|_|_)<;>first|exact z|exact z.elim
section
theorem aGh(W:Wd)(h:pU (Cf f) x=true):∃a,A3 (tV f=J a) (qX W.K kC x=J (J<|.ref a)) (Dk W.K (.ref a)=true):=by
 unfold Cf at h;induction q:tO[f]? with
 |none=>rw [q]at h;exact ft h|some p=>
  rw [q]at h;obtain⟨a,o,l⟩:=p;induction o with
  |none=>exact ft h|some y=>haveI c:y=x:=beq_iff_eq.mp h;rw [<-c];haveI d:=eI.mp W.k.2.2.2.2.2.2.1 _<|dU q;haveI e:=eI.mp W.k.2.2.2.2.2.2.2 _<|dU q;refine⟨a,by unfold tV;rw [q];rfl,?_,d⟩;refine fj (Om e) λ_ _ _ _ _ g=>of_decide_eq_true g.r
theorem aGi(CS:hW W C n)(hf:pU (Cf f) x=true)(hg:D.f x=true)(P:kA D es l=true)(h1:pX W C n D es l):bJ W C n D (.j f es) (.Call (.Name x p) l [] q):=λA Eh env G φ H s K Q X F R O w k=>by
 refine sR (aGh W hf) λa ha I hk=>Sp (tU<|pY es l P) (DA hg F R I ?_);refine He hk (pY es l P)<|h1 A Eh env G φ H s _ _ X F R O w λvs e eQ hv d m zs c t z B=>⟨W.l c,?_⟩
 exact Hu<|Qv<|CS f vs e K a hv ha A m d zs Q X.a c B z λv H' hK=>(k v H' hK).c c t
theorem aGj(CS:hW W C n)(hb:oP x=true)(hl:(ap.endLine==p.line)=true)(aLZ:l.length<29)(hm:pU gU[m]? nm=true)(hc:kA cx es l=true)
  (h0:bJ W C n cx e x) (h1:pX W C n cx es l):bJ W C n cx (.G e m es) (.Call (.Attribute x nm ap) l [] p):=λA Eh env G φ H s K Q hr F R O w k=>by
 have ea:gU[m]?=J nm:=by
  induction q:gU[m]? with
  |none=>rw [q]at hm;exact ft hm|some y=>rw [q]at hm;rw [beq_iff_eq.mp hm]
 refine aFR hb (pY es l hc) aLZ hl<|h0 A Eh env G φ H s _ _ hr F R O w λv kL hv iB eE z t X o7 f9 pl=>?_;refine Ex hv λl' c fs f iM hH U' hf hv=>?_;subst iM;refine Ew (t.ae hH o7) λx d ds n' iM ep I g2 rf nd dk=>?_;subst iM;obtain⟨q,hq,rfl⟩:∃q,Co.find? (λp=>p.1==c&&p.2.1==m)=J q/\q.2.2=f:=kF.mp hf;have P:=vr hq;simp only [iV,beq_iff_eq]at P;haveI mo:=eI.mp W.k.2.2.1 _<|oX hq;haveI mo:=bi.mp (show(_&&_)=true from mo);refine on mo λVA B=>?_;rw [P.1,P.2,ea]at B;rw [P.1]at VA;induction uL:tV q.2.2 with
 |none=>rw [uL]at B;exact ft B|some a=>
  rw [uL]at B;simp only [iV,decide_eq_true_eq]at B;refine on B λcG m3=>?_;obtain⟨m1,m2⟩:=cG;refine qo (HY W VA) λc1 c2 c3 c4=>?_;haveI hgl:Di nm ds=J none:=by
   refine aU (rf.i fs ea) ?_ ?_;·refine λqz=>on qz λp1 p2=>p2
   intro qz;obtain⟨v,y,p1,_⟩:=qz;rw [p1]at U';exact iC U'
  refine method_fn (W.l t) I (Sj c1).1 (Sj c1).2 m1 (beq_iff_eq.mp m2) (by refine(?_:(lookIn nm<|Dj ds n').map _=_);rw [lookIn_dict,hgl];rfl) ?_;refine He m3 (pY es l hc)<|h1 A Eh env G iB kL eE _ _ hr (F.d R X) t f9 hv λvs i6 eQ hv mV jO zs D qg kN dp=>⟨W.l D,?_⟩
  exact Hu<|Qv<|CS _ _ i6 K a hv uL A jO mV _ Q hr.a D dp ⟨_,_,rfl,qg.d t o7,kN⟩ λv H' hK=>(k v H' hK).c D<|b_.c t X qg
theorem aGk(CS:hW W C n)(X:pU (Gq c) x=true)(hg:cx.f x=true)(hc:kA cx es l=true)(h1:pX W C n cx es l):bJ W C n cx (.J c es) (.Call (.Name x p) l [] q):=λA Eh env G φ H s K Q hr F R O w k=>by
 unfold Gq at X
 induction hq:qS.find? λp=>p.1==c with
 |none=>rw [hq]at X;exact ft X
 |some cl=>
  rw [hq]at X
  haveI hx:cl.2.1=x:=beq_iff_eq.mp X
  haveI B:=vr hq
  simp only [beq_iff_eq]at B
  haveI co:=eI.mp W.k.1 _<|oX hq
  simp only [DH,iV,decide_eq_true_eq]at co
  refine on co λcG D=>?_;obtain⟨⟨⟨⟨⟨⟨g1,g2⟩,g3⟩,g4⟩,g5⟩,g6⟩,g7⟩:=cG
  rw [B]at g1 g2 g3 D
  rw [hx]at g1
  induction I:tV cl.2.2 with
  |none=>rw [I]at D;exact ft D
  |some a=>
   rw [I]at D
   simp only [iV,decide_eq_true_eq]at D
   refine Sp (tU<|pY es l hc)<|DA hg F R g1 ?_
   refine He g3 (pY es l hc)<|h1 A Eh env G φ H s _ _ hr F R O w λvs t eQ hv iB eE zs d oh o7 f9=>⟨W.l d,?_⟩
   refine aG hv λf P hv=>?_
   haveI JM:f=cl.2.2:=by
    have:bW.c c=J cl.2.2:=by refine(?_:(qS.find? λp=>p.1==c).map (·.2.2)=_);rw [hq];rfl
    rw [this]at P;exact(ao P).symm
   clear P g4 g5 g6 g7 co B hx X hq;subst JM
   obtain⟨m,g,dr,tk,os⟩:=eE
   refine Hu<|
     make_core (makes_of (W.l d) g2) (looks_findIn (W.l d) D.1) (λaL1=>bind_fn (W.l d) aL1<|beq_iff_eq.mp D.2) (.inl rfl) ?_
   haveI kp:∀b o,m.get? b=J o->((m.push Ir).push<|AW c m.objs.size).get? b=J o:=λb o g=>iA _<|iA _ g
   haveI sz:(m.push Ir).objs.size=m.objs.size+1:=IT ..
   haveI big:=d.K
   have M:=d.aa (h':=(m.push Ir).push<|AW c m.objs.size) (p:=(m.objs.size+1,m.objs.size)) (o:=.b c []) kp (DX<|vo _) (qT m) (x_ big)
    ⟨by rw [<-sz];exact oY _ rfl,fU,rfl,[],0,iA _<|oY _ rfl,rfl⟩
   haveI rr:H0 (A.under (.builtin "type.__call__" ⟨.ref c::([]++zs),[]⟩)) n:=⟨hr.1,by
    have:(A.under<|.builtin "type.__call__" ⟨.ref c::([]++zs),[]⟩).depth=A.depth+1:=rfl
    rw [this];haveI:=hr.2.1;exact(dg (.a (.a aR<|.m 2 Z) dB) aB [.t (.a (.a Y<|.m 2 Z) bq) aB] U this),by
    have:(A.under<|.builtin "type.__call__" ⟨.ref c::([]++zs),[]⟩).units=A.units+1:=rfl
    rw [this];haveI:=hr.2.2;exact(dg (.a (.a aR (.m 20 Z)) (.n 200)) aB [.t (.a (.a Y (.m 20 Z)) (.n 215)) aB] U this)⟩
   haveI:=CS _ (.j t.length::vs) (t++[.b c []]) (λr h'=>r=.o/\K (.j t.length) h') a hv I _ ⟨(m.push Ir).push<|AW c m.objs.size,g,dr,tk,os⟩ _ (.ref (m.objs.size+1)::zs)
    (λv s'=>v=.none/\Q (.ref<|m.objs.size+1) s') rr M.1 f9 ⟨_,_,rfl,d.G _ _ _,M.2.s d o7⟩ λv H' hK=>?_
   ·refine Hv this λr s' z=>?_
    rcases r with e|(v|_|_|_)<;>first|exact z.elim|skip
    exact⟨z.1,z.2⟩
   ·clear hv w;obtain⟨rfl,hK⟩:=hK
    intro cD s' z R' S' r' O'
    refine⟨r',(k _ _ hK) cD s' _ R' (b_.c d oh<|b_.c M.1 M.2 S') ?_ O'⟩
    exact S'.d M.1<|d.G _ _ _
end
set_option backward.match.sparseCases true
section
theorem xn(h:fI z=true):rZ [z] env=[(false,gC z env)]:=by rw [tT h];rfl
theorem Qw(h:fI y=true)(a:fI z=true):rZ [y,z] env=[(false,gC y env),(false,gC z env)]:=by rw [tT h,tT a];rfl
theorem aGl(hb:oP x=true)(hl:(ap.endLine==p.line)=true)(hn:(nm==("append":ac))=true)(hz:fI z=true)(h0:bJ W C n cx e x)(h1:bJ W C n cx y z):bJ W C n cx (.y e y) (.Call (.Attribute x nm ap) [z] [] p):=λA Eh env G φ H s K Q hr F R O w k=>by rw [beq_iff_eq.mp hn];refine Call_method1 (AC hb _ _ _) (xn hz) hl<|h0 A Eh env G φ H s _ _ hr F R O w λv D hv B I y0 c d m X=>?_;clear w h0;obtain⟨l,aNw,rfl,hH,hv⟩:=hv;refine iH (c.t hH m) λa xs bM ep iM rl=>?_;subst bM;obtain⟨n',g⟩:=iM;refine⟨"list","list.append",aII,aHD,PySem.F.type_list_append,⟨_,g,rfl⟩,(λb eb=>by(injection eb with eb;clear ep;subst eb);exact⟨_,g,rfl⟩),?_⟩;refine P.append_list<|h1 A Eh env G B D I _ _ hr (F.d R d) c X hv λy' i6 hk mV jO mW q t kN dp=>?_;refine hJ hk λvs e2 hb hK=>Qb q dp e2 hb (t.d c m) kN ((k _ _ hK).c q<|b_.c c d t)
theorem aGm(t:oP x=true)(hl:(ap.endLine==p.line)=true)(hn:(nm==("pop":ac))=true)(h0:bJ W C n cx e x):bJ W C n cx (.Y e) (.Call (.Attribute x nm ap) [] [] p):=λA Eh env G φ H s K Q hr F R O w k=>by rw [beq_iff_eq.mp hn];refine Call_method0 (AC t _ _ _) hl<|h0 A Eh env G φ H s _ _ hr F R O w λv P hv z X y0 c m d q=>?_;obtain⟨l,vs,y,rfl,hH,t,hK⟩:=hv;refine iH (c.t hH d) λa xs B ep D rl=>?_;subst B;obtain⟨n',g⟩:=D;refine⟨"list","list.pop",aII,PySem.F.slot_list_pop,PySem.F.type_list_pop,⟨_,g,rfl⟩,(λb I=>by(injection I with I;subst I);exact⟨_,g,rfl⟩),?_⟩;exact aFg c q hH t d<|(k _ _ hK).c c m
theorem aGn(hb:oP x=true)(hl:(ap.endLine==p.line)=true)(hn:(nm==("get":ac))=true)(hy:fI y=true)(hz:fI z=true)(h0:bJ W C n cx e x)(h1:bJ W C n cx i y)(h2:bJ W C n cx d z):
  bJ W C n cx (.P e i d) (.Call (.Attribute x nm ap) [y,z] [] p):=λA Eh env G φ H s K Q hr F R O w k=>by
 rw [beq_iff_eq.mp hn];refine Call_method2 (AC hb _ _ _) (Qw hy hz) hl<|h0 A Eh env G φ H s _ _ hr F R O w λv X hv D eE y0 a m q f9=>?_;refine aG hv λdk e1 hv=>aFk a e1 (by haveI:=hr.2.2;exact(dg nT Z [.t (.a (.a Y<|.m 20 aB)<|.n 215) Z] U this)) q<|h1 A Eh env G D X eE _ _ hr (F.d R m) a f9 hv λkv i6 hk I jO mW c t kN dp=>?_;haveI wV:=b_.c a m t;refine h2 A Eh env G I i6 jO _ _ hr (F.d R wV) c dp hk λdv wW hd P oe KF B l wX og=>ja hd λe2 y' e3 hK=>⟨P,wW,kv,dv,y',B,og,l.d c<|t.d a q,l.d c kN,wX,e2,e3,(k _ _ hK).c B<|b_.c c wV l⟩
theorem aGo(X:(x==("len":ac))=true)(hy:fI y=true)(z:B.f x=true)(h0:bJ W C n B e y):bJ W C n B (.z e) (.Call (.Name x p) [y] [] q):=λA Eh env G φ H s K Q hr F R O w k=>by rw [beq_iff_eq.mp X]at z⊢;refine Dm (xn hy)<|vZ (v:=.builtin "len") z F R (by decide) (by kernel_rfl) ?_;refine callWith_builtin1<|h0 A Eh env G φ H s _ _ hr F R O w λv D hv t I P a c d l=>?_;refine hJ hv λm e1 hm hK=>aFa a l e1 hm d ((k _ _ hK).c a c)
theorem aGp(P:(x==("tuple":ac))=true)(X:fI y=true)(t:z.f x=true)(h0:bJ W C n z e y):bJ W C n z (.Q e) (.Call (.Name x p) [y] [] q):=λA Eh env G φ H s K Q hr F R O w k=>by rw [beq_iff_eq.mp P]at t⊢;refine Dm (xn X)<|vZ (v:=.type "tuple") t F R (by decide) (by kernel_rfl) ?_;refine Iu<|h0 A Eh env G φ H s _ _ hr F R O w λv B hv m D I a c d l=>?_;refine aG hv λvs e1 hK=>aFb a l e1 d ((k _ _ hK).c a c)
theorem aGq(P:(x==("list":ac))=true)(X:fI y=true)(t:z.f x=true)(h0:bJ W C n z e y):bJ W C n z (.T e) (.Call (.Name x p) [y] [] q):=λA Eh env G φ H s K Q hr F R O w k=>by rw [beq_iff_eq.mp P]at t⊢;refine Dm (xn X)<|vZ (v:=.type "list") t F R (by decide) (by kernel_rfl) ?_;refine Iu<|h0 A Eh env G φ H s _ _ hr F R O w λv B hv m D I a c d l=>?_;refine aG hv λvs e1 hK=>aFc a l e1 d ((k _ _ hK).c a c)
theorem aGr(hx:(x==("str":ac))=true)(hy:fI y=true)(z:B.f x=true)(h0:bJ W C n B e y):bJ W C n B (.Z e) (.Call (.Name x p) [y] [] q):=λA Eh env G φ H s K Q hr F R O w k=>by rw [beq_iff_eq.mp hx]at z⊢;refine Dm (xn hy)<|vZ (v:=.type "str") z F R (by decide) (by kernel_rfl) ?_;refine Iu<|h0 A Eh env G φ H s _ _ hr F R O w λv D I m P X a c d l=>?_;refine sQ I λi t b0 b1 hK=>?_;clear I;subst t;exact aFe a l b0 b1 d<|(k _ _ hK).c a c
theorem xl.c(k:xl W d s H b Q)(R:aZ W d H s.heap)(O:Ok W s)(e:jo):Q b {s with toks:=e}:=k d {s with toks:=e} R (b_.u _ _) O
theorem aGs(c:f_ W C n d e x):f_ W C n d (.B e) (.UnaryOp .Not x p):=λA l env G m H s z Q q F R O w k=>isTrue_not (c A l env G m H s _ _ q F R O w λv a t=>k _ _ t)
theorem aGt(X:f_ W C n B e x)(h2:f_ W C n B f<|.BoolOp .And l p):f_ W C n B (.H e f) (.BoolOp .And (x::l) p):=λA D env G φ H s K Q I F R O w k=>by
 refine isTrue_and<|X A D env G φ H s _ _ I F R O w λv t P a m c d q=>?_;induction v with
 |true=>haveI:=h2 A D env G a t m _ Q I (F.d R d) c q P λv' H' z=>(k v' H' z).a c d;exact this|false=>exact k _ _ P a m c d q
theorem aGu(X:f_ W C n B e x)(h2:f_ W C n B f<|.BoolOp .Or l p):f_ W C n B (.N e f) (.BoolOp .Or (x::l) p):=λA D env G φ H s K Q I F R O w k=>by
 refine isTrue_or<|X A D env G φ H s _ _ I F R O w λv t P a m c d q=>?_;induction v with
 |false=>haveI:=h2 A D env G a t m _ Q I (F.d R d) c q P λv' H' z=>(k v' H' z).a c d;exact this|true=>exact k _ _ P a m c d q
theorem aGv(z:f_ W C n B e x):f_ W C n B e (.BoolOp .And [x] p):=λA D env G I H s X Q P F R O w k=>by
 refine isTrue_and<|z A D env G I H s _ _ P F R O w λv q t a c d l m=>?_;induction v with
 |true=>exact isTrue_and_nil<|k _ _ t a c d l m|false=>exact k _ _ t a c d l m
theorem aGw(z:f_ W C n B e x):f_ W C n B e (.BoolOp .Or [x] p):=λA D env G I H s X Q P F R O w k=>by
 refine isTrue_or<|z A D env G I H s _ _ P F R O w λv q t a c d l m=>?_;induction v with
 |false=>exact isTrue_or_nil<|k _ _ t a c d l m|true=>exact k _ _ t a c d l m
theorem aGx(h0:f_ W C n D c q)(h1:f_ W C n D e x)(h2:f_ W C n D f y):f_ W C n D (.F c e f) (.IfExp q x y p):=λA I env G φ H s K Q P F R O w k=>by
 refine isTrue_IfExp<|h0 A I env G φ H s _ _ P F R O w λv m hv l t a d z=>?_;induction v with
 |true=>exact h1 A I env G l m t _ _ P (F.d R d) a z hv λX H' B=>(k X H' B).a a d|false=>exact h2 A I env G l m t _ _ P (F.d R d) a z hv λX H' B=>(k X H' B).a a d
theorem aGy(ho:Ce oo=J o)(hs:kZ y=true)(h1:bJ W C n cx e x)(h2:bJ W C n cx i y):f_ W C n cx (.w o e i) (.Compare x [oo] [y] p):=λA Eh env G φ H s K Q hr F R O w k=>by rw [Qf ho];refine Sq (h1 A Eh env G φ H s _ _ hr F R O w λv q hv m B z a d D I=>?_)<|xm hs;refine h2 A Eh env G m q B _ _ hr (F.d R d) a I hv λkk i6 hk mV jO mW c l P X=>aG hk λt e1 hK=>Q6 c e1 (by haveI:=hr.2.2;exact(dg nT Z [.t (.a (.a Y<|.m 20 aB)<|.n 215) Z] U this)) (l.d a D) P λtk=>Il<|((k _ _ hK).a c<|b_.c a d l).c c X tk
theorem aGz(t:tL y=true)(D:bJ W C n I e x):f_ W C n I (.D e) (.Compare x [.Is] [y] p):=λA P env G X H s K Q hr F R O w k=>by refine Sq (D A P env G X H s _ _ hr F R O w λv B hv q c z a d l m=>DC t ?_)<|xm<|DG t;refine is_none ?_;rw [DB l];exact Il<|((k _ _ hv).a a d).c a m c.toks
theorem aGA(t:tL y=true)(D:bJ W C n I e x):f_ W C n I (.M e) (.Compare x [.IsNot] [y] p):=λA P env G X H s K Q hr F R O w k=>by refine Sq (D A P env G X H s _ _ hr F R O w λv B hv q c z a d l m=>DC t ?_)<|xm<|DG t;refine Qt ?_;rw [DB l];exact Il<|((k _ _ hv).a a d).c a m c.toks
theorem Hg{φ:dR}(m:∀a,AS x env a=(do let v<-a;SC x.pos;holding [v]<|truthy v))
  (h:aq (bL W.i W.w) A (gC x env) (λz d=>X4 λc l v b=>A4 (aZ W c l d.heap) (aT d.heap c v z) (oL l v=J b) (∀n,Q b {d with toks:=n})) p s):aq (bL W.i W.w) A (AS x env<|gC x env) Q p s:=
 isTrue_plain (iw h (λz d ⟨c,l,v,b,R,r,e,q⟩=>Cv R e r q) λ_ _ e=>e) (m _)
theorem aGB(h:bJ W C n cx (.g i)<|.Name x p):f_ W C n cx (.g i) (.Name x p):=λA Eh env G D H s K Q hr F R O w k=>by refine Ko w λv e b e2 hK=>Hg (φ:=D) (λ_=>rfl) (h A Eh env G D H s (λI P=>I=v/\P=H) _ hr F R O ⟨v,e,rfl,rfl⟩ λI P q c X z a d l m=>?_);haveI t:=q.1;haveI B:=q.2;clear q e;subst t;clear w R;subst B;exact⟨c,_,_,b,a,l,e2,λtk=>((k _ _ hK).a a d).c a m tk⟩
theorem aGC(ho:xa oo=J o)(h1:bJ W C n cx e x)(h2:bJ W C n cx i y):f_ W C n cx (.s o e i) (.BinOp x oo y p):=λA Eh env G φ H s K Q hr F R O w k=>by rw [HX ho];refine Hg (φ:=φ) (λ_=>rfl)<|Iq<|h1 A Eh env G φ H s _ _ hr F R O w λv t hv m B z a d D I=>?_;refine h2 A Eh env G m t B _ _ hr (F.d R d) a I hv λkk P hk q jO mW c l X dp=>Ko hk λu e1 b e2 hK=>Qg e1 (l.d a D) X λKF tk wX=>⟨q,P,u,b,c,wX,e2,λtk'=>((k _ _ hK).a c<|b_.c a d l).c c dp tk'⟩
theorem aGD(h:bJ W C n I (.j f es)<|.Call (.Name x p) l [] q):f_ W C n I (.j f es) (.Call (.Name x p) l [] q):=λA P env G B H s K Q X F R O w k=>by refine Hg (φ:=B) (λ_=>rfl)<|h A P env G B H s (λv t=>∃b,oL t v=J b/\K b t) _ X F R O w λv' t hv c D z a d e m=>?_;refine aG hv λb e2 hK=>⟨c,_,_,b,a,e,e2,λtk=>((k _ _ hK).a a d).c a m tk⟩
end
def gz(h:e_)(m:dR)(e:cO)(d:List V)(g:Option Nat)(i:Nat):Prop:=
 match g with
 |some l=>∃p,m[l]?=J p/\h.IsListIter e p.1 i|none=>(X3 λt n q=>A3 (h.IsTupleIter e t i) (h.get? t=J (mJ q n))<|ca h m d q)\/
  (X2 λ(x:List Nat)(t:jo)=>A2 (d=x.map (λc=>V.k [c]))<|h.IsStrIter e "str_ascii_iterator" ⟨x.toArray⟩ t i\/h.IsStrIter e "str_iterator" ⟨x.toArray⟩ t i)\/
  (X2 λ(a c:Int)=>A3 (∀j:Nat,j<d.length->d[j]?=J (.d<|a+(j:Int)*c)) (i<=d.length)<|IsRangeIter h e (a+(i:Int)*c) ((d.length:Int)-(i:Int)) c)
section
theorem gz.b(I:gz h m e q g i):∃o,h.get? e=J o/\∃l,o.data=.fields l:=by
 unfold gz at I;split at I;·obtain⟨p,_,o,g,_,d⟩:=I;exact yw o g _ d
 rcases I with⟨t,n,v,⟨o,g,_,d⟩,_⟩|⟨x,t,_,⟨o,g,_,d⟩|⟨o,g,_,d⟩⟩|⟨a,c,_,_,g⟩;·exact yw o g _ d
 ·exact yw o g _ d
 ·exact yw o g _ d
 exact yw _ g _ rfl
theorem gz.f(I:gz h q d v g i)(k:∀o,h.get? d=J o->m.get? d=J o) (T:iU h m) (P:q<+:l):gz m l d v g i:=by
 unfold gz at I⊢;split at I;·obtain⟨p,e,o,g,r⟩:=I;exact⟨p,AB P e,o,k _ g,r⟩
 rcases I with⟨t,n,w,⟨o,g,r⟩,z,A⟩|⟨x,t,e,⟨o,g,r⟩|⟨o,g,r⟩⟩|⟨a,c,e,B,g⟩;·exact .inl ⟨t,n,w,⟨o,k _ g,r⟩,T _ _ _ z,A.d T P⟩
 ·exact .inr<|.inl ⟨x,t,e,.inl ⟨o,k _ g,r⟩⟩
 ·exact .inr<|.inl ⟨x,t,e,.inr ⟨o,k _ g,r⟩⟩
 exact .inr<|.inr ⟨a,c,e,B,k _ g⟩
end
section
variable{E:aQ->bG->Prop}{s:bG}
theorem aZ.ah(R:aZ W v H s.heap)(st:fS H (J l) z)(x:v[l]?=J p):∃c,s.heap.IsList p.1 c.toArray/\ca s.heap v z c:=by
 refine aU st ?_ ?_;·intro e;refine aG (R.D e) λq a d=>?_;rw [x]at a;(replace a:=ao a;rw [a]);refine ja d λ_ c m n=>bU c m.b n
 intro e;refine aG (R.D e) λq a d=>?_;rw [x]at a;(replace a:=ao a;rw [a]);refine ja d λ_ c m n=>bU c m n
theorem xp(g:h.get? l=J o)(d:o.data=.fields p)(k:AY l h m):iU h m:=λa q n c=>k a _ (λe=>by clear k;subst e;rw [g]at c;(replace c:=ao c;clear g;subst c);exact AT d) c
set_option tactic.hygienic true in
theorem RA(R:aZ W C H s.heap)(st:fS H g B)(I:gz s.heap C D B g i)(hm:¬f6 C D)(e:B[i]?=J v)
  (k:∀m tk z,aT s.heap C v z->gz m C D B g (i+1)->AY D s.heap m->Q (J z) {s with heap:=m,toks:=tk}):aq (bL W.i W.w) A (AR<|.ref D) Q E s:=by
 have hi:i<B.length:=(jM.mp e).1;unfold gz at I;split at I;·rename_i l;refine aG I λp ep I=>aG (R.ah st ep) λxs la P=>aG (P.f e) λz X rz=>wpAny_pyNext_list_item I la (by simpa using X) λm w q=>k m s.toks z rz ⟨p,ep,w⟩ q.extBut
 clear st hm R;rcases I with⟨t,n,ys,I,g2,P⟩|⟨x,t,rfl,I⟩|⟨a,c,ev,r7,I⟩
 ·refine aG (P.f e) λz X rz=>
    hJ (id I) λo go cc d=>
    wpAny_pyNext_tuple_item I (items:=ys.toArray) ⟨_,g2,rfl,n,rfl⟩ (by simpa using X) λm w q=>k m s.toks z rz (.inl ⟨t,n,ys,w,?_,?_⟩) q.extBut
  ·exact xp go d q.extBut _ _ _ g2
  exact P.d (xp go d q.extBut)<|f8 _
 ·obtain⟨c,hc,rfl⟩:∃c,x[i]?=J c/\V.k [c]=v:=by
   rw [jJ]at e;exact kF.mp e
  rcases I with I|I;·exact wpAny_pyNext_ascii_item I (c:=c) (by simpa using hc) λm w q=>k m _ _ ⟨_,rfl⟩ (.inr<|.inl ⟨x,t,rfl,.inl w⟩) q.extBut
  exact wpAny_pyNext_wide_item I (c:=c) (by simpa using hc) λm w q=>k m _ _ ⟨_,rfl⟩ (.inr<|.inl ⟨x,t,rfl,.inr w⟩) q.extBut
 rw [ev i hi]at e;(replace e:=ao e;clear r7;subst e);refine wpAny_pyNext_range_item I (by omega) λm w q=>k m _ _ ⟨_,rfl⟩ (.inr<|.inr ⟨a,c,ev,hi,?_⟩) q.extBut;haveI e1:a+((i+1:Nat):Int)*c=a+(i:Int)*c+c:=by rw [show((i+1:Nat):Int)=(i:Int)+1 by omega,Int.add_mul];omega
 haveI e2:(B.length:Int)-((i+1:Nat):Int)=(B.length:Int)-(i:Int)-1:=by omega
 rw [e1,e2];exact w
set_option tactic.hygienic true in
theorem RB(R:aZ W z H s.heap)(m:A.handled=aA)(st:fS H g v)(I:gz s.heap z w v g v.length)
  (k:∀d B,AY w s.heap d->Q aA {s with heap:=d,toks:=B}):aq (bL W.i W.w) A (AR<|.ref w) Q E s:=by
 unfold gz at I;split at I;·rename_i l;refine aG I λp C I=>aG (R.ah st C) λxs D q=>wpAny_pyNext_list_end m I D (by rw [q.c];simp) λd e=>k d s.toks e
 clear st R;rcases I with⟨t,n,P,I,X,q⟩|⟨x,t,rfl,I⟩|⟨a,c,ev,r7,I⟩
 ·exact wpAny_pyNext_tuple_end m I (items:=P.toArray) ⟨_,X,rfl,n,rfl⟩ (by rw [q.c];simp) λd e=>k d s.toks e
 ·rcases I with I|I
  ·exact wpAny_pyNext_ascii_end m I (by simp) λd e=>k d s.toks e
  exact wpAny_pyNext_wide_end m I (by simp) λd e=>k d s.toks e
 exact wpAny_pyNext_range_end m I (by omega) λd e=>k d s.toks e
set_option tactic.hygienic true in
theorem RC(R:aZ W P H s.heap)(e:xX H v=J (w,g))(r:aT s.heap P v x)
  (k:∀X D,vV s.heap X->s.heap.get? D=aA->gz X P D w g 0->Q (.ref D) {s with heap:=X}):fS H g w/\aq (bL W.i W.w) A (yC x) Q E s:=by
 have c:v.z.map (λw=>(w,(aA:Option Nat)))=J (w,g)->fS H g w/\aq (bL W.i W.w) A (yC x) Q E s:=by intro e';refine aG (kF.mp e') λyM hv e2=>?_;cases e2;refine uU (xj hv r) λa m ys lY g rl D=>?_;rw [lY];refine⟨trivial,wpAny_pyIter_tuple (items:=ys.toArray) ⟨_,g,rfl,m,rfl⟩<|k _ _ (λb o d=>iA _ d) (qT _)<|.inl ⟨a,m,ys,⟨_,oY _ rfl,rfl,rfl⟩,iA _ g,?_⟩⟩;exact rl.d (λ_ _ _ d=>iA _ d)<|f8 _
 have z:∀{l:Nat}{p:cO×cO}{I:List aQ},P[l]?=J p->s.heap.IsList p.1 I.toArray->x=.ref p.1->g=J l->aq (bL W.i W.w) A (yC x) Q E s:=by intro l p I B C ex eg;rw [ex];clear c e;subst eg;exact wpAny_pyIter_list C<|k _ _ (λb o d=>iA _ d) (qT _) ⟨p,B,⟨_,oY _ rfl,rfl,rfl⟩⟩
 induction v with
 |j l=>
  refine aG r λp' n bM=>?_;clear c r;subst bM;refine aG (lP e) λo hl e=>aG (kF.mp e) λws q e=>?_;cases e;refine aG (R.D hl) λp B ro=>?_;rw [B]at n;(replace n:=ao n;subst n);clear e;induction o with
  |a ws=>
   (replace q:=ao q;clear e k;subst q)
   refine ja ro λ_ I C rl=>⟨.inl hl,z B C.b rfl rfl⟩
  |f ws=>
   (replace q:=ao q;clear e k;subst q)
   refine ja ro λ_ I C rl=>⟨.inr hl,z B C rfl rfl⟩
  |_=>exact aX q
 |k st=>
  cases e;refine oE r λt bT=>?_;rw [bT];refine⟨trivial,?_⟩;cases ha:(⟨st.toArray⟩:ac).cps.all (· <128);·exact wpAny_pyIter_wide ha<|k _ _ (λb o d=>iA _ d) (qT _)<|.inr<|.inl ⟨st,t,rfl,.inr ⟨_,oY _ rfl,rfl,rfl⟩⟩
  exact wpAny_pyIter_ascii ha<|k _ _ (λb o d=>iA _ d) (qT _)<|.inr<|.inl ⟨st,t,rfl,.inl ⟨_,oY _ rfl,rfl,rfl⟩⟩
 |w=>exact c e|r x t=>exact c e|_=>exact aX e
end
theorem RD(a b:Int):Dn a b (-1)=if a>b then a-b else 0:=by
 unfold Dn;haveI c:¬((-1:Int)>0):=by decide
 haveI d:(- -1:Int)=1:=by decide
 simp only [c,if_false,d,Int.ediv_one];split<;>omega
theorem AD(a b:Int):(if a<b then b-a else 0)=(((b-a).toNat:Nat):Int):=by split<;>omega
theorem aGF(l:-1<=a)(d:a<1000000)(m:-1<=b)(e:b<1000000):Sr a b (-1)=true:=by
 unfold Sr;rw [RD];simp only [aMy,iV,xw,decide_eq_true_eq,beq_iff_eq,show ¬((-1:Int)>0)by decide,if_false];haveI p:∀{c:Int},-1<=c->c<1000000->-2^63<=c/\c<2^63:=λh g=>⟨Hr (by decide) h,Ig g<|by decide⟩
 split;·exact⟨⟨⟨⟨p l d,p m e⟩,by decide,by decide⟩,by omega,by omega⟩,by omega⟩
 exact⟨⟨⟨⟨p l d,p m e⟩,by decide,by decide⟩,by decide,by decide⟩,.inl rfl⟩
section
def xq(W:Wd)(C:fE)(n:Nat)(t:Cx)(v:It)(x:bp):Prop:=∀(A:nG)(q:aQ->bG->Prop)(env:kH)(G:dx)(l:dR)(H:Hp)(s:bG)(w:List V->Option Nat->Hp->Prop)(Q:aQ->bG->Prop),
 oR A n->dS W t env G l s.heap->aZ W l H s.heap->Ok W s->Gf C bW v G H w->
 (∀m g p,w m g p->∀a c e,aZ W a p c.heap->b_ l s.heap a c.heap->Ok W c->fS p g m->s.heap.get? e=aA->¬f6 a e->gz c.heap a e m g 0->Q (.ref e) c)->
 aq (bL W.i W.w) A (gC x env) (λz d=>aq (bL W.i W.w) A (yC z) Q q d) q s
theorem Hm(t:aZ W n v c)(S:b_ w h n c)(d:c.get? a=aA):h.get? a=none:=by
 induction q:h.get? a with
 |none=>rfl|some o=>
  by_cases m:f6 w a
  ·refine cV m λl p e z=>
    aG (t.P ⟨l,p,AB S.i e,z⟩) λx g _=>?_
   rw [d]at g;exact aX g
  rw [S.j _ _ q m]at d;exact iC d
theorem xr(R:aZ W c H h)(d:h.get? a=aA):¬f6 c a:=λm=>by refine aG (R.P m) λx g _=>?_;rw [d]at g;exact aX g
theorem RE(P:bJ W C n X e x):xq W C n X (.e e) x:=λA Eh env G φ H s K Q hr F R O w k=>by refine P A Eh env G φ H s _ _ hr F R O w λv c hv p q z a l m t=>yn hv λB g D hK=>?_;haveI st:fS c g B:=(RC (A:=A) (E:=λ_ _=>True) (Q:=λ_ _=>True) a D m λ_ _ _ _ _=>trivial).1;refine(RC a D m λh' ia ex d I=>?_).2;haveI M:=a.u ex;exact k B g c hK p {q with heap:=h'} ia M.1 (b_.c a l M.2) t st (Hm a l d) (xr a d) I
theorem Hn{t u v x:jo}(R:aZ W w H s.heap)(S:b_ m l w s.heap)(O:Ok W s)(z:Sr a b c=true)
  (B:Dn a b c=(p.length:Int)) (C:∀j:Nat,j<p.length->p[j]?=J (.d<|a+(j:Int)*c))
  (k:∀e n q,aZ W e H n.heap->b_ m l e n.heap->Ok W n->l.get? q=aA->¬f6 e q->gz n.heap e q p aA 0->Q (.ref q) n):
  aq (bL W.i W.w) A (yC<|.ref s.heap.objs.size) Q X {s with heap:=s.heap.push {cls:=.type "range",data:=.fields #[.int a t,.int b u,.int c v]},toks:=x}:=by
 refine wpAny_pyIter_range (IsRange.new ..) z ?_;haveI D:vV s.heap ((s.heap.push {cls:=.type "range",data:=.fields #[.int a t,.int b u,.int c v]}).push {cls:=.type "range_iterator",data:=.fields #[IL a,IL<|Dn a b c,IL c]}):=λb o g=>iA _<|iA _ g;haveI M:=R.u D;haveI d:s.heap.get? (s.heap.push {cls:=.type "range",data:=.fields #[.int a t,.int b u,.int c v]}).objs.size=none:=DX<|by rw [IT];exact vo _
 refine k w _ _ M.1 (b_.c R S M.2) O (Hm R S d) (xr R d)<|.inr<|.inr ⟨a,c,C,jI _,?_⟩;haveI I:a+((0:Nat):Int)*c=a:=by simp
 haveI P:(p.length:Int)-((0:Nat):Int)=Dn a b c:=by rw [B];simp
 rw [I,P];exact oY _ rfl
theorem Ho(a b:Int):(iT<|pM a b).length=(b-a).toNat:=by simp [iT,pM]
theorem RF(h:j<(iT<|pM a b).length):(iT<|pM a b)[j]?=J (.d<|a+(j:Int)*1):=by rw [Ho]at h;simp [iT,pM,h]
theorem RG(a b:Int):(iT<|pN a b).length=(a-b).toNat:=by simp [iT,pN]
theorem aGG(h:j<(iT<|pN a b).length):(iT<|pN a b)[j]?=J (.d<|a+(j:Int)*-1):=by rw [RG]at h;simp [iT,pN,h];exact(Int.sub_eq_add_neg ..)
theorem aGH(hx:(x==("range":ac))=true)(hy:fI y=true)(P:X.f x=true)(h1:bJ W C n X a y):xq W C n X (.c a) (.Call (.Name x p) [y] [] q):=λA Eh env G φ H s K Q hr F R O w k=>by rw [beq_iff_eq.mp hx]at P⊢;refine Dm (xn hy)<|vZ (v:=.type "range") P F R (by decide) (by kernel_rfl) ?_;refine Iu<|h1 A Eh env G φ H s _ _ hr F R O w λv kL hv B eE y0 c e l z=>?_;clear w;obtain⟨m,rfl,b0,b1,hK⟩:=hv;obtain⟨t,rfl⟩:=l;refine call_range_1<|Hn c e z (small_one (by decide) (by decide) (yz b0)<|ww b1) ?_ (λj hj=>RF hj) λD s' ia R' S' O' d m' I=>k _ _ _ hK D s' ia R' S' O' trivial d m' I;rw [aIJ,Ho];exact AD _ _
theorem aGI(hx:(x==("range":ac))=true)(hy:fI y=true)(hz:fI z=true)(hg:cx.f x=true)(h1:bJ W C n cx a y)(h2:bJ W C n cx b z):xq W C n cx (.f a b) (.Call (.Name x p) [y,z] [] q):=λA Eh env G φ H s K Q hr F R O w k=>by rw [beq_iff_eq.mp hx]at hg⊢;refine Call_Name2 (vZ (v:=.type "range") hg F R (by decide) (by kernel_rfl) ?_)<|Qw hy hz;refine aIK rfl (Sm<|AX<|h1 A Eh env G φ H s _ _ hr F R O w λv P hv B X y0 c e o7 f9=>AX ?_);refine h2 A Eh env G B P X _ _ hr (F.d R e) c f9 hv λaL4 i6 D mV jO mW nN l kN dp=>So ?_;clear hv w;obtain⟨m,m2,rfl,rfl,b0,b1,b2,b3,hK⟩:=D;obtain⟨t,rfl⟩:=l.d c o7;obtain⟨u,rfl⟩:=kN;refine call_range_2<|Hn nN (b_.c c e l) dp (small_one (yz b0) (ww b1) (yz b2)<|ww b3) ?_ (λj hj=>RF hj) λcD s' ia R' S' O' d m' I=>k _ _ _ hK cD s' ia R' S' O' trivial d m' I;rw [aIJ,Ho];exact AD _ _
theorem aGJ(hx:(x==("range":ac))=true)(hy:fI y=true)(hz:fI z=true)(hg:cx.f x=true)(hm:vQ m=true)(h1:bJ W C n cx a y)(h2:bJ W C n cx b z):xq W C n cx (.d a b) (.Call (.Name x p) [y,z,m] [] q):=λA Eh env G φ H s K Q hr F R O w k=>by
 rw [beq_iff_eq.mp hx]at hg⊢;haveI Ei:rZ [y,z,m] env=[(false,gC y env),(false,gC z env),(false,gC m env)]:=by rw [tT hy,tT hz,tT<|by refine cp (zp hm) λo x p lY _=>?_;rw [lY];rfl];rfl
 refine Sp (by rw [Ei])<|vZ (v:=.type "range") hg F R (by decide) (by kernel_rfl) ?_;refine aIK rfl (Sm<|AX<|h1 A Eh env G φ H s _ _ hr F R O w λv kL hv D eE y0 c e o7 f9=>AX ?_);refine h2 A Eh env G D kL eE _ _ hr (F.d R e) c f9 hv λaL4 i6 P X l mW nN B kN dp=>AX<|Hf hm λu' tk=>So ?_;clear hv w;obtain⟨m,m2,rfl,rfl,b0,b1,b2,b3,hK⟩:=P;obtain⟨t,rfl⟩:=B.d c o7;obtain⟨u,rfl⟩:=kN;haveI aL5:aZ W X i6 ({l with toks:=tk}:bG).heap:=nN;refine call_range_3 (by decide) (Hn (s:={l with toks:=tk}) aL5 (b_.c c e B) dp (aGF b0 b1 b2 b3) ?_ (λj hj=>aGG hj) λcD s' ia R' S' O' d m' I=>k _ _ _ hK cD s' ia R' S' O' trivial d m' I)<|.inl<|PyProof.noPylong_small<|by decide
 rw [RD,RG];exact AD _ _
end
def jY(env:kH)(b:cO):Prop:=b=env.locals\/∃x,env.cells.lookup x=J b
structure eG(X:cO->Prop)(φ:dR)(h:e_)(cD:dR)(h':e_):Prop where
 f:φ<+:cD
 v:∀(l:Nat)(p:cO×cO),φ.length<=l->cD[l]?=J p->h.get? p.1=aA/\h.get? p.2=aA
 i:∀b o,h.get? b=J o->¬f6 φ b->¬X b->h'.get? b=J o
 w:∀b o,h.get? b=J o->∃o',h'.get? b=J o'
 j:iU h h'
section
theorem b_.f(S:b_ n h a t)(R:aZ W n H h)(v:aZ W a A t):eG X n h a t:=by
 refine⟨S.i,S.k,λb o g m _=>S.j b o g m,λb o g=>?_,S.w R⟩;by_cases m:f6 n b;·refine cV m λl p e q=>aG (v.P ⟨l,p,AB S.i e,q⟩) λx z _=>⟨x,z⟩
 exact⟨o,S.j _ _ g m⟩
theorem eG.r(S:eG X z h d A)(g:h.get? a=J o)(m:¬f6 z a):¬f6 d a:=λ⟨l,p,e,q⟩=>by
 refine aU (fV l z.length) ?_ ?_
 ·intro n;refine m ⟨l,p,?_,q⟩;refine oE S.f λt x=>?_;clear m S;subst x
  rwa [jL n]at e
 intro n;haveI:=S.v l p n e;clear e m;rcases q with rfl|rfl
 ·rw [g]at this;cases this.1
 rw [g]at this;cases this.2
theorem eG.u(a:dR)(h:e_):eG X a h a h:=⟨f8 _,λl p d e=>(by rw [ey d]at e;exact aX e),λ_ _ e _ _=>e,λ_ o g=>⟨o,g⟩,λ_ _ _ g=>g⟩
theorem eG.c(a:eG X H h d z)(b:eG X d z B C):eG X H h B C:=by
 have A:∀x,z.get? x=aA->h.get? x=none:=λx e=>by
  induction q:h.get? x with
  |none=>rfl|some o=>refine oE (a.w _ _ q) λI g=>?_;rw [e]at g;exact aX g
 refine⟨a.f.trans b.f,λl p P e=>?_,λx o e m n=>b.i _ _ (a.i _ _ e m n) (a.r e m) n,λx o e=>?_,λx Q n g=>b.j _ _ _<|a.j _ _ _ g⟩
 ·rcases fV l d.length with h|h
  ·refine a.v l p P<|
    oE b.f λt D=>?_;clear b a;subst D
   rwa [jL h]at e
  haveI:=b.v l p h e;exact⟨A _ this.1,A _ this.2⟩
 refine oE (a.w _ _ e) λI g=>b.w _ _ g
theorem eG.y(S:eG X d h a e)(l:∀b,X b->h.get? b=aA):b_ d h a e:=
 ⟨S.f,S.v,λb o g m=>S.i b o g m λx=>by rw [l b x]at g;exact aX g⟩
theorem eG.s(S:eG X z h l p)(d:h.get? a=aA)(k:AY a p q):eG X z h l q:=by
 have t:∀b o,h.get? b=J o->b≠a:=λb o g e=>by subst e;rw [d]at g;exact aX g
 refine⟨S.f,S.v,λb o g m n=>k b o (t b o g)<|S.i b o g m n,λb o g=>?_,λb B n g=>k _ _ (t _ _ g)<|S.j _ _ _ g⟩;refine oE (S.w b o g) λx A=>⟨x,k b x (t b o g) A⟩
theorem aZ.B(R:aZ W v H h)(k:AY a h A)(m:¬f6 v a)(b:W.j.get? a=aA)(T:iU h A):aZ W v H A:=by refine⟨R.w,λl o p e d=>?_,R.N,R.I,λc o e=>k _ _ (λz=>by subst z;rw [b]at e;exact aX e)<|R.j _ _ e⟩;haveI r:=R.L l o p e d;refine on r.a λn q=>?_;obtain⟨x,gx,_⟩:=n;obtain⟨y,gy,_⟩:=q;exact r.b T (f8 _) ((k _ _ (λz=>m ⟨l,p,d,.inl z.symm⟩) gx).trans gx.symm)<|(k _ _ (λz=>m ⟨l,p,d,.inr z.symm⟩) gy).trans gy.symm
theorem dS.D(F:dS W cx env G φ h)(S:eG X φ h H h')(hX:∀b,X b->¬jY env b):dS W cx env G H h':=by
 refine aG F.t λm hn I=>?_;have T:=S.j;refine wp hn λo es ep g bo=>⟨F.f,F.n,F.s,F.u,F.A,⟨m,⟨o,es,ep,S.i _ _ g F.l.1 λx=>hX _ x<|.inl rfl,bo⟩,λi x v a b c=>?_⟩,λi x a b=>?_,F.inj,F.w,⟨S.r g F.l.1,F.l.2⟩,λx c e=>?_⟩
 ·refine aG (I i x v a b c) λz e r=>bU z e (aT.b T S.f _ r)
 ·refine sP (F.q i x a b) λc oc k1 k2 P k4 k5 k6 k7=>?_;obtain⟨ob,k3,Q⟩:=P;refine sU c oc k1 k2 ⟨ob,S.i _ _ k3 k4 λx'=>hX _ x'<|.inr ⟨x,k2⟩,Q⟩ (S.r k3 k4) k5 k6 λv I=>?_;refine aG (k7 v I) λz e r=>bU z e (aT.b T S.f _ r)
 refine on (F.p x c e) λR m'=>?_;obtain⟨o',g'⟩:=R;exact⟨S.w _ _ g',S.r g' m'⟩
theorem dS.B(F:dS W cx env G φ h)(k:AY a h X)(H:¬jY env a)(T:iU h X):dS W cx env G φ X:=by
 refine aG F.t λm hn I=>wp hn λo es ep g bo=>⟨F.f,F.n,F.s,F.u,F.A,⟨m,⟨o,es,ep,k _ _ (λe=>H<|.inl e.symm) g,bo⟩,λi x v a b c=>?_⟩,λi x a b=>?_,F.inj,F.w,F.l,λx c e=>?_⟩
 ·refine aG (I i x v a b c) λz e r=>bU z e (aT.b T (f8 _) _ r)
 ·refine sP (F.q i x a b) λc oc k1 k2 P k4 k5 k6 k7=>?_;obtain⟨ob,k3,Q⟩:=P;refine sU c oc k1 k2 ⟨ob,k _ _ (λe=>H<|.inr ⟨x,e▸k2⟩) k3,Q⟩ k4 k5 k6 λv I=>?_;refine aG (k7 v I) λz e r=>bU z e (aT.b T (f8 _) _ r)
 refine on (F.p x c e) λR m'=>?_;obtain⟨o',g'⟩:=R;exact⟨⟨o',k _ _ (λz=>H<|.inr ⟨x,z▸e⟩) g'⟩,m'⟩
end
section
variable{cx:Cx}
theorem AE{G:dx}{i j:Nat}{v w:V}(h:(G.set i<|J v)[j]?=J (J w)):(i=j/\w=v)\/(i≠j/\G[j]?=J (J w)):=by
 by_cases e:i=j
 ·subst e;rw [Rx]at h;simp only [if_true]at h;split at h;·cases h;exact .inl ⟨rfl,rfl⟩
  exact aX h
 rw [qY e]at h;exact .inr ⟨e,h⟩
def Wr(cx:Cx)(env:kH)(X:cO->Prop)(x:ac):Prop:=(cx.d.names.lookup x=J .local->X env.locals)/\(cx.d.names.lookup x≠J .local->∀c,env.cells.lookup x=J c->X c)
theorem AF(env:kH)(x:ac):Wr cx env (jY env) x:=⟨λ_=>.inl rfl,λ_ _ e=>.inr ⟨x,e⟩⟩
theorem AG{z:aQ}{Q:Unit->bG->Prop}{X:cO->Prop}(hX:Wr cx env X x)(F:dS W cx env G φ s.heap)(R:aZ W φ H s.heap)(O:Ok W s)(hi:cx.j[i]?=J (J x))(r:aT s.heap φ v z)
  (k:∀s',aZ W φ H s'.heap->eG X φ s.heap φ s'.heap->dS W cx env (G.set i<|J v) φ s'.heap->Ok W s'->Q () s'):aq (bL W.i W.w) A (storeName env x z) Q Eh s:=by
 haveI hk:env.scope.kind=.function:=by rw [F.f];exact F.n
 refine aG F.t λm hn hv=>?_
 by_cases D:cx.d.names.lookup x=J .local
 ·refine wpAny_storeName_local (by unfold tj;rw [F.f];exact D) hn (λP li sb=>?_)<|by rw [hk];rfl
  refine wu (id hn) λo es ep g d bo=>?_
  have C:=sb.extBut
  have T:iU s.heap P:=λa vs n I=>C a _ (λe=>by clear sb hn hk;subst e;rw [g]at I;(replace I:=ao I;clear g;subst I);exact AT d) I
  haveI R':aZ W φ H P:=R.B C F.l.1 F.l.2 T
  have q:∀b o,s.heap.get? b=J o->∃o',P.get? b=J o':=λb o gb=>by
   by_cases e:b=env.locals
   ·rw [e];refine wp (id li) λo' _ _ g' _=>⟨o',g'⟩
   ·exact⟨o,C _ _ e gb⟩
  refine k {s with heap:=P,toks:=s.toks+1} R' ⟨f8 _,λl p D e=>(by rw [ey D]at e;exact aX e),λb o gb _ n=>C _ _ (λe=>n<|e▸hX.1 D) gb,q,T⟩ ?_ O
  refine⟨F.f,F.n,F.s,F.u,by simp [F.A],⟨_,li,λj y w a b c=>?_⟩,λj y a b=>?_,F.inj,F.w,F.l,λx c e=>(let ⟨⟨o',g'⟩,m'⟩:=F.p x c e;⟨q _ _ g',m'⟩)⟩
  ·refine aU (AE c) ?_ ?_
   ·refine λqz=>on qz λt B=>?_;clear c k;subst t;subst B
    rw [hi]at a;cases a
    exact⟨z,by simp,aT.b T (f8 _) _ r⟩
   ·refine λqz=>on qz λt B=>aG (hv j y w a b B) λz' ez rz=>?_
    have:y≠x:=λe=>by clear b li D hX;subst e;exact t<|F.inj _ _ _ hi a
    exact⟨z',by simp only [this,if_false];exact ez,aT.b T (f8 _) _ rz⟩
  ·refine sP (F.q j y a b) λc oc k1 k2 iM k4 k5 k6 k7=>?_;obtain⟨ob,k3,we⟩:=iM
   refine sU c oc k1 k2 ⟨ob,C _ _ k5 k3,we⟩ k4 k5 k6 λw hw=>?_
   rcases AE hw with⟨t,B⟩|⟨t,B⟩
   ·clear hw k7 k;subst t
    rw [hi]at a;cases a;exact absurd D b
   ·refine aG (k7 w B) λz' ez rz=>
      bU z' ez (aT.b T (f8 _) _ rz)
 ·refine sP (F.q i x hi D) λc oc k1 k2 k3 k4 k5 k6 k7=>
    wpAny_storeName_cell hk (by unfold tj;rw [F.f];exact k1) k2 k3 λP c' sb=>?_
  have C:=sb.extBut
  refine aG (id k3) λob g d=>?_
  have T:iU s.heap P:=λa vs n I=>C a _ (λe=>by subst e;rw [g]at I;(replace I:=ao I;clear g;subst I);exact AT d) I
  haveI R':aZ W φ H P:=R.B C k4 k6 T
  have q:∀b o,s.heap.get? b=J o->∃o',P.get? b=J o':=λb o gb=>by
   by_cases e:b=c
   ·rw [e];refine aG (id c') λo' g' _=>⟨o',g'⟩
   ·exact⟨o,C _ _ e gb⟩
  refine k {s with heap:=P} R' ⟨f8 _,λl p D e=>(by rw [ey D]at e;exact aX e),λb o gb _ n=>C _ _ (λe=>n<|e▸hX.2 D c k2) gb,q,T⟩ ?_ O
  refine wp (id hn) λon es ep gn bo=>
    ⟨F.f,F.n,F.s,F.u,by simp [F.A],⟨m,⟨on,es,ep,C _ _ (iX k5) gn,bo⟩,λj y w a b c0=>?_⟩,λj y a b=>?_,F.inj,F.w,F.l,λx c e=>(let ⟨⟨o',g'⟩,m'⟩:=F.p x c e;⟨q _ _ g',m'⟩)⟩
  ·rcases AE c0 with⟨t,B⟩|⟨t,B⟩
   ·clear c0 k7 k;subst t
    rw [hi]at a;cases a;exact absurd b D
   ·refine aG (hv j y w a b B) λz' ez rz=>
      bU z' ez (aT.b T (f8 _) _ rz)
  ·by_cases e:i=j
   ·clear k7 k;subst e
    rw [hi]at a;cases a
    exact⟨c,J z,k1,k2,c',k4,k5,k6,λw hw=>by
     rcases AE hw with⟨t,B⟩|⟨t,B⟩
     ·rw [B];exact bU z rfl (aT.b T (f8 _) _ r)
     ·exact absurd rfl t⟩
   ·refine sP (F.q j y a b) λc2 oc2 q1 q2 iM q4 q5 q6 q7=>?_;obtain⟨ob2,q3,q3'⟩:=iM
    haveI wI:c2≠c:=λz=>by
     clear g sb c' k6 k5 k4 k3;clear q3 q6 q5 q4 C;subst z
     haveI:=F.w _ _ _ k2 q2
     clear k2 k1 D hX b;clear q2 q1;subst this
     exact e<|F.inj _ _ _ hi a
    refine sU c2 oc2 q1 q2 ⟨ob2,C _ _ wI q3,q3'⟩ q4 q5 q6 λw hw=>?_
    rcases AE hw with⟨t,B⟩|⟨t,B⟩
    ·exact absurd t e
    ·refine aG (q7 w B) λz' ez rz=>
       bU z' ez (aT.b T (f8 _) _ rz)
theorem Cx.v(h:cx.r i e=true):X2 λx p=>A2 (e=.Name x p) (cx.j[i]?=J (J x)):=by refine cV (pV h) λx p a h=>?_;rw [a];exact yr x p rfl ((Cx.w h).1)
theorem aGK:∀{m:List Nat}{l:List bp}{c:List V}{G d:dx},cx.s m l=true->qM m c G=J d->(Su l env).length=c.length/\(Su l env).findIdx? (·.1)=none:=by
 intro m;induction m with
 |nil=>
  intro l c G d a n;rw [jH a];induction c using bk with
  |nil=>exact⟨rfl,rfl⟩|cons _ _=>exact aX n
 |cons i m t=>
  intro l c G d a n;refine cV (G_ a) λy l e a=>?_;rw [e];haveI a:=bV a;refine cV (Cx.v a.1) λnm p e _=>?_;rw [e];induction c using bk with
  |nil=>exact aX n|cons v c=>haveI q:=t a.2 n;refine⟨congrArg (· +1) q.1,?_⟩;rw [aHZ,q.2];rfl
theorem aGL:∀{q:List Nat}{l:List bp}{G d:dx}{s:bG}{m:List V}{t:List aQ}{Q:Unit->bG->Prop},cx.s q l=true->(∀i∈q,∀x,cx.j[i]?=J (J x)->Wr cx env X x)->
  dS W cx env G w s.heap->aZ W w H s.heap->Ok W s->qM q m G=J d->ca s.heap w m t->
  (∀n,aZ W w H n.heap->eG X w s.heap w n.heap->dS W cx env d w n.heap->Ok W n->Q () n)->
  aq (bL W.i W.w) A (assignInOrder ((Su l env).map (·.2)) t) Q Eh s:=by
 intro q;induction q with
 |nil=>
  intro l G d s m t Q h P F R O e r k;rw [jH h];induction m using bk with
  |nil=>
   (replace e:=ao e;subst e)
   have r:t=[]:=r;rw [r];exact bm<|k s R (eG.u _ _) F O
  |cons v m=>exact aX e
 |cons i q ih=>
  intro l G d s m t Q h P F R O e r k;refine cV (G_ h) λy l a h=>?_;rw [a];haveI h:=bV h;refine cV (Cx.v h.1) λnm p a I=>?_;rw [a];induction m using bk with
  |nil=>exact aX e|cons v m=>refine j9 r λz t a rz rl=>?_;rw [a];exact bC<|pd<|SD<|AG (P i (.head _) _ I) F R O I rz λeE B c C D=>ih h.2 (λi I=>P i<|.tail _ I) C B D e (rl.d c.j c.f) λn R' S' F' O'=>k n R' (c.c S') F' O'
theorem aGM(h:cx.q (.c a) x=true):X3 λl k p=>A2 (x=.Tuple l k p) (cx.s a l=true):=Ck h
theorem Hq(hX:∀i∈gM t,∀x,cx.j[i]?=J (J x)->Wr cx env X x) (w:cx.q t x=true) (hh:A.handled=aA)
  (F:dS W cx env G c s.heap) (R:aZ W c H s.heap) (O:Ok W s) (e:t.b v G=J C) (r:aT s.heap c v z)
  (k:∀d,aZ W c H d.heap->eG X c s.heap c d.heap->dS W cx env C c d.heap->Ok W d->Q () d):aq (bL W.i W.w) A (vu x env z) Q Eh s:=by
 induction t with
 |a i=>
  refine cV (Cx.v w) λnm p D hi=>?_;rw [D]
  (replace e:=ao e;subst e)
  exact SD<|AG (hX i (bg.mpr rfl) _ hi) F R O hi r k
 |c is=>refine cp (aGM w) λl kk p n w=>?_;rw [n];refine aG (DW.mp e) λvs hv e=>uU (xj hv r) λa m ys n g rl it=>?_;rw [n];haveI q:=aGK (env:=env) w e;refine assign_Tuple_tuple hh it (by rw [q.1,rl.c];simp) q.2 λB eb=>?_;haveI ex:vV s.heap B:=λb o I=>eb b o (λz=>by subst z;rw [qT]at I;exact aX I) I;have M:=R.u ex;haveI S:eG X c s.heap c B:=M.2.f R M.1;haveI F':dS W cx env G c B:=F.d R M.2;exact aGL (W:=W) (s:={s with heap:=B}) w hX F' M.1 O e (M.2.s R rl) λd R' S' P O'=>k d R' (S.c S') P O'
end
set_option backward.match.sparseCases false
noncomputable def aCP(h:e_)(a:dR):Fl->Flow->Prop|.a,f=>f=.next|.c,f=>f=.cont|.b v,f=>∃z,f=.ret z/\aT h a v z
def zd(W:Wd)(e:Cx)(env:kH)(l:dR)(s:bG)(fl:Fl)(d:dx)(m:Hp)(Q:Flow->bG->Prop):Prop:=
 ∀a c f,aZ W a m c.heap->eG (jY env) l s.heap a c.heap->dS W e env d a c.heap->Ok W c->aCP c.heap a fl f->Q f c
def lR(W:Wd)(C:fE)(n:Nat)(d:Cx)(st:S)(x:dm):Prop:=∀(A:nG)(l:aQ->bG->Prop)(env:kH)(G:dx)(c:dR)(H:Hp)(s:bG)(m:Fl->dx->Hp->Prop)(Q:Flow->bG->Prop),
 oR A n->dS W d env G c s.heap->aZ W c H s.heap->Ok W s->Gg C bW st G H m->(∀fl a e,m fl a e->zd W d env c s fl a e Q)->aq (bL W.i W.w) A (exec x env) Q l s
def rJ(W:Wd)(C:fE)(n:Nat)(d:Cx)(m:Ss)(l:List dm):Prop:=∀(A:nG)(p:aQ->bG->Prop)(env:kH)(G:dx)(c:dR)(H:Hp)(s:bG)(q:Fl->dx->Hp->Prop)(Q:Flow->bG->Prop),
 oR A n->dS W d env G c s.heap->aZ W c H s.heap->Ok W s->oN C bW m G H q->(∀fl a e,q fl a e->zd W d env c s fl a e Q)->aq (bL W.i W.w) A (execs l env) Q p s
section
variable{W:Wd}
theorem zd.a(k:zd W m env n s fl e p Q)(S:eG (jY env) n s.heap c d.heap):zd W m env c d fl e p Q:=
 λl q f t v w x r=>k l q f t (S.c v) w x r
theorem aCQ(F:dS W a env G c h):aHx env=false:=by unfold aHx;rw [F.f,F.n];rfl
theorem Cb(h:pT v=true)(t:Option bp)(l:Nat)(env:kH):Rm v t l env=gc false:=by cases v<;>first|exact Eq.refl (gc false:rW Bool)|exact nt h
set_option smartUnfolding false in
theorem aCR(h:Q .next s):aq (bL W.i W.w) A (dropValue e p v) Q c s:=by
 have k:∀v,aq (bL W.i W.w) A (dropValue (.Yield aA p) p v) Q c s:=λv=>by
  induction v with
  |ref a=>exact bC<|th<|bC<|wpAny_runValue<|codeAny_builtin entry_let_go (show aq _ _ (ret .none) _ _ s from bm<|bm h)|_=>exact bm h
 induction e using Expr.casesOn with
 |Name _ _=>exact bm h|_=>exact k v
theorem aCS(x:pT v=true)(B:bJ W C n D e v):lR W C n D (.j e) (.Expr v p):=λA I env G P H s K Q X F R O w k=>by rw [exec_Expr env v p (aCQ F)<|Cb x _ _ _];refine bC<|th<|bC<|B A I env G P H s _ _ X F R O w λv q hv d l z a c t m=>aCR ?_;exact k _ _ _ hv d l _ a (c.f R a) (F.d R c) m rfl
theorem aCT(hc:pT v=true)(hn:cx.r i x=true)(h1:bJ W C n cx e v):lR W C n cx (.d i e) (.Assign [x] v p):=λA Eh env G φ H s K Q hr F R O w k=>by refine cV (Cx.v hn) λnm q X hi=>?_;rw [X];refine wpAny_Assign_Name (h1 A Eh env G φ H s _ _ hr F R O w λv kL hv d eE z a c l m=>?_)<|Cb hc _ _ _;refine AG (AF env _) (F.d R c) a m hi l λt B D I P=>k _ _ _ hv d t _ B ((c.f R a).c D) I P rfl
theorem aCU(hc:pT v=true)(ht:OX v=true)(hn:cx.s is l=true)(h1:bJ W C n cx e v):lR W C n cx (.s is e) (.Assign [.Tuple l kk q] v p):=λA Eh env G φ H s K Q hr F R O w k=>by
 refine Assign_Tuple (h1 A Eh env G φ H s _ _ hr F R O w λv kL hv d eE z a c m B=>?_) (by cases v<;>first|rfl|cases hc)<|by cases v<;>first|rfl|cases ht
 refine aG hv λg_ e1 hK=>Hq (t:=.c is) (λ_ _ x _=>AF env x) hn hr.1 (F.d R c) a B e1 m λD I P X dp=>k _ _ _ hK d D _ I ((c.f R a).c P) X dp rfl
theorem aCV(hc:pT v=true)(ha:pU gU[a]? nm=true)(h0:bJ W C n cx o x)(h1:bJ W C n cx e v):lR W C n cx (.k o a e) (.Assign [.Attribute x nm q] v p):=λA Eh env G φ H s K Q hr F R O w k=>by
 haveI ea:gU[a]?=J nm:=by
  induction q:gU[a]? with
  |none=>rw [q]at ha;exact ft ha|some m=>rw [q]at ha;rw [beq_iff_eq.mp ha]
 refine plainObj_wpAny_Assign_Attribute (h1 A Eh env G φ H s _ _ hr F R O w λv X hv I eE z c l o7 f9=>?_)<|Cb hc _ _ _;refine h0 A Eh env G I X eE _ _ hr (F.d R l) c f9 hv λd i6 hd mV jO mW t B kN dp=>aG hd λH' e1 hK=>?_;haveI wV:=b_.c c l B;refine aFH t dp ea e1 kN (B.d c o7) λP oe D Ee og=>?_;haveI S:=b_.c t wV Ee;exact k _ _ _ hK P oe _ D (S.f R D) (F.d R S) og rfl
theorem aCW(hc:pT v=true)(h0:bJ W C n cx o x)(h2:bJ W C n cx i y)(h1:bJ W C n cx e v):lR W C n cx (.m o i e) (.Assign [.Subscript x y q] v p):=λA Eh env G φ H s K Q hr F R O w k=>by refine wpAny_Assign_Subscript (h1 A Eh env G φ H s _ _ hr F R O w λv kL hv I eE z c m o7 f9=>?_)<|Cb hc _ _ _;refine h0 A Eh env G I kL eE _ _ hr (F.d R m) c f9 hv λd i6 hd P jO mW a t kN dp=>?_;haveI wV:=b_.c c m t;refine h2 A Eh env G P i6 jO _ _ hr (F.d R wV) a dp hd λkv wW hk BK oe KF B l wX og=>?_;haveI S13:=b_.c a wV l;refine aG hk λH' e1 hK=>aE9 B og e1 (by haveI:=hr.2.2;exact(dg nT Z [.t (.a (.a Y<|.m 20 aB)<|.n 215) Z] U this)) (l.d a kN) wX (l.d a<|t.d c o7) λX BL D BM BN=>?_;haveI S:=b_.c B S13 BM;exact k _ _ _ hK X BL _ D (S.f R D) (F.d R S) BN rfl
theorem aCX(ho:xa o=J q)(hq:q=.a\/q=.c)(hn:cx.r i x=true)(h1:bJ W C n cx e v):lR W C n cx (.p i q e) (.AugAssign x o v p):=λA Eh env G φ H s K Q hr F R O w k=>by refine cV (Cx.v hn) λnm q' bM hi=>?_;rw [bM];rw [HX ho];refine aG w λj ej w=>wpAny_AugAssign_Name (Qq (H:=H) F hi ej λz rz=>?_);refine h1 A Eh env G φ H s _ _ hr F R O w λy t hv a d y0 l c B D=>aG hv λv' e1 hK=>aFC hq e1 (λi h=>nomatch h) (c.d R rz) B λmW tk I=>?_;haveI m:aZ W a t ({d with toks:=tk}:bG).heap:=l;refine AG (s:={d with toks:=tk}) (AF env _) (F.d R c) m D hi I λP X qg pq dp=>k _ _ _ hK a P _ X ((c.f R l).c qg) pq dp rfl
theorem aCY(h0:f_ W C n D q x)(h1:rJ W C n D a l)(h2:rJ W C n D b r):lR W C n D (.f q a b) (.If x l r p):=λA I env G φ H s K Q P F R O w k=>by
 refine wpAny_If<|h0 A I env G φ H s _ _ P F R O w λt v hv c d e m z=>?_;haveI SX:eG (jY env) φ s.heap c d.heap:=m.f R e;induction t with
 |true=>exact h1 A I env G c v d _ _ P (F.d R m) e z hv λfl B X hK=>(k fl B X hK).a SX|false=>exact h2 A I env G c v d _ _ P (F.d R m) e z hv λfl B X hK=>(k fl B X hK).a SX
theorem aCZ(x:bJ W C n B e v):lR W C n B (.g e) (.Return (J v) p):=λA D env G I H s K Q P F R O w k=>wpAny_Return_some (x A D env G I H s _ _ P F R O w λv t X d l z a c m q=>k _ _ _ X d l _ a (c.f R a) (F.d R c) q ⟨z,rfl,m⟩)
theorem aC0:lR W C n c (.g<|.h .o) (.Return aA p):=λA d env G a H s l Q e F R O w k=>wpAny_Return_none (k _ _ _ w a s _ R (eG.u _ _) F O ⟨.none,rfl,rfl⟩)
theorem aC1:lR W C n c .q (.Continue p):=λA d env G a H s l Q e F R O w k=>by rw [arm_exec_Continue];exact bC<|th<|bm<|k _ _ _ w a s _ R (eG.u _ _) F O rfl
theorem aC2:rJ W C n c .nil []:=λA d env G a H s l Q e F R O w k=>Rn<|k _ _ _ w a s _ R (eG.u _ _) F O rfl
theorem aC3{st:S}{P:Ss}{x:dm}{l:List dm}(h1:lR W C n X st x)(h2:rJ W C n X P l):rJ W C n X (.cons st P) (x::l):=λA Eh env G φ H s K Q hr F R O w k=>by
 refine wpAny_execs_cons<|h1 A Eh env G φ H s _ _ hr F R O w λfl q t B a c f d e m p r=>?_;induction fl with
 |a=>rw [r];exact h2 A Eh env q a t c _ _ hr m d p B λfl D H' hK=>(k fl D H' hK).a e|c=>rw [r];exact k _ _ _ B a c _ d e m p rfl|b v=>refine aG r λz I rz=>?_;rw [I];exact k _ _ _ B a c _ d e m p ⟨z,rfl,rz⟩
theorem aC4(h0:f_ W C n cx q x)(h1:rJ W C n cx b l):lR W C n cx (.n q b) (.While x l [] p):=λA Eh env G φ H s K Q hr F R O w k=>by
 refine oE w λm w=>?_
 refine wpAny_While (codeAny_whileLoop (λm s'=>X3 λg_ cD H'=>A5 (aZ W cD H' s'.heap) (eG (jY env) φ s.heap cD s'.heap) (dS W cx env g_ cD s'.heap) (Ok W s') (Ca (jm C bW q) (oN C bW b) m g_ H' K))
  (λm BO=>?_) m ⟨G,φ,H,R,eG.u _ _,F,O,w⟩)
 rintro⟨e,aLw,Do,d,Ef,B,Eg,w⟩
 induction m using iJ with
 |zero=>exact w.elim
 |succ m=>
  refine h0 A _ env e aLw Do BO _ _ hr B d Eg w λt kL hv a D I P f9=>?_
  have SX:eG (jY env) φ s.heap a D.heap:=Ef.c<|P.f d I
  induction t with
  |false=>exact Rn<|k _ _ _ hv a D _ I SX (B.d d P) f9 rfl
  |true=>
   refine h1 A _ env e a kL D _ _ hr (B.d d P) I f9 hv λfl X i6 hK c jO f nN qg pq dp r=>?_
   induction fl with
   |a=>cases r;exact⟨m,tc _,X,c,i6,nN,SX.c qg,pq,dp,hK⟩
   |c=>cases r;exact⟨m,tc _,X,c,i6,nN,SX.c qg,pq,dp,hK⟩
   |b v=>refine aG r λz bT rz=>?_;clear r;subst bT;exact k _ _ _ hK c jO _ nN (SX.c qg) pq dp ⟨z,rfl,rz⟩
theorem Gh(F:dS W n env G p h)(d:h.get? a=aA):¬jY env a:=λo=>by
 rcases o with rfl|⟨x,e⟩;·refine aG F.t λm c _=>?_;obtain⟨o,es,q,g,_⟩:=c;rw [d]at g;exact aX g
 haveI l:=(F.p x a e).1;obtain⟨o,g⟩:=l;rw [d]at g;exact aX g
set_option backward.match.sparseCases true in
theorem N_(I:gz s.heap C e m g i)(h:Q () s):aq (bL W.i W.w) A (IK t (.ref e) z) Q q s:=by
 haveI l:X3 λo T v=>A4 (s.heap.get? e=J o) (o.cls=.type T) (o.data=.fields v) ((["enumerate","zip","dict_itemiterator","dict_reverseitemiterator","odict_iterator","itertools.zip_longest","itertools.pairwise"].contains T)=false):=by
  unfold gz at I
  split at I
  ·obtain⟨p,_,o,g,c,d⟩:=I;exact yu o _ _ g c d<|by decide
  ·rcases I with⟨t,n,D,⟨o,g,c,d⟩,_⟩|⟨x,t,_,⟨o,g,c,d⟩|⟨o,g,c,d⟩⟩|⟨a,c,_,_,g⟩
   ·exact yu o _ _ g c d<|by decide
   ·exact yu o _ _ g c d<|by decide
   ·exact yu o _ _ g c d<|by decide
   ·exact yu _ _ _ g rfl rfl (by decide)
 refine uU l λo T v g c d w=>?_
 have B:aq (bL W.i W.w) A (do
   let (.ref r,.ref a):=(aHy e,z)|return
   let o<-load r
   match o.cls,o.data with
   |.type n,.fields m=>
    if ["enumerate","zip","dict_itemiterator","dict_reverseitemiterator","odict_iterator","itertools.zip_longest","itertools.pairwise"].contains n&&m[0]?==J (IL a)then
     rule "for.unpacks-the-owned-tuple"
     updateField r 0 .none
   |_,_=>gc ():rW Unit) Q q s:=by
  induction z with
  |ref a=>
   refine bC<|wpAny_load g ?_
   rw [c,d]
   refine(?_:aq _ A (if(_&&_)=true then _ else _) Q q s)
   rw [w,DU,if_neg<|by decide]
   exact bm h
  |_=>exact bm h
 cases t<;>first|exact bm h|exact B
theorem OA(h:kZ x=true)(env:kH)(z:aQ):foldedSetIterable x env z=gc z:=by cases x<;>first|exact Eq.refl (gc z:rW aQ)|exact nt h
def OB(W:Wd)(t:Cx)(env:kH)(c:dR)(d:e_)(p:cO)(e:List V)(g:Option Nat)(body:V->dx->Hp->(Fl->dx->Hp->Prop)->Prop)(v:Fl->dx->Hp->Prop)(m:Nat)(l:bG):Prop:=
 X4 λi n a q=>A9 (m=e.length+1-i) (i<=e.length) (aZ W a q l.heap) (eG (jY env) c d a l.heap) (dS W t env n a l.heap) (Ok W l) (gz l.heap a p e g i) (¬f6 a p)<|jx (λh=>fS h g e) body (e.drop i) n q v
theorem aC5(hs:kZ y=true)(ht:cx.q t x=true)(h0:xq W C n cx it y)(h1:rJ W C n cx b l):lR W C n cx (.l t it b) (.For x y l [] p):=λA Eh env G φ H s K Q hr F R O w k=>by
 refine wpAny_For (h0 A Eh env G φ H s _ _ hr F R O w λvs g kL hv iB eE ia mX oh f9 st d sB BP=>?_)<|OA hs _
 have D:¬jY env ia:=Gh F d
 have oi:W.j.get? ia=none:=by
  induction q:W.j.get? ia with
  |none=>rfl
  |some o=>rw [R.j _ _ q]at d;exact iC d
 refine codeAny_forLoop_any (OB W cx env φ s.heap ia vs g (λv G h K=>∃e,t.b v G=J e/\oN C bW b e h K) K) (λm BO=>?_) (vs.length+1)
  ⟨0,G,iB,kL,rfl,jI _,mX,oh.f R mX,F.d R oh,f9,BP,sB,hv⟩
 rintro⟨i,Ui,B,Do,rfl,hi,I,Ef,Uj,Eg,P,a,w⟩
 induction hd:vs.drop i using bk with
 |nil=>
  haveI eQ:i=vs.length:=by
   have:=congrArg gB hd
   simp at this;exact(bj (aV Y Z [.l Y Z] U hi)<|bb Y Z [.e aB bQ,.g (.a aB Z) Y] U this<|bY<|aV Y Z [.l Y Z] U hi)
  rw [hd]at w
  subst eQ
  haveI wY:=w.1;haveI hK:=w.2
  refine sO P.b λo go fs dd=>
    RB I hr.1 wY P λh' tk eb=>Rn ?_
  have T:=xp go dd eb
  exact k _ _ _ hK B {BO with heap:=h',toks:=tk} _ (I.B eb a oi T) (Ef.s d eb) (Uj.B eb D T) Eg rfl
 |cons v bo=>
  rw [hd]at w
  have BQ:vs[i]?=J v:=by
   haveI:=congrArg (·[0]?) hd
   simpa using this
  haveI tt:i<vs.length:=(jM.mp BQ).1
  refine ja w λwY KH e1 w=>
    sO P.b λo go fs dd=>
    RA I wY P a BQ λh' tk z rz I' eb=>?_
  haveI T:=xp go dd eb
  haveI R':=I.B eb a oi T
  haveI S':=Ef.s d eb
  haveI F':=Uj.B eb D T
  haveI KI:=aT.b T (f8 _) _ rz
  refine N_ (s:={BO with heap:=h',toks:=tk}) I'<|
    Hq (s:={BO with heap:=h',toks:=tk}) (λ_ _ x _=>AF env x) ht hr.1 F' R' Eg e1 KI λjO nN X pq dp=>?_
  haveI BR:=S'.c X
  refine sO I'.b λo' go' fs' dd'=>?_
  have BS:gz jO.heap B ia vs g (i+1):=I'.f (λo go=>X.i _ _ go a D) X.j X.f
  refine h1 A _ env KH B Do jO _ _ hr pq nN dp w λfl Uk wW hK BK oe f BU c Ul og r=>
    sO BS.b λaLx KJ _ _=>?_
  haveI Um:jx (λh=>fS h g vs) (λv G h K=>∃e,t.b v G=J e/\oN C bW b e h K) bo Uk wW K->∃m,m<vs.length+1-i/\OB W cx env φ s.heap ia vs g (λv G h K=>∃e,t.b v G=J e/\oN C bW b e h K) K m oe:=λw'=>
   ⟨vs.length+1-(i+1),(jA Y Z [.e (.a Y bN) fM,.g (.a Z aB) fM] U (bY (aV aR aY [.l Y Z] U hi)) (bY (aV Y aY [.l Y Z] U hi))),i+1,Uk,BK,wW,rfl,tt,BU,BR.c c,Ul,og,BS.f (λo go=>c.i _ _ go a D) c.j c.f,c.r KJ a,by
    have:vs.drop (i+1)=bo:=by
     haveI:=congrArg aHz hd
     simpa [aHA]using this
    rw [this];exact w'⟩
  induction fl with
  |a=>rw [r];exact Um hK
  |c=>rw [r];exact Um hK
  |b v'=>refine aG r λz bT rz=>?_;rw [bT];exact k _ _ _ hK BK oe _ BU (BR.c c) Ul og ⟨z,rfl,rz⟩
end
set_option backward.match.sparseCases true
theorem OC{names:List ac}{zs:List aQ}(c:names.length=zs.length)(a:names.Nodup):∀{i:Nat}{x:ac},names[i]?=J x->(names.zip zs).lookup x=zs[i]?:=by
 induction names generalizing zs with
 |nil=>intro i x h;simp at h|cons n names d=>
  intro i x h;induction zs using bk with
  |nil=>cases c|cons z zs=>
   haveI l:=(gN.mp a).1;haveI m:=(gN.mp a).2;induction i using iJ with
   |zero=>simp at h;clear a;subst h;simp|succ i=>
    simp only [IJ]at h;have:(x==n)=false:=beq_eq_false_iff_ne.mpr λe=>by clear a;subst e;exact l<|dU h
    simp only [aHB,kG,this,IJ];exact d (by simpa using c) m h
theorem aC6{names:List ac}{c:List aQ}(d:names.length=c.length)(l:names.Nodup):names.filterMap (λn=>((names.zip c).lookup n).map (n,·))=names.zip c:=by
 haveI m:∀(dK:List ac)(a:List aQ)(names:List ac)(c:List aQ),dK.length=a.length->names.length=c.length->(dK++names).Nodup->
   names.filterMap (λn=>(((dK++names).zip<|a++c).lookup n).map (n,·))=names.zip c:=by
  intro dK a names;induction names generalizing dK a with
  |nil=>intro c _ h _;induction c<;>simp_all|cons n names q=>
   intro c p d l;induction c using bk with
   |nil=>cases d|cons z c=>
    haveI e:((dK++n::names).zip<|a++z::c).lookup n=J z:=by
     haveI:=OC (names:=dK++n::names) (zs:=a++z::c) (by simp [p];simpa using d) l (i:=dK.length) (x:=n)<|by simp
     rw [this,p];simp
    rw [List.filterMap_cons,e];simp only [AP,aHB];congr 1;haveI:=q (dK++[n]) (a++[z]) c (by simp [p]) (by simpa using d)<|by simpa using l
    simpa using this
 exact m [] [] names c rfl d (by simpa using l)
theorem aC7(n:Nat):List.drop (((aA:Option<|Array aQ).getD #[]).toList.length-n) ((aA:Option<|Array aQ).getD #[]).toList=[]:=List.drop_nil
theorem aC8(e:a.params.posonlyargs=[])(l:a.params.vararg=aA)(m:a.params.kwonlyargs=[])(p:a.params.kwarg=aA)(q:a.defaults=.none)(t:a.params.args=c)
  (v:¬(aJ (d.length>(c.map (·.arg)).length)&&(aA:Option Arg).isNone)=true) (w:¬(!(((c.map (·.arg)).take (c.map (·.arg)).length).filter λn=>(((c.map (·.arg)).zip d).lookup n).isNone).isEmpty)=true):
  Ro a ⟨d,[]⟩=gc (((c.map λx:Arg=>x.arg)++[]).filterMap λn=>(((c.map λx:Arg=>x.arg).zip d).lookup n).map (n,·)):=by
 obtain⟨nm,A,⟨B,ar,C,D,z,H,I⟩,bd,sc,g,cl,P,Q,dc,R,W,co,X,bl⟩:=a;subst e l m p q t;refine(if_neg v).trans ?_;rw [aC7];refine(if_neg w).trans ?_;rw [List.zip_nil_right];rfl
theorem aC9{a:IM}{zs:List aQ}(l:HB a.params=true)(hd:a.defaults=.none)(c:(a.params.args.map (·.arg)).length=zs.length)(d:(a.params.args.map (·.arg)).Nodup):
  Ro a ⟨zs,[]⟩=gc ((a.params.args.map (·.arg)).zip zs):=by
 haveI p:=bi.mp l;haveI q:=bi.mp p.1;haveI r:=bi.mp q.1;refine(aC8 (Rq.mp r.1) (Rr.mp r.2) (Rq.mp q.2) (Rr.mp p.2) hd rfl ?_ ?_).trans<|congrArg gc<|(congrArg (List.filterMap _)<|cI _).trans<|aC6 c d;·rw [c,decide_eq_false<|vd _];exact yA
 rw [List.filter_eq_nil_iff.mpr λx m=>?_];·refine oE (IN.mp<|RV m) λi e=>?_;rw [OC c d e,f7<|c▸(jM.mp e).1];exact yA
 exact yA
set_option backward.match.sparseCases false
section
variable{oj:ac->Option qZ}
theorem OD{n:ac}{z:aQ}{names:List ac}{a:List aQ}{m:ac->Option aQ}:IP oj ((n::names).zip<|z::a) m=IP oj (names.zip a) (if oj n=J .local then λy=>if y=n then J z else m y else m):=rfl
theorem OE{n:ac}{z:aQ}{names:List ac}{a:List aQ}{m:ac->Option aQ}:IQ oj ((n::names).zip<|z::a) m=IQ oj (names.zip a) (if oj n=J .local then m else λy=>if y=n then J z else m y):=rfl
theorem OF:∀{names:List ac}{a:List aQ}{m:ac->Option aQ},x∉names->IP oj (names.zip a) m x=m x
 |[],_,_,_=>rfl|_::_,[],_,_=>rfl|n::names,z::a,m,h=>by
  simp only [dA,not_or]at h;rw [OD];rw [OF h.2];split;·simp only [h.1,if_false]
  rfl
theorem OG:∀{names:List ac}{a:List aQ}{m:ac->Option aQ},x∉names->IQ oj (names.zip a) m x=m x
 |[],_,_,_=>rfl|_::_,[],_,_=>rfl|n::names,z::a,m,h=>by
  simp only [dA,not_or]at h;rw [OE];rw [OG h.2];split;·rfl
  simp only [h.1,if_false]
theorem OH(e:oj x=J .local):∀{names:List ac}{d:List aQ}{m:ac->Option aQ}{i:Nat}{z:aQ},names.Nodup->names[i]?=J x->d[i]?=J z->IP oj (names.zip d) m x=J z
 |[],_,_,_,_,_,h,_=>by simp at h|_::_,[],_,_,_,_,_,h=>by simp at h|n::names,t::d,m,i,z,l,a,c=>by
  haveI p:=(gN.mp l).1;haveI q:=(gN.mp l).2;rw [OD];induction i using iJ with
  |zero=>simp at a c;subst a;subst c;rw [OF p,if_pos e];simp|succ i=>simp at a c;exact OH e q a c
theorem OI(e:oj x≠J .local):∀{names:List ac}{d:List aQ}{m:ac->Option aQ}{i:Nat}{z:aQ},names.Nodup->names[i]?=J x->d[i]?=J z->IQ oj (names.zip d) m x=J z
 |[],_,_,_,_,_,h,_=>by simp at h|_::_,[],_,_,_,_,_,h=>by simp at h|n::names,t::d,m,i,z,l,a,c=>by
  haveI p:=(gN.mp l).1;haveI q:=(gN.mp l).2;rw [OE];induction i using iJ with
  |zero=>simp at a c;subst a;subst c;rw [OG p,if_neg e];simp|succ i=>simp at a c;exact OI e q a c
end
theorem aDa{k:ScopeKind}(h:(match k with|.function=>true|_=>false)=true):k=.function:=by induction k<;>first|rfl|exact ft h
section
set_option tactic.hygienic true in
theorem aDb(body:∀(C:fE),hW W C n->∀(cx:Cx)(ss:Ss)(l:List dm),rP cx ss l=true->rJ W C n cx ss l) (CS:hW W (xZ rS bW n) n):hW W (xZ rS bW<|n+1) (n+1):=by
 intro f wA H K a w ha A s φ xs Q hr R O rl k
 refine hJ w λfn hf KM w=>
   aG (kF.mp hf) λp hp bM=>?_;clear hf;subst bM
 haveI Az:p.1=a:=by
  unfold tV at ha
  rw [hp]at ha;exact ao ha
 haveI ck:=eI.mp W.k.2.2.2.2.2.2.2 _<|dU hp
 refine fj (Om ck) λt od fd sl hK m=>?_
 rw [Az]at hK
 haveI X:=W.l R
 haveI T:=W.T.keeps R.j
 refine aG (aEB m.g) λb hb aLy=>?_
 haveI hk:=m.h
 haveI eQ:xs.length=p.2.2.a:=by rw [<-rl.c,KM]
 haveI yZ:(p.2.2.b.take p.2.2.a).length=xs.length:=by rw [eQ,aHu,m.d];exact Nat.min_eq_left m.a
 have KN:(p.2.2.b.take p.2.2.a).Nodup:=List.Nodup.sublist (List.take_sublist _ _) m.e
 haveI Un:Ro fd ⟨xs,[]⟩=gc ((p.2.2.b.take p.2.2.a).zip xs):=by
  have:=aC9 (zs:=xs) m.i m.j (by rw [m.c];exact yZ)<|by rw [m.c];exact KN
  rw [m.c]at this;exact this
 haveI Up:∀x∈p.2.2.b.take p.2.2.a,fd.scope.names.lookup x=J .local\/fd.scope.names.lookup x=J .cell:=λx hx=>by
  have:=eI.mp m.k x hx
  rcases vm.mp this with q|q
  ·exact .inl<|C_.mp q
  ·exact .inr<|C'.mp q
 refine codeAny_call_cells (by haveI:=hr.2.1;exact(dg Y Z [.t (.a (.a Y<|.m 2 bN) dB) Z] U this)) (X _ _ hK) rfl T.nolimit (codeRec_of X m.l) hb Un (Rq.mp m.m) (λx hx=>?_) (λeE I=>?_) m.n m.o hk
 ·haveI Ds:x.1∈p.2.2.b.take p.2.2.a:=(List.of_mem_zip hx).1
  rcases Up _ Ds with q|q
  ·exact .inl q
  ·exact .inr ⟨q,aHC _ _ _<|.inl q⟩
 ·clear Up Un yZ eQ T X ck Az hp ha;obtain⟨⟨j7,aLz,rfl⟩,ns,aLA,aNs⟩:=I.toInCall
  have M:=R.u (h':=j7) aLA
  haveI dL:∀b,s.heap.objs.size<=b->s.heap.get? b=none:=λb hb=>DX hb
  have D:∀x c,(AQ fd s.heap.objs.size a).cells.lookup x=J c->s.heap.get? c=none:=λx c e=>dL c<|RZ<|I.above x c<|yB e
  have oi:∀b,s.heap.get? b=aA->W.j.get? b=none:=λb d=>by
   induction q:W.j.get? b with
   |none=>rfl
   |some o=>rw [R.j _ _ q]at d;exact iC d
  have KO:s.heap.get? (AQ fd s.heap.objs.size a).locals=none:=dL _<|aK _
  have B:∀(i:Nat)(x:ac),(xg p.2.2 fd.scope).j[i]?=J (J x)->p.2.2.b[i]?=J x/\(fd.scope.names.lookup x=J .local\/fd.scope.names.lookup x=J .cell):=by
   intro i x e
   simp only [xg,jJ,kF]at e
   refine aG e λy e1 e2=>?_
   split at e2
   ·rename_i q
    (replace e2:=ao e2;clear e;subst e2)
    refine⟨e1,?_⟩
    refine aU (vm.mp q) ?_ ?_
    ·intro q;exact .inl<|C_.mp q
    ·intro q;exact .inr<|C'.mp q
   ·exact aX e2
  have Uq:∀(i:Nat)(v:V),(wA.map J++jK (p.2.2.c-p.2.2.a) aA)[i]?=J (J v)->wA[i]?=J v:=by
   intro i v e
   refine aU (fV i wA.length) ?_ ?_
   ·intro h;rw [jL<|by simpa using h]at e
    simpa using e
   ·intro h;rw [kf<|by simpa using h]at e
    rw [aHw]at e
    split at e<;>cases e
  have Ur:∀(i:Nat)(x:ac)(v:V),p.2.2.b[i]?=J x->wA[i]?=J v->(p.2.2.b.take p.2.2.a)[i]?=J x:=by
   intro i x v e1 e2
   have:i<p.2.2.a:=by rw [<-KM];exact(jM.mp e2).1
   rw [aHr this];exact e1
  haveI F:dS W (xg p.2.2 fd.scope) (AQ fd s.heap.objs.size a) (wA.map J++jK (p.2.2.c-p.2.2.a) aA) φ j7:=by
   refine⟨rfl,hk,m.p,m.q,?_,⟨_,ns,λi x v e1 e2 e3=>?_⟩,λi x e1 e2=>?_,λi j x e1 e2=>?_,λx y c e1 e2=>?_,⟨xr R KO,oi _ KO⟩,λx c e=>⟨?_,xr R<|D x c e⟩⟩
   ·simp only [xg,b9,ai,List.length_replicate,m.d,KM];exact(bj (bb (.a Y Z) aB [.e (.a Z Y) aB] U<|bY<|aV Y Z [.l Y Z] U m.a)<|bb Y (.a Z aB) [.g (.a aB Z) Y] U<|bY<|aV Y Z [.l Y Z] U m.a)
   ·haveI n1:=(B i x e1).1
    have a1:=Uq i v e3
    refine aG (rl.f a1) λz ez rz=>
      bU z (OH e2 KN (Ur i x v n1 a1) ez) (M.2.d R rz)
   ·haveI n1:=(B i x e1).1;haveI n2:=(B i x e1).2
    haveI Us:fd.scope.names.lookup x=J .cell:=n2.resolve_left e2
    refine oE (pc.mp<|aHC fd.scope.names (s.heap.objs.size+1) []<|.inl Us) λc hc=>?_
    have uP:(AQ fd s.heap.objs.size a).cells.lookup x=J c:=hc
    refine sU c _ Us uP (I.cell x c uP) (xr R<|D x c uP) ?_ (oi _<|D x c uP) λv e3=>?_
    ·exact aGU<|I.above x c<|yB uP
    ·haveI a1:=Uq i v e3
     refine aG (rl.f a1) λz ez rz=>
       bU z (OI e2 KN (Ur i x v n1 a1) ez) (M.2.d R rz)
   ·haveI n1:=(B i x e1).1
    haveI n2:=(B j x e2).1
    obtain⟨h1,q1⟩:=jM.mp n1
    obtain⟨h2,q2⟩:=jM.mp n2
    have P:=Rs.mp m.e
    refine aU (IR i j) ?_ λqz=>aU qz ?_ ?_
    ·intro h;exact absurd (q1.trans q2.symm)<|P i j h1 h2 h
    ·intro h;exact h
    ·intro h;exact absurd (q2.trans q1.symm)<|P j i h2 h1 h
   ·exact name_of_addr I.apart (yB e1)<|yB e2
   ·refine aG (I.cell x c e) λo g _=>⟨o,g⟩
  haveI nO:∀b,jY (AQ fd s.heap.objs.size a) b->s.heap.get? b=none:=λb o=>by
   refine aU o ?_ ?_
   ·intro fX;clear o;subst fX;exact KO
   ·refine λqz=>oE qz λx e=>D x b e
  haveI rE:oR (A.deeper (AQ fd s.heap.objs.size a)) n:=⟨hr.1,by
   haveI:=hr.2.1;exact(dg (.a (.a aR<|.m 2 Z) bq) aB [.t (.a (.a Y<|.m 2 aY) dB) aB] U this),by
   haveI:=hr.2.2;exact(dg (.a (.a fL (.m 20 Z)) (.n 215)) aB [.t (.a (.a Y (.m 20 aY)) (.n 200)) aB] U this)⟩
  refine body _ CS _ _ _ aLy _ _ _ _ φ H {s with heap:=j7,toks:=aLz} _ _ rE F M.1 O w λfl g_ H' hK cD s' fw R' S' F' O' r=>?_
  have S:b_ φ s.heap cD s'.heap:=((M.2.f R M.1).c S').y nO
  induction fl with
  |a=>rw [r];exact k _ _ hK cD s' _ R' S rfl O'
  |c=>rw [r];exact k _ _ hK cD s' _ R' S rfl O'
  |b v=>refine aG r λz bT rz=>?_;rw [bT];exact k _ _ hK cD s' z R' S rz O'
end
set_option backward.match.sparseCases true
section
variable{E:aQ->bG->Prop}
theorem aDc
  (h:aq M A (AR C) (λr a=>match r with
   |none=>Q (.done .next) a
   |some v=>aq M A (IK d C v) (λ_ l=>aq M A (vu d env v) (λ_ m=>aq M A (AS y env (gC y env)) (λD c=>if D then
     aq M A (gC z env) (λx n=>aq M A (pZ (.builtin "list.append") [B,x]) (λ_ p=>Q (.again<|.compLoop (.ListComp z [⟨d,q,[y],0⟩] sc pos) 0 C B env) p) E n) E c
    else Q (.again (.compLoop (.ListComp z [⟨d,q,[y],0⟩] sc pos) 0 C B env)) c) E m) E l) E a) E s):
  aq M A (DY (.ListComp z [⟨d,q,[y],0⟩] sc pos) 0 C B env) Q E s:=by
 unfold DY
 haveI W:((0:Nat)!=0)=false:=rfl
 simp only [List.getElem?_cons_zero]
 refine bC<|th ?_
 refine bC (m:=AR C)<|iw h (λr a t=>?_) λ_ _ e=>e
 induction r with
 |none=>exact bm t
 |some v=>
  refine bC<|iw t (λ_ l H=>bC<|iw H (λ_ m I=>?_) λ_ _ e=>e) λ_ _ e=>e
  refine bC ?_
  rw [IS]
  refine bC (m:=(do let D<-AS y env<|gC y env;gc<|Rt D))<|bC<|iw I (λD c w=>bm ?_) λ_ _ e=>e
  dsimp only
  rw [Ru]
  refine bm ?_
  induction D with
  |true=>exact bC<|bC<|iw w (λx n P=>bC<|iw P (λ_ p R=>bm<|bm R) λ_ _ e=>e) λ_ _ e=>e
  |false=>exact bm w
theorem aDd
  (h:aq M A (AR H) (λr a=>match r with
   |none=>Q (.done .next) a
   |some v=>aq M A (IK p H v) (λ_ d=>aq M A (vu p env v) (λ_ e=>
    aq M A (gC q env) (λx l=>aq M A (pZ (.builtin "list.append") [t,x]) (λ_ m=>Q (.again (.compLoop (.ListComp q [⟨p,w,[],0⟩] sc pos) 0 H t env)) m) E l) E e) E d) E a) E s):
  aq M A (DY (.ListComp q [⟨p,w,[],0⟩] sc pos) 0 H t env) Q E s:=by
 rw [compTurn_list1]
 refine bC<|th<|bC<|iw h (λr a n=>?_) λ_ _ c=>c
 induction r with
 |none=>exact bm n
 |some v=>
  exact bC (iw n (λ_ d z=>bC (iw z (λ_ e B=>bC (bC (iw B (λx l C=>bC (iw C
   (λ_ m D=>bm (bm D)) λ_ _ c=>c)) λ_ _ c=>c))) λ_ _ c=>c)) λ_ _ c=>c)
noncomputable def pP(a:List<|ac×cO):List (ac×qZ)->List (ac×cO)->List (ac×cO)|[],c=>c|(n,k)::r,c=>if k==.free then pP a r ((n,(a.lookup n).getD 0)::c)else pP a r c
theorem Gi(f:ac×qZ->List (ac×cO)->rW (ForInStep<|List<|ac×cO))
  (m:∀n k d,f (n,k) d=if k==.free then(do let a<-cellOf env n;gc<|.yield<|(n,a)::d)else gc<|.yield d) (q:env.cells=e):
  ∀(names:List<|ac×qZ)(d:List<|ac×cO){Q:List (ac×cO)->bG->Prop},(∀p∈names,p.2=.free->(e.lookup p.1).isSome=true)->Q (pP e names d) s->aq M A (forIn names d f) Q E s
 |[],d,Q,_,h=>by rw [Ru];exact bm h|(n,k)::r,d,Q,t,h=>by
  rw [IS,m];unfold pP at h;split at h
  ·rename_i l;rw [if_pos l];obtain⟨c,w⟩:=pc.mp<|t (n,k) (.head _)<|by simpa using l
   rw [w]at h;refine bC<|bC<|wpAny_cellOf (by rw [q];exact w)<|bm ?_;exact Gi f m q r _ (λp v=>t p<|.tail _ v) h
  rename_i l;rw [if_neg l];exact bC<|bm<|Gi f m q r _ (λp v=>t p<|.tail _ v) h
theorem aDe(a:∀p∈sc.names,p.2=.free->(env.cells.lookup p.1).isSome=true) (h:Q (pP env.cells sc.names []) s):aq M A (closureFor sc env) Q E s:=by refine bC<|Gi _ (λn k c=>?_) rfl sc.names [] a (bm h);induction k<;>rfl
theorem Cc:∀(names:List<|ac×qZ)(d:List<|ac×cO),(∀p∈names,p.2=.free->(a.lookup p.1).isSome=true)->(∀x c,(x,c)∈d->a.lookup x=J c)->∀x c,(x,c)∈pP a names d->a.lookup x=J c
 |[],_,_,h,x,c,m=>h x c m|(n,k)::r,d,l,h,x,c,m=>by
  unfold pP at m;split at m
  ·rename_i t;obtain⟨w,v⟩:=pc.mp<|l (n,k) (.head _)<|by simpa using t
   refine Cc r _ (λp q=>l p<|.tail _ q) (λx c m=>?_) x c m;refine aU (dA.mp m) ?_ ?_;·intro e;cases e;rw [v];rfl
   intro m;exact h x c m
  exact Cc r _ (λp q=>l p<|.tail _ q) h x c m
theorem Gj:∀(names:List<|ac×qZ)(a:List<|ac×cO),((a.lookup x).isSome=true\/(x,Rv)∈names)->((pP d names a).lookup x).isSome=true
 |[],_,h=>h.elim id λm=>nomatch m|(n,k)::r,a,h=>by
  unfold pP;by_cases l:(k==.free)=true
  ·rw [if_pos l];refine Gj r _ ?_;by_cases c:(x==n)=true;·left;rw [kG,c];rfl
   rw [DQ]at c;rcases h with h|h;·left;rw [kG,c];exact h
   refine aU (dA.mp h) ?_ ?_;·intro e;cases e;rw [beq_self_eq_true]at c;exact tf c
   intro h;right;exact h
  rw [if_neg l];refine Gj r _ ?_;rcases h with h|h;·exact .inl h
  refine aU (dA.mp h) ?_ ?_;·intro e;cases e;exact absurd rfl l
  intro h;exact .inr h
theorem aDf(a:∀p∈sc.names,p.2≠.cell)
  (h:Q {scope:=sc,locals:=s.heap.objs.size,globals,cells:=d,qual,func:=aA,code:=env.code,frame:=env.frame,builtins:=env.builtins} {s with heap:=s.heap.push {cls:=.type "dict",data:=.dict #[]}}):
  aq M A (newFunctionEnv sc globals d [] qual aA .none<|J env) Q E s:=by
 refine bC<|wpAny_alloc ?_
 refine bC (Rw (forIn_yield_id d (λp e c=>by
  obtain⟨n,k⟩:=p
  have:(k==DZ)=false:=by simpa using a _ e
  simp only [this,ti,if_false])) ?_)
 simp only [Ru]
 exact bC<|bm<|bm h
end
noncomputable def lS(a:List Nat)(G:dx):dx:=a.foldl (λG i=>G.set i aA) G
theorem OJ(a:List Nat):∀G:dx,(lS a G).length=G.length:=by
 induction a with
 |nil=>intro G;rfl|cons i a c=>intro G;refine(?_:(lS a<|G.set i aA).length=_);rw [c];simp
theorem ze:∀{G:dx},(lS c G)[j]?=J (J v)->j∉c/\G[j]?=J (J v):=by
 induction c with
 |nil=>intro G h;exact⟨c_,h⟩|cons i c d=>
  intro G h;haveI l:=(d (G:=G.set i aA) h).1;haveI a:=(d (G:=G.set i aA) h).2;by_cases e:i=j;·clear h d;clear l;subst e;rw [Rx]at a;simp only [if_true]at a;split at a<;>cases a
  rw [qY e]at a;exact⟨by simp only [dA,not_or];exact⟨λz=>e z.symm,l⟩,a⟩
theorem OK:∀{a:List Nat}{G:dx},i∉a->(lS a G).set i x=lS a (G.set i x)|[],_,_=>rfl|j::a,G,h=>by simp only [dA,not_or]at h;refine(?_:(lS a<|G.set j aA).set i x=lS a ((G.set i x).set j aA));rw [OK h.2,List.set_comm _ _<|iX h.1]
theorem OL:∀{is:List Nat}{vs:List V}{G:dx},is.Nodup->qM is vs (lS is G)=(qM is vs G).map id\/is.length≠vs.length
 |[],[],G,_=>.inl rfl|[],_::_,_,_=>.inr<|by simp|_::_,[],_,_=>.inr<|by simp|i::is,v::vs,G,a=>by
  haveI c:=(gN.mp a).1;haveI d:=(gN.mp a).2;rcases OL (is:=is) (vs:=vs) (G:=G.set i<|J v) d with h|h;·left;show qM is vs ((lS is<|G.set i aA).set i<|J v)=(qM is vs<|G.set i<|J v).map id;rw [OK c,IG];exact h
  right;simpa using h
theorem OM:∀{c:List Nat}{d:List V}{G a:dx},qM c d G=J a->c.length=d.length|[],[],_,_,_=>rfl|[],_::_,_,_,h=>by exact aX h|_::_,[],_,_,h=>by exact aX h|i::c,v::d,G,a,h=>by simp [OM (G:=G.set i<|J v) h]
theorem aDg(l:(gM t).Nodup)(h:t.b v G=J a):t.b v (lS (gM t) G)=J a:=by
 induction t with
 |a i=>
  (replace h:=ao h;subst h)
  refine(?_:J ((G.set i aA).set i<|J v)=_);rw [IG]
 |c c=>
  refine aG (DW.mp h) λd m e=>(?_:v.z.bind _=_)
  rw [m];refine(?_:qM c d (lS c G)=J a);refine aU (OL (is:=c) (vs:=d) (G:=G) l) ?_ ?_;·intro q;rw [q,e];rfl
  intro q;exact absurd (OM e) q
theorem ON:∀(c:List Nat)(d:List ac)(a:List<|Option ac),(xb c d a).length=a.length|[],[],_=>rfl|[],_::_,_=>rfl|_::_,[],_=>rfl|i::c,x::d,a=>by refine(?_:(xb c d<|a.set i<|J x).length=_);rw [ON];simp
theorem Gk:∀(d:List Nat)(m:List ac)(n:List<|Option ac),d.length=m.length->(xb d m n)[j]?=J (J x)->(∃a:Nat,d[a]?=J j/\m[a]?=J x)\/(j∉d/\n[j]?=J (J x))
 |[],[],_,_,h=>.inr ⟨c_,h⟩|[],_::_,_,l,_=>by cases l|_::_,[],_,l,_=>by cases l|i::d,q::m,n,l,h=>by
  rcases Gk d m (n.set i<|J q) (by simpa using l) h with⟨a,p,c⟩|⟨p,c⟩;·exact .inl ⟨a+1,by simpa using p,by simpa using c⟩
  by_cases e:i=j
  ·clear h l;clear p;subst e;rw [Rx]at c;simp only [if_true]at c;split at c;·cases c;exact .inl ⟨0,rfl,rfl⟩
   exact aX c
  rw [qY e]at c;exact .inr ⟨by simp only [dA,not_or];exact⟨λz=>e z.symm,p⟩,c⟩
theorem zf(o sc:mK)(x:ac):(oO o sc).names.lookup x=(sc.names.lookup x).map (λk=>if vL (J k)&&mH (o.names.lookup x)then .cell else k):=by
 refine(?_:(sc.names.map _).lookup x=_);generalize sc.names=l;induction l with
 |nil=>rfl|cons p l d=>
  obtain⟨n,k⟩:=p;simp only [g9];by_cases c:(x==n)=true
  ·haveI:=beq_iff_eq.mp c;rw [<-this];by_cases a:(vL (J k)&&mH (o.names.lookup x))=true;·simp only [a,if_true,kG,beq_self_eq_true,AP]
   rw [DQ]at a;simp only [a,ti,if_false,kG,beq_self_eq_true,AP]
  rw [DQ]at c;by_cases a:(vL (J k)&&mH (o.names.lookup n))=true;·simp only [a,if_true,kG,c];exact d
  rw [DQ]at a;simp only [a,ti,if_false,kG,c];exact d
structure zg(cx:Cx)(sc:mK)(t:Tg)(gP:bp):Prop where
 b:sc.kind=.function
 e:∀p∈sc.names,p.2≠.cell
 f:∀p∈sc.names,p.2=.free->cx.d.names.lookup p.1=J .cell/\∃i:Nat,cx.j[i]?=J (J p.1)
 g:(sc.names.map (·.1)).Nodup
 a:∀x∈tJ gP,sc.names.lookup x=J .local
 d:(gM t).length=(tJ gP).length
 c:(gM t).Nodup
 h:(tJ gP).Nodup
theorem Gl(h:tK d sc t a=true):zg d sc t a:=by
 unfold tK at h;simp only [iV,decide_eq_true_eq,eI,beq_iff_eq]at h;obtain⟨⟨⟨⟨⟨⟨⟨⟨n,C⟩,D⟩,l⟩,q⟩,v⟩,w⟩,z⟩,A⟩:=h;refine⟨aDa n,λp c e=>?_,λp c e=>?_,q,λx B=>C_.mp<|v x B,w,z,A⟩;·have:=l p c;rw [e]at this;exact ft this
 have:=l p c;rw [e]at this;simp only [iV]at this;refine⟨C'.mp this.1,?_⟩;haveI m:J p.1∈d.j:=List.contains_iff_mem.mp this.2;exact IN.mp m
theorem aDh{c:Type}{l:List<|ac×c}{x:ac}{k:c}(a:(l.map (·.1)).Nodup)(h:(x,k)∈l):l.lookup x=J k:=by
 induction l with
 |nil=>exact bR h|cons p l m=>
  obtain⟨n,v⟩:=p;simp only [g9]at a;haveI q:=(gN.mp a).1;haveI t:=(gN.mp a).2;refine aU (dA.mp h) ?_ ?_;·intro e;cases e;simp
  intro d;have:(x==n)=false:=beq_eq_false_iff_ne.mpr λe=>by clear h a;subst e;exact q<|bc.mpr ⟨(x,k),d,rfl⟩
  rw [kG,this];exact m t d
section
theorem Gm(I:zg a sc t d)(F:dS W a env G q h):∀p∈sc.names,p.2=.free->(env.cells.lookup p.1).isSome=true:=λp l e=>by
 obtain⟨m,i,n⟩:=I.f p l e;obtain⟨c,v,k1,k2,_⟩:=F.q i p.1 n<|by rw [m];simp
 rw [k2];rfl
theorem aDi(I:zg B sc t D)(F:dS W B env G φ h)(R:aZ W φ H h)(hd:h.get? L=aA)(k:vV h h')(hn:h'.Ns L λ_=>aA)
  (e1:cenv.scope=oO B.d sc) (e2:cenv.locals=L) (e3:cenv.globals=env.globals) (e4:cenv.builtins=env.builtins) (e5:cenv.cells=pP env.cells sc.names []):
  dS W (B.n sc t D) cenv (lS (gM t) G) φ h':=by
 haveI M:=R.u k;haveI w:W.j.get? L=none:=by
  induction q:W.j.get? L with
  |none=>rfl|some o=>rw [R.j _ _ q]at hd;exact iC hd
 haveI fc:=Gm I F;have l:∀x c,cenv.cells.lookup x=J c->env.cells.lookup x=J c:=λx c e=>by rw [e5]at e;exact Cc sc.names [] fc (λ_ _ m=>nomatch m) x c<|yB e
 have n:∀(i:Nat)(x:ac),(B.n sc t D).j[i]?=J (J x)->(∃a:Nat,(gM t)[a]?=J i/\(tJ D)[a]?=J x)\/(i∉gM t/\B.j[i]?=J (J x)/\B.d.names.lookup x=J .cell/\sc.names.lookup x=J .free):=by
  intro i x hx;refine aU (Gk _ _ _ I.d hx) ?_ ?_;·intro q;exact .inl q
  refine λA=>on A λC p=>?_;right;rw [jJ,kF]at p;refine aG p λo o1 Q=>?_;induction o with
  |none=>exact aX Q|some y=>
   simp only [Option.filter_some]at Q;split at Q
   ·rename_i hc
    (replace Q:=ao Q;rw [<-Q])
    haveI c1:=(bi.mp hc).1;haveI c2:=(bi.mp hc).2;exact⟨C,o1,C'.mp c1,aFL.mp c2⟩
   exact aX Q
 refine⟨e1,I.b,e3.trans F.s,e4.trans F.u,?_,⟨λ_=>aA,e2▸hn,λi x v a b c=>?_⟩,λi x a b=>?_,λi j x a b=>?_,λx y c a b=>F.w x y c (l _ _ a)<|l _ _ b,⟨by rw [e2];exact xr R hd,by rw [e2];exact w⟩,λx c a=>?_⟩;·refine(?_:(lS (gM t) G).length=(xb _ _ _).length);rw [OJ,ON,ai];exact F.A
 ·exfalso;haveI c1:=(ze c).1;haveI c2:=(ze c).2;refine aU (n i x a) ?_ ?_;·refine λA=>aG A λa1 C p=>c1<|dU C
  refine λA=>qo A λC p q3 X=>?_;haveI b':(oO B.d sc).names.lookup x=J .local:=b;rw [zf,X,AP,q3]at b';cases b'
 ·refine aU (n i x a) ?_ ?_
  ·refine λA=>aG A λa1 C p=>?_;exfalso;apply b;refine(?_:(oO B.d sc).names.lookup x=J .local);rw [zf,I.a x<|dU p];rfl
  refine λA=>qo A λC p q3 X=>?_;obtain⟨c,oc,k1,k2,⟨ob,g,d⟩,k4,k5,k6,k7⟩:=F.q i x p<|by rw [q3];simp
  haveI EH:cenv.cells.lookup x=J c:=by
   have:(cenv.cells.lookup x).isSome=true:=by rw [e5];exact Gj sc.names []<|.inr<|yB X
   refine oE (pc.mp this) λc' uP=>?_;haveI:=l x c' uP;rw [k2]at this;(replace this:=ao this;rw [this]);exact uP
  refine sU c oc ?_ EH ⟨ob,k _ _ g,d⟩ k4 ?_ k6 λv hv=>?_;·refine(?_:(oO B.d sc).names.lookup x=J .cell);rw [zf,X,AP,q3];rfl
  ·rw [e2];exact λz=>by clear EH k6 k5 k4 k2 w e2 hn;subst z;rw [hd]at g;exact aX g
  haveI c2:=(ze hv).2;refine aG (k7 v c2) λz ez rz=>bU z ez (M.2.d R rz)
 ·rcases n i x a with⟨a1,C,p⟩|⟨C,p,q3,X⟩<;>rcases n j x b with⟨b1,r1,r2⟩|⟨r1,r2,r3,r4⟩
  ·have:a1=b1:=by
    obtain⟨h1,z1⟩:=jM.mp p;obtain⟨h2,z2⟩:=jM.mp r2;have P:=Rs.mp I.h;refine aU (IR a1 b1) ?_ λA=>aU A ?_ ?_;·intro h;exact absurd (z1.trans z2.symm)<|P _ _ h1 h2 h
    ·intro h;exact h
    ·intro h;exact absurd (z2.trans z1.symm)<|P _ _ h2 h1 h
   clear r2 p;subst this;rw [C]at r1;exact ao r1
  ·rw [I.a x<|dU p]at r4;cases r4
  ·rw [I.a x<|dU r2]at X;cases X
  exact F.inj _ _ _ p r2
 haveI cG:=(F.p x c<|l x c a).1;haveI m:=(F.p x c<|l x c a).2;obtain⟨o,g⟩:=cG;exact⟨⟨o,k _ _ g⟩,m⟩
end
section
variable{W:Wd}
theorem aDj(I:gz s.heap e d l g i)(h:Q (.ref d) s):aq (bL W.i W.w) A (yC<|.ref d) Q m s:=by
 unfold gz at I;split at I;·refine aG I λp _ I=>wpAny_pyIter_listiter I h
 rcases I with⟨t,n,q,I,_⟩|⟨x,t,_,I|I⟩|⟨a,c,_,_,I⟩;·exact wpAny_pyIter_tupleiter I h
 ·exact wpAny_pyIter_striter_ascii I h
 ·exact wpAny_pyIter_striter_wide I h
 exact wpAny_pyIter_rangeiter I h
theorem OO(R:aZ W c H s.heap)(O:Ok W s)(e:H[l]?=J (.a p))(w:p.length<1000000)(q:aT s.heap c (.j l) d)(x:aT s.heap c v y)
  (k:dw W c s (H.set l<|.a<|p++[v]) .o Q):aq (bL W.i W.w) A (pZ (.builtin "list.append") [d,y]) Q B s:=by
 obtain⟨a,C,rfl,_⟩:=R.t e q;refine sK (Qb R O e w q x k) λitems m n t z=>D5 aHD ⟨_,t,rfl⟩ F.entry_list_append (F.args_list_append_2 _ _) (list_append _ items m y n) ⟨t,z⟩
def tI(W:Wd)(w:Cx)(cenv:kH)(c:dR)(e:e_)(t:cO)(l:List V)(g:Option Nat)(x:List Nat)(n:Nat)(q:aQ)(body:V->dx->Hp->(Fl->dx->Hp->Prop)->Prop)(z:Fl->dx->Hp->Prop)(m:Nat)(d:bG):Prop:=
 X4 λi p a v=>Eo (m=l.length+1-i) (i<=l.length) (aZ W a v d.heap) (eG (λb=>b=cenv.locals) c e a d.heap) (dS W w cenv (lS x p) a d.heap) (Ok W d) (gz d.heap a t l g i) (¬f6 a t) (aT d.heap a (.j n) q)<|jx (λh=>fS h g l) body (l.drop i) p v z
def zh(W:Wd)(cenv:kH)(c:dR)(d:e_)(e:Nat)(n:aQ)(t:Fl->dx->Hp->Prop)(l:bG):Prop:=
 X4 λp a q m=>A8 (t .a p q) (aZ W a q l.heap) (eG (λb=>b=cenv.locals) c d a l.heap) (Ok W l) (aT l.heap a (.j e) n) (l.heap.Ns cenv.locals m) (¬f6 a cenv.locals)<|W.j.get? cenv.locals=aA
theorem dS.C(z:List Nat)(F:dS W H cenv G I h):dS W H cenv (lS z G) I h:=by
 refine aG F.t λm P e=>⟨F.f,F.n,F.s,F.u,(OJ z G).trans F.A,⟨m,P,λi x v a b c=>e i x v a b (ze c).2⟩,λi x a b=>?_,F.inj,F.w,F.l,F.p⟩
 refine sP (F.q i x a b) λc Q k1 k2 k3 k4 k5 k6 k7=>sU c Q k1 k2 k3 k4 k5 k6 (λv e=>k7 v (ze e).2)
def Cd(C:fE)(t:Tg)(e:E)(a:Nat):V->dx->Hp->(Fl->dx->Hp->Prop)->Prop:=λv G d m=>∃c,t.b v G=J c/\cK C bW e c d λx d=>∃l,d[a]?=J (.a l)/\l.length<1000000/\m .a c (d.set a<|.a<|l++[x])
def Gn(C:fE)(t:Tg)(e q:E)(c:Nat):V->dx->Hp->(Fl->dx->Hp->Prop)->Prop:=λv G d m=>∃a,t.b v G=J a/\jm C bW q a d λb d=>if b then cK C bW e a d λx d=>∃l,d[c]?=J (.a l)/\l.length<1000000/\m .a a (d.set c<|.a<|l++[x])else m .a a d
theorem OP{K:Fl->dx->Hp->Prop}{m:Nat}{s:bG}
  {N:aQ->bG->Prop} {D:bG->Prop} (hh:A.handled=aA) (ht:cx.q t gP=true) (BV:(gM t).Nodup) (hX:∀i∈gM t,∀x,cx.j[i]?=J (J x)->Wr cx cenv (λb=>b=cenv.locals) x) (nO:¬jY cenv ia) (d:C.get? ia=aA) (oi:W.j.get? ia=aA)
  (hb:∀v G h K,body v G h K->∃g_,t.b v G=J g_)
  (h:tI W cx cenv p C ia vs g (gM t) BW nP body K m s)
  (hD:∀s',zh W cenv p C BW nP K s'->D s')
  (hN:∀v a g_ H φ s',t.b v a=J g_->aZ W φ H s'.heap->eG (λb=>b=cenv.locals) p C φ s'.heap->dS W cx cenv g_ φ s'.heap->Ok W s'->aT s'.heap φ (.j BW) nP->
   (∃K',body v a H K'/\∀fl P H',K' fl P H'->fl=.a->∀q X,aZ W q H' X.heap->eG (λb=>b=cenv.locals) φ s'.heap q X.heap->dS W cx cenv P q X.heap->Ok W X->∃m',m'<m/\tI W cx cenv p C ia vs g (gM t) BW nP body K m' X)->N .none s'):
  aq (bL W.i W.w) A (AR (.ref ia)) (λr eE=>match r with
   |none=>D eE
   |some v=>aq (bL W.i W.w) A (IK gP (.ref ia) v) (λ_ Q=>aq (bL W.i W.w) A (vu gP cenv v) (λ_ oe=>N .none oe) Eh Q) Eh eE) Eh s:=by
 obtain⟨i,a,q,H',rfl,hi,R,S,F,O,I,c,qh,w⟩:=h
 have BX:ia≠cenv.locals:=λe=>nO<|.inl e
 induction hd:vs.drop i using bk with
 |nil=>
  haveI eQ:i=vs.length:=by
   have:=congrArg gB hd
   simp at this;exact(bj (aV Y Z [.l Y Z] U hi)<|bb Y Z [.e aB bQ,.g (.a aB Z) Y] U this<|bY<|aV Y Z [.l Y Z] U hi)
  rw [hd]at w
  clear hd hN hi;subst eQ
  haveI wY:=w.1;haveI hK:=w.2
  refine sO I.b λo go fs dd=>
    RB R hh wY I λh' tk eb=>hD _ ?_
  have T:=xp go dd eb
  refine aG ((F.B eb nO T).t) λmm hn _=>
    ⟨a,q,H',mm,hK,R.B eb c oi T,S.s d eb,O,aT.b T (f8 _) _ qh,hn,F.l.1,F.l.2⟩
 |cons v bo=>
  rw [hd]at w
  haveI BQ:vs[i]?=J v:=by
   haveI:=congrArg (·[0]?) hd
   simpa using this
  haveI tt:i<vs.length:=(jM.mp BQ).1
  haveI wY:=w.1;haveI w:=w.2
  refine sO I.b λo go fs dd=>
    oE (hb _ _ _ _ w) λKH e1=>
    RA R wY I c BQ λh' tk z rz I' eb=>?_
  haveI T:=xp go dd eb
  haveI R':=R.B eb c oi T
  haveI S':=S.s d eb
  haveI F':=F.B eb nO T
  haveI KI:=aT.b T (f8 _) _ rz
  refine N_ (s:={s with heap:=h',toks:=tk}) I'<|
    Hq (s:={s with heap:=h',toks:=tk}) hX ht hh F' R' O (aDg BV e1) KI λQ nN l pq dp=>?_
  haveI BR:=S'.c l
  have BS:gz Q.heap q ia vs g (i+1):=I'.f (λo go=>l.i _ _ go c BX) l.j l.f
  refine sO BS.b λaLx KJ _ _=>?_
  have n:=aT.b l.j l.f _<|aT.b T (f8 _) _ qh
  refine hN v a KH H' q Q e1 nN BR pq dp n ⟨_,w,λfl P iK hK jp aLB X EX B F'' O''=>?_⟩
  subst jp
  exact⟨vs.length+1-(i+1),(jA Y Z [.e (.a Y bN) fM,.g (.a Z aB) fM] U (bY (aV aR aY [.l Y Z] U hi)) (bY (aV Y aY [.l Y Z] U hi))),i+1,P,aLB,iK,rfl,tt,EX,BR.c B,F''.C _,O'',BS.f (λo go=>B.i _ _ go c BX) B.j B.f,B.r KJ c,aT.b B.j B.f _ n,by
   have:vs.drop (i+1)=bo:=by
    haveI:=congrArg aHz hd
    simpa [aHA]using this
   rw [this];exact hK⟩
end
section
theorem aDk{K:Fl->dx->Hp->Prop}{m:Nat}{s:bG}{R:Result->bG->Prop}
  (hr:oR A n) (ht:cx.q t gP=true) (BV:(gM t).Nodup) (hX:∀i∈gM t,∀x,cx.j[i]?=J (J x)->Wr cx cenv (λb=>b=cenv.locals) x) (nO:¬jY cenv ia) (d:D.get? ia=aA) (oi:W.j.get? ia=aA)
  (h1:bJ W C n cx kM x) (h2:f_ W C n cx q y) (h:tI W cx cenv I D ia vs g (gM t) p X (Gn C t kM q p) K m s)
  (hR:∀s',zh W cenv I D p X K s'->R (.ok .next) s'):
  yD (bL W.i W.w) A (.compLoop (.ListComp x [⟨gP,ya,[y],0⟩] sc vp) 0 (.ref ia) X cenv) R s:=by
 refine aHE rfl (tI W cx cenv I D ia vs g (gM t) p X (Gn C t kM q p) K) (λm s h=>?_) m h;show aq _ A ((DY (.ListComp x [⟨gP,ya,[y],0⟩] sc vp) 0 (.ref ia) X cenv).onRaise λx=>do noteFrame x cenv;aHF x) _ _ s;refine aHG<|aDc<|OP (N:=λ_ oe=>aq (bL W.i W.w) A (AS y cenv<|gC y cenv) _ _ oe) hr.1 ht BV hX nO d oi (λv G h K hb=>hb.imp λ_ z=>z.1) h hR ?_;rintro v Ui g_ H φ s' e1 a oh B f9 qh ⟨K',⟨aLE,e2,w⟩,next⟩;rw [e1]at e2;(replace e2:=ao e2;subst e2);refine h2 A _ cenv g_ φ H s' _ _ hr B a f9 w λb i6 hv l P c e dp=>?_;haveI SX:eG (λb=>b=cenv.locals) φ s'.heap l P.heap:=e.f a c;induction b with
 |false=>exact⟨rfl,next _ _ _ hv rfl l P c SX (B.d a e) dp⟩|true=>have Q:=e.d a qh;refine h1 A _ cenv g_ l i6 P _ _ hr (B.d a e) c dp hv λu wW hw BK oe z BU Ee rz og=>hJ hw λxs ex hb hK=>OO BU og ex hb (Ee.d c Q) rz λaLF BL _ Ut BM _ BN=>?_;haveI BY:=b_.c BU (b_.c c e Ee) BM;exact⟨rfl,next _ _ _ hK rfl aLF BL Ut (BY.f a Ut) (B.d a BY) BN⟩
theorem OQ{K:Fl->dx->Hp->Prop}{m:Nat}{s:bG}{R:Result->bG->Prop}
  (hr:oR A n) (ht:cx.q t gP=true) (BV:(gM t).Nodup) (hX:∀i∈gM t,∀x,cx.j[i]?=J (J x)->Wr cx cenv (λb=>b=cenv.locals) x) (nO:¬jY cenv ia) (d:e.get? ia=aA) (Q:W.j.get? ia=aA)
  (h1:bJ W C n cx kM x) (h:tI W cx cenv l e ia vs g (gM t) a p (Cd C t kM a) K m s)
  (hR:∀s',zh W cenv l e a p K s'->R (.ok .next) s'):
  yD (bL W.i W.w) A (.compLoop (.ListComp x [⟨gP,ya,[],0⟩] sc vp) 0 (.ref ia) p cenv) R s:=by
 refine aHE rfl (tI W cx cenv l e ia vs g (gM t) a p (Cd C t kM a) K) (λm s h=>?_) m h;show aq _ A ((DY (.ListComp x [⟨gP,ya,[],0⟩] sc vp) 0 (.ref ia) p cenv).onRaise λx=>do noteFrame x cenv;aHF x) _ _ s;refine aHG<|aDd<|OP (N:=λ_ q=>aq (bL W.i W.w) A (gC x cenv) _ _ q) hr.1 ht BV hX nO d Q (λv G h K hb=>hb.imp λ_ z=>z.1) h hR ?_;rintro v Ui g_ H φ s' e1 c oh B f9 qh ⟨K',⟨aLE,e2,w⟩,next⟩;rw [e1]at e2;(replace e2:=ao e2;subst e2);refine h1 A _ cenv g_ φ H s' _ _ hr B c f9 w λu wW hw BK q z D I rz og=>hJ hw λxs ex hb hK=>OO D og ex hb (I.d c qh) rz λX BL _ P BM _ BN=>?_;haveI BY:=b_.c D I BM;exact⟨rfl,next _ _ _ hK rfl X BL P (BY.f c P) (B.d c BY) BN⟩
noncomputable def pQ(env:kH)(a:Cx)(sc:mK)(L:cO):PySem.Env:=
 {scope:=oO a.d sc,locals:=L,globals:=env.globals,cells:=pP env.cells sc.names [],qual:=env.qual,func:=aA,code:=env.code,frame:=env.frame,builtins:=env.builtins}
theorem aDl(F:dS W a env G l h)(sc:mK):
  ({sc with names:=sc.names.map λ(n,k)=>if(k==.free&&env.scope.kind==.function&&env.kindOf n==J .cell)=true then(n,.cell)else(n,k)}:mK)=oO a.d sc:=by
 unfold oO;congr 1;refine mL λp _=>?_;obtain⟨nm,k⟩:=p;haveI c:(k==Rv)=vL (J k):=by induction k<;>rfl
 haveI d:(env.scope.kind==Ry)=true:=by rw [F.f,F.n];rfl
 haveI e:(env.kindOf nm==J DZ)=mH (a.d.names.lookup nm):=by
  unfold tj;rw [F.f];induction a.d.names.lookup nm with
  |none=>rfl|some k=>induction k<;>rfl
 dsimp only;rw [c,d,e,Bool.and_true]
theorem aDm{s a:bG}{sc:mK}{t:Tg}{P:bp}{Q:List V}{g:Option Nat}{p:cO}{body:V->dx->Hp->(Fl->dx->Hp->Prop)->Prop}{K:Fl->dx->Hp->Prop}
  (I:zg D sc t P) (F:dS W D env G φ s.heap) (R:aZ W φ H s.heap) (v:aZ W l z a.heap) (X:b_ φ s.heap l a.heap) (f9:Ok W a) (d:s.heap.get? p=aA) (sB:¬f6 l p) (B:gz a.heap l p Q g 0)
  (w:jx (λh=>fS h g Q) body Q G (z++[.a []]) K):
  ∃C:bG,C={a with heap:=(a.heap.push {cls:=.type "list",data:=.seq #[]}).push {cls:=.type "dict",data:=.dict #[]}}/\
   tI W (D.n sc t P) (pQ env D sc<|a.heap.objs.size+1) φ s.heap p Q g (gM t) z.length (.ref a.heap.objs.size) body K (Q.length+1) C/\
   ¬jY (pQ env D sc<|a.heap.objs.size+1) p/\W.j.get? p=aA/\s.heap.get? (a.heap.objs.size+1)=none:=by
 refine⟨_,rfl,?_⟩;refine sO B.b λo go fs dd=>?_;haveI tt:p<a.heap.objs.size:=aHH go;have c:=v.ac (h':=a.heap.push {cls:=.type "list",data:=.seq #[]}) (vs:=[]) (xs:=[]) (n:=0) (λb o g=>iA _ g) (qT _) v.K (oY _ rfl) rfl;haveI S2:=b_.c v X c.2;haveI sz:(a.heap.push {cls:=.type "list",data:=.seq #[]}).objs.size=a.heap.objs.size+1:=IT ..;haveI dL:(a.heap.push {cls:=.type "list",data:=.seq #[]}).get? (a.heap.objs.size+1)=none:=DX<|by rw [sz];exact aK _
 haveI ex:vV (a.heap.push {cls:=.type "list",data:=.seq #[]}) ((a.heap.push {cls:=.type "list",data:=.seq #[]}).push {cls:=.type "dict",data:=.dict #[]}):=λb o g=>iA _ g;haveI A:=c.1.u ex;haveI F2:=F.d R S2;haveI hn:((a.heap.push {cls:=.type "list",data:=.seq #[]}).push {cls:=.type "dict",data:=.dict #[]}).Ns (a.heap.objs.size+1) (λ_=>aA):=by haveI:=Heap.Ns.new (a.heap.push {cls:=.type "list",data:=.seq #[]})<|.type "dict";rw [sz]at this;exact this
 haveI F3:=aDi (cenv:=pQ env D sc<|a.heap.objs.size+1) I F2 c.1 dL ex hn rfl rfl rfl rfl rfl;haveI S3:=b_.c c.1 S2 A.2;haveI dL0:s.heap.get? (a.heap.objs.size+1)=none:=Hm c.1 S2 dL;haveI nO:¬jY (pQ env D sc<|a.heap.objs.size+1) p:=λo=>by
  refine aU o ?_ ?_;·intro e;haveI e':p=a.heap.objs.size+1:=e;rw [e']at tt;exact vd _<|lW (tc _) tt
  refine λqz=>oE qz λx e=>?_;have:env.cells.lookup x=J p:=Cc sc.names [] (Gm I F) (λ_ _ m=>nomatch m) x p<|yB e;exact Gh F d<|.inr ⟨x,this⟩
 haveI aLH:∀o,a.heap.get? p=J o->((a.heap.push {cls:=.type "list",data:=.seq #[]}).push {cls:=.type "dict",data:=.dict #[]}).get? p=J o:=λo g=>iA _<|iA _ g;haveI Jl:iU a.heap ((a.heap.push {cls:=.type "list",data:=.seq #[]}).push {cls:=.type "dict",data:=.dict #[]}):=λ_ _ _ g=>iA _<|iA _ g;haveI aLI:¬f6 (l++[(a.heap.objs.size,a.heap.objs.size)]) p:=Cz (W:=W) (H':=z) c.2 go sB;refine⟨⟨0,G,_,_,rfl,jI _,A.1,S3.f R A.1,F3,f9,B.f aLH Jl<|IU _ _,aLI,v.G _ _ _,w⟩,nO,?_,dL0⟩;induction q:W.j.get? p with
 |none=>rfl|some o=>rw [R.j _ _ q]at d;exact iC d
end
section
theorem OR(R:aZ W p z c)(S:eG (λb=>b=L) t q p c) (x:c.Ns L m) (hm:¬f6 p L) (A:W.j.get? L=aA) (d:q.get? L=aA) (w:Rz L c l):
  aZ W p z l/\b_ t q p l/\iU c l:=by
 refine wu x λo es B g dd _=>?_;haveI T:iU c l:=λa C n v=>w.extBut a _ (λe=>by clear x;subst e;rw [g]at v;(replace v:=ao v;clear g;subst v);exact AT dd) v;exact⟨R.B w.extBut hm A T,(S.s d w.extBut).y λb e=>e▸d,T⟩
theorem Gp{body:Nat->V->dx->Hp->(Fl->dx->Hp->Prop)->Prop}{K:V->Hp->Prop}{use:Option<|aQ->rW Unit}{Q:aQ->bG->Prop}
  (hr:oR A n) (I:zg X sc t gP) (hs:kZ B=true) (h0:bJ W C n X it B) (F:dS W X env G φ s.heap) (R:aZ W φ H s.heap) (O:Ok W s)
  (w:cK C bW it G H λv h=>∃vs g,xX h v=J (vs,g)/\jx (λh=>fS h g vs) (body h.length) vs G (h++[.a []]) λ_ _ h'=>K (.j h.length) h')
  (hl:∀cenv ia vs g D nP Kf m P,tI W (X.n sc t gP) cenv φ s.heap ia vs g (gM t) D nP (body D) Kf m P->¬jY cenv ia->s.heap.get? ia=aA->W.j.get? ia=aA->
   (∀i∈gM t,∀x,(X.n sc t gP).j[i]?=J (J x)->Wr (X.n sc t gP) cenv (λb=>b=cenv.locals) x)->
   yD (bL W.i W.w) A (.compLoop (.ListComp x [⟨gP,B,Uu,0⟩] sc vp) 0 (.ref ia) nP cenv) (λr P=>match r with|.ok _=>zh W cenv φ s.heap D nP Kf P|.error _=>False) P)
  (fC:∀L nP D cD H' P m,K (.j D) H'->aZ W cD H' P.heap->eG (λb=>b=L) φ s.heap cD P.heap->Ok W P->aT P.heap cD (.j D) nP->P.heap.Ns L m->¬f6 cD L->W.j.get? L=aA->s.heap.get? L=aA->¬jY env L->(match use with
   |none=>∀h',Rz L P.heap h'->Q nP {P with heap:=h'}
   |some u=>aq (bL W.i W.w) A (u nP) (λ_ wZ=>(∃m,wZ.heap.Ns L m)/\∀h',Rz L wZ.heap h'->Q .none {wZ with heap:=h'}) Eh P)):
  aq (bL W.i W.w) A (R_ (.ListComp x [⟨gP,B,Uu,0⟩] sc vp) sc env pos (SA []) false (gC B env) use) Q Eh s:=by
 haveI nM:aq (bL W.i W.w) A (gC B env) (λz eE=>aq (bL W.i W.w) A (yC z) (λUv c=>∃vs g q p ia,Uv=.ref ia/\aZ W p q c.heap/\b_ φ s.heap p c.heap/\Ok W c/\s.heap.get? ia=aA/\¬f6 p ia/\gz c.heap p ia vs g 0/\
   jx (λh=>fS h g vs) (body q.length) vs G (q++[.a []]) λ_ _ h'=>K (.j q.length) h') Eh eE) Eh s:=
  RE h0 A Eh env G φ H s (λvs g H'=>jx (λh=>fS h g vs) (body H'.length) vs G (H'++[Mine.O.a []]) λ_ _ h'=>K (.j H'.length) h') _ hr F R O w
   λvs g q hv p eE ia mX oh f9 st d sB BP=>⟨vs,g,q,p,ia,rfl,mX,oh,f9,d,sB,BP,hv⟩
 unfold R_
 refine bC<|iw nM (λz eE j7=>bC<|th<|bC<|Rw (OA hs env z)<|bC<|pd<|iw j7 (λUv c pt=>wpAny_standIf ?_) λ_ _ e=>e) λ_ _ e=>e
 clear j7 nM w O h0;obtain⟨vs,g,q,p,ia,rfl,mX,oh,f9,d,sB,BP,hv⟩:=pt
 obtain⟨oe,Ei,Ej,nO,oi,dL⟩:=aDm I F R mX oh f9 d sB BP hv
 refine bC (m:=SA [])<|wpAny_newObj_type ?_
 refine bC<|aDe (Gm I F) ?_
 refine bC<|aDf I.e ?_
 haveI sz:(c.heap.push {cls:=.type "list",data:=.seq #[]}).objs.size=c.heap.objs.size+1:=IT ..
 dsimp only
 haveI hsc:({kind:=sc.kind,names:=sc.names.map λx=>if(x.snd==Rv&&env.scope.kind==Ry&&env.kindOf x.fst==J DZ)=true then(x.fst,DZ)else(x.fst,x.snd),isGenerator:=sc.isGenerator,isCoroutine:=sc.isCoroutine,more:=sc.more}:mK)=oO X.d sc:=aDl F sc
 rw [hsc,sz]
 have BX:∀(l:List<|ac×qZ),(∀x∈l,x∈sc.names)->∀x∈l,x.2=.local->tj (pQ env X sc<|c.heap.objs.size+1) x.1=J .local:=by
  intro l hl x hx e
  refine(?_:(oO X.d sc).names.lookup x.1=J .local)
  haveI hm:(x.1,NameKind.local)∈sc.names:=by rw [<-e];exact hl x hx
  rw [zf,aDh I.g hm];rfl
 haveI KP:∀x∈(sc.names.filter λx=>(x.snd==NameKind.local||x.snd==DZ)&&x.fst !=aM ".0"),x∈sc.names:=λx hx=>(List.mem_filter.mp hx).1
 haveI hX:∀i∈gM t,∀x,(X.n sc t gP).j[i]?=J (J x)->Wr (X.n sc t gP) (pQ env X sc<|c.heap.objs.size+1) (λb=>b=(pQ env X sc<|c.heap.objs.size+1).locals) x:=by
  intro i hi x hx
  have hl:(oO X.d sc).names.lookup x=J .local:=by
   refine aU (Gk _ _ _ I.d hx) ?_ ?_
   ·refine λqz=>aG qz λa q1 q2=>?_;rw [zf,I.a x<|dU q2];rfl
   ·refine λqz=>on qz λq1 _=>absurd hi q1
  exact⟨λ_=>rfl,λhn=>absurd hl hn⟩
 haveI KQ:=hl _ ia vs g _ _ _ _ _ Ej nO d oi hX
 rw [Ei]at KQ
 obtain⟨i0,_,_,_,_,_,_,_,_,_,Uw,_⟩:=id Ej
 rw [Ei]at Uw
 haveI aLK:yD (bL W.i W.w) A (.compStart (.ListComp x [⟨gP,B,Uu,0⟩] sc vp) 0 (.ref ia) (.ref c.heap.objs.size)<|pQ env X sc<|c.heap.objs.size+1) (λr P=>match r with|.ok _=>zh W (pQ env X sc<|c.heap.objs.size+1) φ s.heap q.length (.ref c.heap.objs.size) (λ_ _ h'=>K (.j q.length) h') P|.error _=>False)
   {c with heap:=(c.heap.push {cls:=.type "list",data:=.seq #[]}).push {cls:=.type "dict",data:=.dict #[]}}:=
  codeAny_compStart_list KQ (aDj Uw KQ)
 refine pd<|bC<|wpAny_attempt<|pd<|wpAny_run<|Hv aLK λr P hr=>?_
 induction r with
 |error e=>exact hr.elim
 |ok f=>
  obtain⟨g_,cD,H',m,hK,R',S',O',qh,hn,hm,hb⟩:=hr
  haveI f:=fC (c.heap.objs.size+1) _ _ cD H' P m hK R' S' O' qh hn hm hb dL<|Gh F dL
  clear fC;induction use with
  |none=>exact bC<|pd<|aHI (cenv:=pQ env X sc<|c.heap.objs.size+1) I.b _ P m (BX _ λx hx=>KP x<|xx.mp hx) hn λh' m' _ sb=>bm<|f h' sb
  |some u=>
   refine bC<|wpAny_rule<|bC<|pd<|iw f (λ_ wZ hf=>?_) λ_ _ e=>e
   haveI cG:=hf.1;haveI hq:=hf.2;obtain⟨m2,Ix⟩:=cG
   refine bC<|aHI (cenv:=pQ env X sc<|c.heap.objs.size+1) I.b _ wZ m2 (BX _ λx hx=>?_) Ix λh' m' _ sb=>bm<|hq h' sb
   refine aU (eO.mp hx) ?_ ?_
   ·intro hx;exact KP x<|xx.mp<|List.mem_of_mem_drop hx
   ·intro hx;exact KP x<|xx.mp<|RV hx
end
section
theorem aDn(hs:kZ c=true)(ok:tK B sc t a=true)(h0:bJ W C n B it c)(ht:(B.n sc t a).q t a=true)(h1:bJ W C n (B.n sc t a) e x):
  bJ W C n B (.O e t it) (.ListComp x [⟨a,c,[],0⟩] sc p):=λA Eh env G φ H s K Q hr F R O w k=>by
 rw [aHJ];haveI I:=Gl ok;refine Gp (body:=Cd C t e) (use:=aA) hr I hs h0 F R O w (λcenv ia vs g l q Kf m D P v d db hX=>OQ hr ht I.c hX v d db h1 P λD h=>h) λL q l X H' D m hK R' S' O' z hn hm hb d _ h' sb=>fk (OR R' S' hn hm hb d sb) λe1 e2 e3=>k _ _ hK X {D with heap:=h'} q e1 e2 (aT.b e3 (f8 _) _ z) O'
theorem aDo(hs:kZ c=true)(ok:tK e sc t a=true)(h0:bJ W C n e it c)(ht:(e.n sc t a).q t a=true)(h1:bJ W C n (e.n sc t a) l x)(h2:f_ W C n (e.n sc t a) q y):
  bJ W C n e (.aa l t it q) (.ListComp x [⟨a,c,[y],0⟩] sc p):=λA Eh env G φ H s K Q hr F R O w k=>by
 rw [aHJ];haveI I:=Gl ok;refine Gp (body:=Gn C t l q) (use:=aA) hr I hs h0 F R O w (λcenv ia vs g v z Kf m P X B d db hX=>aDk hr ht I.c hX B d db h1 h2 X λP h=>h) λL z v cD H' P m hK R' S' O' D hn hm hb d _ h' sb=>fk (OR R' S' hn hm hb d sb) λe1 e2 e3=>k _ _ hK cD {P with heap:=h'} z e1 e2 (aT.b e3 (f8 _) _ D) O'
theorem aDp(F:dS W d env G A h)(m:pS (d.d.names.lookup x)=true)(q:(p.line==c.line)=true)(t:(!(sc.names.any λ(n,k)=>n==x&&(pS (J k)||mH (J k))))=true):
  Rm (.ListComp e a sc c) (J<|.Name x p) l env=gc true:=by
 haveI v:(env.blockKind==Ry)=true:=by unfold Env.blockKind;rw [F.f,F.n];rfl
 haveI w:(env.kindOf x==J NameKind.local)=true:=by unfold tj;rw [F.f,C_.mp m];rfl
 haveI z:(!(sc.names.any λ(n,k)=>n==x&&(k==.local||k==.cell)))=true:=by rw [<-t];congr 2;funext ⟨n,k⟩;induction k<;>rfl
 refine(?_:(gc (env.blockKind==.function&&env.kindOf x==J .local&&p.line==(aHK e a sc c).pos.line&&!(sc.names.any λ(n,k)=>n==x&&(k==.local||k==.cell))):rW Bool)=gc true);rw [v,w,z,show(p.line==(aHK e a sc c).pos.line)=true from q];rfl
theorem aDq(hl:pS (cx.d.names.lookup nm)=true)(hp:(p.line==P.line)=true)(hnm:(!(sc.names.any λ(n,k)=>n==nm&&(pS (J k)||mH (J k))))=true) (hv:cx.u i nm=true)
  (hs:kZ c=true) (ok:tK cx sc t l=true) (h0:bJ W C n cx it c) (ht:(cx.n sc t l).q t l=true) (h1:bJ W C n (cx.n sc t l) kM x):
  lR W C n cx (.r i kM t it) (.Assign [.Name nm p] (.ListComp x [⟨l,c,[],0⟩] sc P) q):=λA Eh env G φ H s K Q hr F R O w k=>by
 have e:exec (.Assign [.Name nm p] (.ListComp x [⟨l,c,[],0⟩] sc P) q) env=(do
   SC q
   if<-Rm (.ListComp x [⟨l,c,[],0⟩] sc P) (J<|.Name nm p) q.line env then
    aHL (.ListComp x [⟨l,c,[],0⟩] sc P) env (vu (.Name nm p) env)
    return .next
   let v<-gC (.ListComp x [⟨l,c,[],0⟩] sc P) env
   SC p
   bindName env nm v
   gc .next):=rfl
 rw [e,aDp F hl hp hnm]
 haveI I:=Gl ok
 haveI hi:=(Cx.w hv).1
 refine bC<|th<|bC<|bm ?_
 haveI ev:aHL (.ListComp x [⟨l,c,[],0⟩] sc P) env (vu (.Name nm p) env)=(do
   let _<-R_ (.ListComp x [⟨l,c,[],0⟩] sc P) sc env (firstIterPos [⟨l,c,[],0⟩] P) (SA []) false (gC c env) (J (vu (.Name nm p) env))):=rfl
 rw [ev]
 refine bC<|bC<|Gp (Q:=λ_ wZ=>aq (bL W.i W.w) A (gc ()) (λ_ s'=>aq (bL W.i W.w) A (gc Flow.next) Q Eh s') Eh wZ) (K:=λv h=>K .a (G.set i<|J v) h) (body:=Cd C t kM) (use:=J<|vu (.Name nm p) env) hr I hs h0 F R O w (λcenv ia vs g BW nP Kf m s' Ej z d db hX=>OQ hr ht I.c hX z d db h1 Ej λs' h=>h) λL nP BW cD H' s' m hK R' S' O' qh hn hm hb d z=>?_
 haveI S0:b_ φ s.heap cD s'.heap:=S'.y λb e=>e▸d
 haveI F':dS W cx env G cD s'.heap:=F.D S' λb e=>e▸z
 refine SD<|AG (AF env _) F' R' O' hi qh λX nN B pq dp=>?_
 refine wu (id hn) λo es ep g dd bo=>?_
 have D:=B.i _ _ g hm z
 refine⟨⟨m,o,es,ep,D,dd,bo⟩,λh' sb=>bm<|bm ?_⟩
 haveI T:iU X.heap h':=λa vs n ga=>sb.extBut a _ (λe=>by clear hn S';subst e;rw [D]at ga;(replace ga:=ao ga;clear D;subst ga);exact AT dd) ga
 haveI aLM:=B.r g hm
 exact k _ _ _ hK cD {X with heap:=h'} _ (nN.B sb.extBut aLM hb T) (((S0.f R R').c B).s d sb.extBut) (pq.B sb.extBut z T) dp rfl
end
structure GE(W:Wd)(C:fE)(n:Nat)(cx:Cx)(e:E)(x:bp):Prop where
 a:bJ W C n cx e x
 b:f_ W C n cx e x
structure bZ(W:Wd)(C:fE)(n:Nat)(e:E):Prop where
 g:∀(cx:Cx) x,bx cx e x=true->GE W C n cx e x
 b:∀(cx:Cx) op l p,qR cx op e l=true->GE W C n cx e (.BoolOp op l p)
def pR(W:Wd)(C:fE)(n:Nat)(es:Es):Prop:=∀(a:Cx) l,kA a es l=true->pX W C n a es l
section
theorem noT(h:∀G H m,jm C bW e G H m=False):f_ W C n a e x:=λA c env G d H s m Q l F R O w k=>(h G H m▸w).elim
theorem rK(d:∀a c l,qR a c e l=false) (h:∀a x,bx a e x=true->GE W C n a e x):bZ W C n e:=
 ⟨h,λa c l p q=>nt<|(d a c l).symm.trans q⟩
theorem gL(c:∀a d l,qR a d e l=false) (m:∀G H p,jm C bW e G H p=False) (h:∀a x,bx a e x=true->bJ W C n a e x):bZ W C n e:=
 rK c λa x q=>⟨h a x q,noT m⟩
theorem aDs:bZ W C n (.h v):=gL (λ_ _ _=>rfl) (λ_ _ _=>rfl) λc x h=>by refine cp (zm h) λk _ _ a h=>?_;rw [a];exact aFM<|of_decide_eq_true h
theorem aDt:bZ W C n (.q k v):=gL (λ_ _ _=>rfl) (λ_ _ _=>rfl) λe x h=>by
 refine cV (pV h) λx p c h=>?_;rw [c];refine on (bV h) λa d=>?_;unfold O4 at a;induction q:zt[k]? with
 |none=>rw [q]at a;exact ft a|some r=>rw [q]at a;exact aFN (y:=r.1) (i:=r.2) q (bV a).1 (of_decide_eq_true (bV a).2) d
theorem aDu{k a:Nat}:bZ W C n (.K k a):=gL (λ_ _ _=>rfl) (λ_ _ _=>rfl) λm x h=>by
 refine cV (pV h) λx p d h=>?_;rw [d];refine on (bV h) λc e=>?_;unfold O5 at c;induction q:mI[k]? with
 |none=>rw [q]at c;exact ft c|some r=>rw [q]at c;exact aFO (y:=r.1) (b:=r.2.1) (l:=r.2.2) q c e
theorem aDv:bZ W C n (.g i):=rK (λ_ _ _=>rfl) λc x h=>by refine cV (pV h) λx p a h=>?_;rw [a];exact⟨Qr h,aGB<|Qr h⟩
theorem aDw:bZ W C n .ab:=gL (λ_ _ _=>rfl) (λ_ _ _=>rfl) λ_ _ _ A a env G c H s e Q d F R O w k=>w.elim
theorem aDx{a:Nat}(g:bZ W C n e):bZ W C n (.l e a):=gL (λ_ _ _=>rfl) (λ_ _ _=>rfl) λd x h=>by refine cp (xd h) λo nm p c h=>?_;rw [c];haveI h:=eM h;exact aFS h.2.1 h.1 (g.g _ _ h.2.2).a
theorem aDy(g:bZ W C n a)(d:bZ W C n b):bZ W C n (.p a b):=gL (λ_ _ _=>rfl) (λ_ _ _=>rfl) λe x h=>by refine cp (xe h) λo s p c h=>?_;rw [c];haveI h:=eM h;exact aFT h.1 (g.g _ _ h.2.1).a (d.g _ _ h.2.2).a
theorem aDz(g:bZ W C n e):bZ W C n (.I e):=gL (λ_ _ _=>rfl) (λ_ _ _=>rfl) λz x h=>by refine cp (xe h) λo s p l h=>?_;rw [l];refine fj (Cg (bV h).1) λa b c q t d=>?_;rw [t];have d:=eM d;refine aG (rN d.2.2) λm v w=>?_;rw [v];rw [rO d.1,rO d.2.1];exact aFW w (g.g _ _ (bV h).2).a
theorem aDA(g:bZ W C n e):bZ W C n (.R e):=gL (λ_ _ _=>rfl) (λ_ _ _=>rfl) λz x h=>by refine cp (xe h) λo s p l h=>?_;rw [l];refine fj (Cg (bV h).1) λa b c q t d=>?_;rw [t];haveI d:=eM d;refine aG (rN d.2.2) λm v w=>?_;rw [v];rw [rO d.1,rO d.2.1];exact aFX w (g.g _ _ (bV h).2).a
theorem aDB(g:bZ W C n e):bZ W C n (.L e):=gL (λ_ _ _=>rfl) (λ_ _ _=>rfl) λz x h=>by refine cp (xe h) λo s p l h=>?_;rw [l];refine fj (Cg (bV h).1) λa b c q t d=>?_;rw [t];haveI d:=eM d;refine aG (rN d.2.2) λm v w=>?_;rw [v];rw [rO d.1,rO d.2.1];exact aFY w (g.g _ _ (bV h).2).a
theorem aDC(g:bZ W C n a)(v:bZ W C n b):bZ W C n (.S a b):=gL (λ_ _ _=>rfl) (λ_ _ _=>rfl) λz x h=>by refine cp (xe h) λo s p e h=>?_;rw [e];refine fj (Cg (bV h).1) λa b c q l d=>?_;rw [l];haveI d:=eM d;refine aG (rN d.2.2) λm t w=>?_;rw [t];rw [rO d.1,rO d.2.1];exact aFZ (g.g _ _ (bV h).2).a (v.g _ _ w).a
theorem aDD(g:bZ W C n a)(d:bZ W C n b):bZ W C n (.s q a b):=rK (λ_ _ _=>rfl) λl x h=>by refine fj (Gs h) λx o y p c h=>?_;rw [c];have h:=eM h;haveI e:=of_decide_eq_true h.1;exact⟨aF0 e (g.g _ _ h.2.1).a (d.g _ _ h.2.2).a,aGC e (g.g _ _ h.2.1).a (d.g _ _ h.2.2).a⟩
theorem aDE(g:bZ W C n e):bZ W C n (.C e):=gL (λ_ _ _=>rfl) (λ_ _ _=>rfl) λc x h=>by refine cp (zp h) λo x p a j=>?_;rw [a];clear h;rw [of_decide_eq_true (bV j).1];exact aF1 (g.g _ _ (bV j).2).a
theorem aDF(g:bZ W C n e):bZ W C n (.U e):=gL (λ_ _ _=>rfl) (λ_ _ _=>rfl) λc x h=>by refine cp (zp h) λo x p a j=>?_;rw [a];clear h;rw [of_decide_eq_true (bV j).1];exact aF2 (g.g _ _ (bV j).2).a
theorem aDG(g:bZ W C n e):bZ W C n (.B e):=rK (λ_ _ _=>rfl) λc x h=>by refine cp (zp h) λo x p a j=>?_;rw [a];clear h;rw [of_decide_eq_true (bV j).1];exact⟨aF3 (g.g _ _ (bV j).2).a,aGs (g.g _ _ (bV j).2).b⟩
theorem aDH(g:bZ W C n a)(m:bZ W C n b):bZ W C n (.w q a b):=rK (λ_ _ _=>rfl) λt x h=>by refine fj (Gu h) λx v w p l h=>?_;rw [l];have h:=eM h;refine aG (j_ h.1) λo c d=>?_;rw [c];refine aG (j_ h.2.1) λy c e=>?_;rw [c];haveI d:=of_decide_eq_true d;exact⟨aF4 d (bV e).1 (g.g _ _ h.2.2).a (m.g _ _ (bV e).2).a,aGy d (bV e).1 (g.g _ _ h.2.2).a (m.g _ _ (bV e).2).a⟩
theorem aDI(g:bZ W C n e):bZ W C n (.D e):=rK (λ_ _ _=>rfl) λm x h=>by refine fj (Gu h) λx q t p c j=>?_;rw [c];clear h;have j:=eM j;refine aG (j_ j.1) λo a l=>?_;rw [a];refine aG (j_ j.2.1) λy a d=>?_;rw [a];rw [of_decide_eq_true l];exact⟨aF5 d (g.g _ _ j.2.2).a,aGz d (g.g _ _ j.2.2).a⟩
theorem aDJ(g:bZ W C n e):bZ W C n (.M e):=rK (λ_ _ _=>rfl) λm x h=>by refine fj (Gu h) λx q t p c j=>?_;rw [c];clear h;have j:=eM j;refine aG (j_ j.1) λo a l=>?_;rw [a];refine aG (j_ j.2.1) λy a d=>?_;rw [a];rw [of_decide_eq_true l];exact⟨aF6 d (g.g _ _ j.2.2).a,aGA d (g.g _ _ j.2.2).a⟩
theorem aDK(d:bZ W C n q)(g:bZ W C n a)(e:bZ W C n b):bZ W C n (.F q a b):=rK (λ_ _ _=>rfl) λl x h=>by refine fj (aEp h) λx y z p c h=>?_;rw [c];have h:=eM h;exact⟨aF9 (d.g _ _ h.1).b (g.g _ _ h.2.1).a (e.g _ _ h.2.2).a,aGx (d.g _ _ h.1).b (g.g _ _ h.2.1).b (e.g _ _ h.2.2).b⟩
theorem aDL(g:pR W C n es):bZ W C n (.r es):=gL (λ_ _ _=>rfl) (λ_ _ _=>rfl) λc x h=>by refine cp (Ck h) λl _ p a h=>?_;rw [a];exact aGc (bV h).2 (of_decide_eq_true (bV h).1)<|g _ _ (bV h).2
theorem aDM(g:pR W C n es):bZ W C n (.u es):=gL (λ_ _ _=>rfl) (λ_ _ _=>rfl) λc x h=>by refine cV (O0 h) λl p a h=>?_;rw [a];exact aGd (bV h).2 (of_decide_eq_true (bV h).1)<|g _ _ (bV h).2
theorem aDN:bZ W C n (.A k):=gL (λ_ _ _=>rfl) (λ_ _ _=>rfl) λd x h=>by refine cp (aEq h) λa b p c h=>?_;rw [c];rw [jH (bV h).1,jH (bV h).2];exact aGe
theorem aDO(g:pR W C n es)(t:bZ W C n e):bZ W C n (.W es e):=gL (λ_ _ _=>rfl) (λ_ _ _=>rfl) λv x h=>by refine fj (Gs h) λy o m p a j=>?_;rw [a];clear h;haveI j:=eM j;rw [of_decide_eq_true j.1];refine cV (O0 j.2.1) λl q c d=>?_;rw [c];exact aGf (bV d).2 (of_decide_eq_true (bV d).1) (g _ _ (bV d).2) (t.g _ _ j.2.2).a
theorem aDP(g:pR W C n es)(t:bZ W C n e):bZ W C n (.X es e):=gL (λ_ _ _=>rfl) (λ_ _ _=>rfl) λv x h=>by refine fj (Gs h) λy o m p a j=>?_;rw [a];clear h;haveI j:=eM j;rw [of_decide_eq_true j.1];refine cp (Ck j.2.1) λl _ q c d=>?_;rw [c];exact aGg (bV d).2 (of_decide_eq_true (bV d).1) (g _ _ (bV d).2) (t.g _ _ j.2.2).a
theorem aDQ(e:hW W C n)(g:pR W C n es):bZ W C n (.j f es):=rK (λ_ _ _=>rfl) λm x h=>by refine fj (qO h) λy l k p a h=>?_;rw [a];have h:=eM h;refine cV (pV h.2.1) λz q c d=>?_;rw [c];rw [jH h.1];haveI s:=aGi (p:=q) (q:=p) e (bV d).1 (bV d).2 h.2.2<|g _ _ h.2.2;exact⟨s,aGD s⟩
theorem aDR(m:hW W C n)(g:pR W C n es):bZ W C n (.J c es):=gL (λ_ _ _=>rfl) (λ_ _ _=>rfl) λt x h=>by refine fj (qO h) λy l k p a h=>?_;rw [a];have h:=eM h;refine cV (pV h.2.1) λz q d e=>?_;rw [d];rw [jH h.1];exact aGk m (bV e).1 (bV e).2 h.2.2<|g _ _ h.2.2
theorem aDS(q:hW W C n)(t:bZ W C n e)(g:pR W C n es):bZ W C n (.G e m es):=gL (λ_ _ _=>rfl) (λ_ _ _=>rfl) λv x h=>by refine fj (qO h) λy l k p c h=>?_;rw [c];have h:=jz h;refine cp (xd h.2.1) λz nm w d a=>?_;rw [d];have a:=jz a;rw [jH h.1];exact aGj q a.1 a.2.1 (of_decide_eq_true h.2.2.1) a.2.2.1 h.2.2.2 (t.g _ _ a.2.2.2).a<|g _ _ h.2.2.2
theorem aDT(g:bZ W C n a)(t:bZ W C n b):bZ W C n (.y a b):=gL (λ_ _ _=>rfl) (λ_ _ _=>rfl) λv x h=>by refine fj (qO h) λy l k p d h=>?_;rw [d];have h:=eM h;refine cp (xd h.2.1) λz nm A e c=>?_;rw [e];have c:=jz c;refine aG (j_ h.2.2) λw m q=>?_;rw [m];rw [jH h.1];exact aGl c.1 c.2.1 c.2.2.1 (bV q).1 (g.g _ _ c.2.2.2).a (t.g _ _ (bV q).2).a
theorem aDU(g:bZ W C n e):bZ W C n (.Y e):=gL (λ_ _ _=>rfl) (λ_ _ _=>rfl) λm x h=>by refine fj (qO h) λy l k p c h=>?_;rw [c];haveI h:=eM h;refine cp (xd h.2.1) λz nm q d a=>?_;rw [d];have a:=jz a;rw [jH h.1,jH h.2.2];exact aGm a.1 a.2.1 a.2.2.1 (g.g _ _ a.2.2.2).a
theorem aDV(g:bZ W C n e)(w:bZ W C n i)(A:bZ W C n d):bZ W C n (.P e i d):=gL (λ_ _ _=>rfl) (λ_ _ _=>rfl) λB x h=>by refine fj (qO h) λy l k p m h=>?_;rw [m];haveI h:=eM h;refine cp (xd h.2.1) λz nm D q a=>?_;rw [q];have a:=jz a;refine cV (O2 h.2.2) λu v t c=>?_;rw [t];have c:=jz c;rw [jH h.1];exact aGn a.1 a.2.1 a.2.2.1 c.1 c.2.1 (g.g _ _ a.2.2.2).a (w.g _ _ c.2.2.1).a (A.g _ _ c.2.2.2).a
theorem qN(h:k0 (λg l k _=>ew k&&jy (λx _=>x==s&&c.f x) g&&p1 (λy=>fI y&&bx c e y) l) x=true):X4 λy q z p=>A5 (x=.Call (.Name y q) [z] [] p) ((y==s)=true) (fI z=true) (c.f y=true) (bx c e z=true):=by refine fj (qO h) λy l k p a h=>?_;rw [a];haveI h:=eM h;refine cV (pV h.2.1) λy q d n=>?_;rw [d];refine aG (j_ h.2.2) λz m t=>?_;rw [m];rw [jH h.1];exact⟨y,q,z,p,rfl,(bV n).1,(bV t).1,(bV n).2,(bV t).2⟩
theorem aDW(g:bZ W C n e):bZ W C n (.z e):=gL (λ_ _ _=>rfl) (λ_ _ _=>rfl) λt x h=>by refine Bi (qN h) λy q z p a c d l m=>?_;rw [a];exact aGo c d l (g.g _ _ m).a
theorem aDX(g:bZ W C n e):bZ W C n (.Q e):=gL (λ_ _ _=>rfl) (λ_ _ _=>rfl) λt x h=>by refine Bi (qN h) λy q z p a c d l m=>?_;rw [a];exact aGp c d l (g.g _ _ m).a
theorem aDY(g:bZ W C n e):bZ W C n (.T e):=gL (λ_ _ _=>rfl) (λ_ _ _=>rfl) λt x h=>by refine Bi (qN h) λy q z p a c d l m=>?_;rw [a];exact aGq c d l (g.g _ _ m).a
theorem aDZ(g:bZ W C n e):bZ W C n (.Z e):=gL (λ_ _ _=>rfl) (λ_ _ _=>rfl) λt x h=>by refine Bi (qN h) λy q z p a c d l m=>?_;rw [a];exact aGr c d l (g.g _ _ m).a
structure aD0(cx:Cx)(it kM:E)(t:Tg)(x ya:bp)(sc:mK)(gP:bp):Prop where
 a:kZ ya=true
 b:tK cx sc t gP=true
 c:bx cx it ya=true
 d:(cx.n sc t gP).q t gP=true
 e:bx (cx.n sc t gP) kM x=true
theorem OS(h:bx A (.O e t B) v=true):X5 λx c a sc p=>A2 (v=.ListComp x [⟨c,a,[],0⟩] sc p) (aD0 A B e t x a sc c):=by refine fj (Gx h) λx C sc p l h=>?_;rw [l];refine aG (j_ h) λm n h=>?_;obtain⟨c,a,q,z⟩:=m;rw [n];have d:=Gz h;haveI w:=eM d.1;rw [show z=0 from of_decide_eq_true w.1,show q=[]from jH w.2.1];exact⟨x,c,a,sc,p,rfl,w.2.2,d.2.1,d.2.2.1,d.2.2.2.1,d.2.2.2.2⟩
theorem aD1(g:bZ W C n a)(e:bZ W C n l):bZ W C n (.O a t l):=gL (λ_ _ _=>rfl) (λ_ _ _=>rfl) λq x h=>by refine Et (OS h) λx m d sc p c k=>?_;rw [c];exact aDn k.a k.b (e.g _ _ k.c).a k.d (g.g _ _ k.e).a
theorem aD2(g:bZ W C n c)(B:bZ W C n D)(H:bZ W C n q):bZ W C n (.aa c t D q):=gL (λ_ _ _=>rfl) (λ_ _ _=>rfl) λQ x h=>by refine fj (Gx h) λx R sc p d h=>?_;rw [d];refine aG (j_ h) λe l h=>?_;obtain⟨I,A,m,z⟩:=e;rw [l];have a:=Gz h;haveI v:=eM a.1;refine aG (j_ v.2.1) λy w P=>?_;haveI w:m=[y]:=w;rw [show z=0 from of_decide_eq_true v.1,w];exact aDo v.2.2 a.2.1 (B.g _ _ a.2.2.1).a a.2.2.2.1 (g.g _ _ a.2.2.2.2).a (H.g _ _ P).b
theorem bo(g:bZ W C n e)(h:(bif ew r then bx a e y else qR a c e<|y::r)=true)(p:nC):GE W C n a e (.BoolOp c (y::r) p):=by
 induction r using bk with
 |nil=>
  haveI q:=g.g a y h;refine⟨λA d env G l H s t Q m F R O w k=>BoolOp_one<|q.a A d env G l H s t Q m F R O w k,?_⟩;clear h;induction c with
  |And=>exact aGv q.b|Or=>exact aGw q.b
 |cons z r=>exact g.b a c _ p h
theorem OT(g:bZ W C n a)(t:bZ W C n b)(p:nC)(h:(aJ (e=.And)&&vP (λx y r=>bx c a x&&(bif ew r then bx c b y else qR c e b<|y::r)) l)=true):GE W C n c (.H a b) (.BoolOp e l p):=by obtain rfl:=of_decide_eq_true (bV h).1;refine cp (O3 (bV h).2) λx y r d j=>?_;clear h;subst d;haveI q:=bo t (bV j).2 p;haveI m:=g.g _ _ (bV j).1;exact⟨aF7 m.a q.a,aGt m.b q.b⟩
theorem OU(g:bZ W C n a)(t:bZ W C n b)(p:nC)(h:(aJ (e=.Or)&&vP (λx y r=>bx c a x&&(bif ew r then bx c b y else qR c e b<|y::r)) l)=true):GE W C n c (.N a b) (.BoolOp e l p):=by obtain rfl:=of_decide_eq_true (bV h).1;refine cp (O3 (bV h).2) λx y r d j=>?_;clear h;subst d;haveI q:=bo t (bV j).2 p;haveI m:=g.g _ _ (bV j).1;exact⟨aF8 m.a q.a,aGu m.b q.b⟩
theorem aD3(g:bZ W C n a)(d:bZ W C n b):bZ W C n (.H a b):=⟨λe x h=>by
 refine cp (OY h) λm l p c j=>?_;subst c
 clear h
 obtain rfl:=of_decide_eq_true (bV j).1
 exact OT g d p j,λe m l p j=>OT g d p j⟩
theorem aD4(g:bZ W C n a)(d:bZ W C n b):bZ W C n (.N a b):=⟨λe x h=>by
 refine cp (OY h) λm l p c j=>?_;subst c
 clear h
 obtain rfl:=of_decide_eq_true (bV j).1
 exact OU g d p j,λe m l p j=>OU g d p j⟩
theorem aD5:pR W C n .nil:=λa l h=>by
 induction l using bk with
 |nil=>exact aGa|cons _ _=>exact nt h
theorem aD6(g:bZ W C n e)(a:pR W C n es):pR W C n (.cons e es):=λc l h=>by
 induction l using bk with
 |nil=>exact nt h|cons x l=>haveI h:=eM h;exact aGb h.1 (g.g _ _ h.2.1).a<|a _ _ h.2.2
theorem jG(v:hW W C n):(e:E)->bZ W C n e:=E.rec (motive_1:=λe=>bZ W C n e) (motive_2:=λe=>pR W C n e)
 (λ_=>aDs)
 (λ_ _=>aDt)
 (λ_ _=>aDu)
 (λ_=>aDv)
 (λ_ _ a=>aDx a)
 (λ_ _ a p=>aDy a p)
 (λ_ a=>aDz a)
 (λ_ a=>aDA a)
 (λ_ a=>aDB a)
 (λ_ _ a p=>aDC a p)
 (λ_ _ _ d l=>aDD d l)
 (λ_ a=>aDE a)
 (λ_ a=>aDF a)
 (λ_ a=>aDG a)
 (λ_ _ _ d l=>aDH d l)
 (λ_ a=>aDI a)
 (λ_ a=>aDJ a)
 (λ_ _ d l=>aD3 d l)
 (λ_ _ d l=>aD4 d l)
 (λ_ _ _ t d l=>aDK t d l)
 (λ_ c=>aDL c)
 (λ_ c=>aDM c)
 (λ_=>aDN)
 (λ_ _ c a=>aDO c a)
 (λ_ _ c a=>aDP c a)
 (λ_ _ c=>aDQ v c)
 (λ_ _ c=>aDR v c)
 (λ_ _ _ a c=>aDS v a c)
 (λ_ _ a w=>aDT a w)
 (λ_ a=>aDU a)
 (λ_ _ _ a p x=>aDV a p x)
 (λ_ a=>aDW a)
 (λ_ a=>aDX a)
 (λ_ a=>aDY a)
 (λ_ a=>aDZ a)
 (λ_ _ _ m q=>aD1 m q)
 (λ_ _ _ _ m q t=>aD2 m q t)
 (aDw)
 (aD5)
 (λ_ _ a c=>aD6 a c)
end
set_option tactic.hygienic true in
theorem aD7(h:Oe e=true):e=.h .o:=by
 cases e<;>try exact nt h
 rename_i v;induction v<;>first|rfl|exact nt h
section
theorem aD8(w:hW W C n)(A:It)(x:bp)(h:H.A A x=true):xq W C n H A x/\kZ x=true:=by
 induction A with
 |e e=>exact⟨RE ((jG w e).g _ _ (bV h).2).a,(bV h).1⟩|c a=>refine fj (qO h) λy l k p t h=>?_;rw [t];have h:=eM h;refine cV (pV h.2.1) λy q d v=>?_;rw [d];refine aG (j_ h.2.2) λz B c=>?_;rw [B];rw [jH h.1];exact⟨aGH (bV v).1 (bV c).1 (bV v).2 ((jG w a).g _ _ (bV c).2).a,rfl⟩|f a b=>refine fj (qO h) λy l k p t h=>?_;rw [t];have h:=eM h;refine cV (pV h.2.1) λy q d v=>?_;rw [d];refine cV (O2 h.2.2) λz u d c=>?_;rw [d];have c:=jz c;rw [jH h.1];exact⟨aGI (bV v).1 c.1 c.2.1 (bV v).2 ((jG w a).g _ _ c.2.2.1).a ((jG w b).g _ _ c.2.2.2).a,rfl⟩|d a b=>refine fj (qO h) λy l k p t h=>?_;rw [t];have h:=eM h;refine cV (pV h.2.1) λy q d v=>?_;rw [d];refine cp (aEr h.2.2) λz u m D c=>?_;rw [D];have c:=Gz c;rw [jH h.1];exact⟨aGJ (bV v).1 c.1 c.2.1 (bV v).2 c.2.2.2.2 ((jG w a).g _ _ c.2.2.1).a ((jG w b).g _ _ c.2.2.2.1).a,rfl⟩
def lU(W:Wd)(C:fE)(n:Nat)(st:S):Prop:=∀(a:Cx)(x:dm),Of a st x=true->lR W C n a st x
def rM(W:Wd)(C:fE)(n:Nat)(a:Ss):Prop:=∀(c:Cx)(l:List dm),rP c a l=true->rJ W C n c a l
theorem aD9(c:hW W C n):lU W C n (.j e):=λd x h=>by refine cV (aEs h) λv p a h=>?_;rw [a];exact aCS (bV h).1 ((jG c _).g _ _ (bV h).2).a
theorem aEa(d:hW W C n):lU W C n (.d i e):=λm x h=>by refine cp (zr h) λq v p a h=>?_;rw [a];haveI h:=eM h;refine aG (j_ h.1) λt c l=>?_;rw [c];exact aCT h.2.1 l ((jG d _).g _ _ h.2.2).a
theorem aEb(m:hW W C n):lU W C n (.s w e):=λz x h=>by refine cp (zr h) λA v p a h=>?_;rw [a];have h:=jz h;refine aG (j_ h.1) λt c d=>?_;rw [c];refine cp (Ck d) λl _ q a d=>?_;rw [a];exact aCU h.2.1 h.2.2.1 d ((jG m _).g _ _ h.2.2.2).a
theorem aEc(z:hW W C n):lU W C n (.r i d t D):=λI x h=>by refine cp (zr h) λP v q c h=>?_;rw [c];haveI h:=bV h;refine aG (j_ h.1) λu l a=>?_;rw [l];refine cV (pV a) λnm p m a=>?_;rw [m];haveI a:=jz a;refine Et (OS h.2) λx H A sc Q w k=>?_;clear h;clear h c;subst w;refine fj (Gx a.2.2.2) λ_ _ _ _ e B=>?_;cases e;exact aDq a.2.1 (bV B).1 (bV B).2 a.1 k.a k.b ((jG z D).g _ _ k.c).a k.d ((jG z d).g _ _ k.e).a
theorem aEd(m:hW W C n):lU W C n (.k o a e):=λw x h=>by refine cp (zr h) λz v p c h=>?_;rw [c];haveI h:=eM h;refine aG (j_ h.1) λt l d=>?_;rw [l];refine cp (xd d) λt nm q c d=>?_;rw [c];exact aCV h.2.1 (bV d).1 ((jG m _).g _ _ (bV d).2).a ((jG m _).g _ _ h.2.2).a
theorem aEe(d:hW W C n):lU W C n (.m o i e):=λm x h=>by refine cp (zr h) λw v p a h=>?_;rw [a];haveI h:=eM h;refine aG (j_ h.1) λt l c=>?_;rw [l];refine cp (xe c) λt s q a c=>?_;rw [a];haveI c:=eM c;exact aCW h.2.1 ((jG d _).g _ _ c.2.1).a ((jG d _).g _ _ c.2.2).a ((jG d _).g _ _ h.2.2).a
theorem aEf(c:hW W C n):lU W C n (.p i q e):=λd x h=>by refine fj (aEt h) λt o v p a h=>?_;rw [a];have h:=jz h;exact aCX (of_decide_eq_true h.1) ((vm.mp h.2.1).imp of_decide_eq_true of_decide_eq_true) h.2.2.1 ((jG c _).g _ _ h.2.2.2).a
theorem aEg(d:hW W C n)(e:rM W C n a)(m:rM W C n b):lU W C n (.f q a b):=λt x h=>by refine fj (aEu h) λy l r p c h=>?_;rw [c];haveI h:=eM h;exact aCY ((jG d _).g _ _ h.1).b (e _ _ h.2.1)<|m _ _ h.2.2
theorem aEh(c:hW W C n)(d:rM W C n b):lU W C n (.n q b):=λe x h=>by refine fj (aEv h) λy l r p a h=>?_;rw [a];haveI h:=eM h;rw [jH h.1];exact aC4 ((jG c _).g _ _ h.2.1).b<|d _ _ h.2.2
theorem aEi(c:hW W C n)(d:rM W C n b):lU W C n (.l t e b):=λm x h=>by refine Et (aEw h) λy z l r p a h=>?_;rw [a];have h:=jz h;rw [jH h.1];haveI g:=aD8 c _ z h.2.2.1;exact aC5 g.2 h.2.1 g.1<|d _ _ h.2.2.2
theorem aEj(d:hW W C n):lU W C n (.g e):=λl x h=>by
 refine cV (aEx h) λo p a h=>?_;rw [a];rcases vm.mp h with h|h;·rw [rO (bV h).1,aD7 (bV h).2];exact aC0
 refine aG (rN h) λv c h=>?_;rw [c];exact aCZ ((jG d _).g _ _ h).a
theorem aEk:lU W C n .q:=λc x h=>by refine oE (aEy h) λp a=>?_;rw [a];exact aC1
theorem aEl:lU W C n .h:=λ_ _ _ A a env G c H s e Q d F R O w k=>w.elim
theorem aEm:rM W C n .nil:=λa l h=>by rw [jH (show ew l=true from h)];exact aC2
theorem aEn{st:S}{a:Ss}(g:lU W C n st)(d:rM W C n a):rM W C n (.cons st a):=λc l h=>by
 induction l using bk with
 |nil=>exact nt h|cons x l=>exact aC3 (g c x (bV h).1)<|d c l (bV h).2
theorem aEo(c:hW W C n):(d:Ss)->rM W C n d:=Ss.rec (motive_1:=λs=>lU W C n s) (motive_2:=λs=>rM W C n s)
 (λ_=>aD9 c) (λ_ _=>aEa c) (λ_ _ _ _=>aEc c) (λ_ _=>aEb c) (λ_ _ _=>aEd c) (λ_ _ _=>aEe c) (λ_ _ _=>aEf c)
 (λ_ _ _ a b=>aEg c a b) (λ_ _ b=>aEh c b) (λ_ _ _ b=>aEi c b) (λ_=>aEj c) aEk aEl aEm (λ_ _ s a=>aEn s a)
theorem OV(W:Wd):∀n,hW W (xZ rS bW n) n|0=>λf c H p a w=>w.elim|n+1=>aDb (λC d e m l h=>aEo d m e l h)<|OV W n
end
end Mine
end
section
namespace Mine
set_option tactic.hygienic false
set_option backward.match.sparseCases false
section
def ee{a:Type}(o:Option a)(c:a->Prop):Prop:=match o with|some x=>c x|none=>False
structure B'(p:Prop):Prop where
 a:p
structure je(o:O)(h:Hp)(K:Nat->Hp->Prop):Prop where
 a:K h.length<|h++[o]
structure pD{α:Type}(o:Option α)(K:α->Prop):Prop where
 a:ee o K
structure rd(l:Nat)(h:Hp)(K:O->Prop):Prop where
 a:ee h[l]? K
def br(b:Bool)(P Q:Prop):Prop:=match b with|true=>P|false=>Q
noncomputable def lk:List (Nat×V)->Nat->Option V|[],_=>aA|(b,x)::r,a=>match nB a b with|true=>J x|false=>lk r a
noncomputable def Xk(o:O)(a:Nat):Option V:=match o with|.b _ c=>lk c a|_=>aA
noncomputable def xJ:O->Option (List V)|.a a=>J a|_=>aA
noncomputable abbrev ME:=Nv
abbrev kx(a:V->Hp->Prop)(h:Hp)(x:V):Prop:=a x h
abbrev kl(a:V->Hp->Prop)(l:Nat)(h:Hp):Prop:=a (.j l) h
abbrev oF(a:Nat)(c:V->Prop)(o:O):Prop:=ee (Xk o a) c
def MF(v:V)(a:Nat)(h:Hp)(c:V->Prop):Prop:=match v with|.j l=>rd l h<|oF a c|_=>False
structure mj(v k:V)(h:Hp)(K:V->Prop):Prop where
 a:ee (oJ bW h v k) K
def MG(c:tF)(a b:Int)(d:Bool->Prop):Prop:=match c with|.c=>d<|aJ<|a=b|.d=>d<|!aJ (a=b)|.f=>d<|aJ<|a<b|.g=>d<|aJ<|a<=b|.h=>d<|aJ<|a>b|.e=>d<|aJ<|a≥b|_=>False
def FZ(c:tF)(x y:V)(h:Hp)(d:Bool->Prop):Prop:=match x with|.d a=>(match y with|.d b=>MG c a b d|y=>pD (eK bW h c (.d a) y) d)|x=>pD (eK bW h c x y) d
def qw(v:V)(h:Hp)(a:Bool->Prop):Prop:=match v with|.n b=>a b|.d i=>a<|aJ<|i≠0|v=>pD (oL h v) a
abbrev Xl(h:Hp)(d:V->Hp->Prop)(a c:List V):Prop:=a.length+c.length<1000000/\je (.a<|a++c) h (kl d)
abbrev Xm(h:Hp)(c:V->Hp->Prop)(a:List V)(q:O):Prop:=ee (xJ q)<|Xl h c a
abbrev Xn(r:Nat)(h:Hp)(c:V->Hp->Prop)(a:List V):Prop:=rd r h<|Xm h c a
abbrev Xo(r:Nat)(h:Hp)(a:V->Hp->Prop)(p:O):Prop:=ee (xJ p)<|Xn r h a
def MH(o:lO)(a b:Int)(h:Hp)(c:V->Hp->Prop):Prop:=match o with|.a=>c (.d<|a+b) h|.c=>c (.d<|a-b) h|.b=>c (.d<|aHg a b) h|.d=>c (.d<|aHh a b) h|o=>pD (mF o (.d a)<|.d b)<|kx c h
def MI(o:lO)(x y:V)(h:Hp)(c:V->Hp->Prop):Prop:=match x with|.d a=>(match y with|.d b=>MH o a b h c|_=>False)|.k a=>(match y with|.k b=>pD (mF o (.k a)<|.k b) (kx c h)|_=>False)|.j l=>(match y with|.j r=>o=.a/\rd l h (Xo r h c)|_=>False)|_=>False
structure xK(v:V)(h:Hp)(K:V->Hp->Prop):Prop where
 a:match v with
 |.k s=>s.length<1000000/\K (.k s.reverse) h
 |.j l=>rd l h λo=>ee (xJ o) λvs=>vs.length<1000000/\je (.a vs.reverse) h λl h=>K (.j l) h
 |_=>False
structure uu(v:V)(h:Hp)(K:List V->Prop):Prop where
 a:match v with
 |.j l=>rd l h λo=>ee (C9 o) λvs=>vs.length<1000000/\K vs
 |_=>False
structure CA(v:V)(h:Hp)(K:List V->Prop):Prop where
 a:match v with
 |.j l=>uu (.j l) h K
 |v=>ee v.z K
structure zE(v:V)(h:Hp)(K:Nat->Prop):Prop where
 a:match v with
 |.j l=>rd l h λo=>ee (ME o) λn=>n<1000000/\K n
 |v=>ee (xW h v) λn=>n<1000000/\K n
structure qE(v:V)(h:Hp)(K:List V->Option Nat->Prop):Prop where
 a:match v with
 |.j l=>rd l h λo=>ee (C9 o) λvs=>K vs<|J l
 |.k s=>K (s.map λc=>.k [c]) aA
 |v=>ee v.z λvs=>K vs aA
structure F0(d k v:V)(h:Hp)(K:Hp->Prop):Prop where
 a:match d with
 |.j l=>rd l h λo=>ee (qL o k v) λo'=>K<|h.set l o'
 |_=>False
abbrev Xp(l a:Nat)(v:V)(h:Hp)(e:Hp->Prop)(o:O):Prop:=match o with|.b c d=>br (oS c a) (e<|h.set l<|.b c<|lQ d a v) False|_=>False
def F1(d:V)(a:Nat)(v:V)(h:Hp)(c:Hp->Prop):Prop:=match d with|.j l=>rd l h<|Xp l a v h c|_=>False
structure CB(v y:V)(h:Hp)(K:V->Hp->Prop):Prop where
 a:match v with
 |.j l=>rd l h λo=>ee (xJ o) λvs=>vs.length<1000000/\K .o (h.set l<|.a<|vs++[y])
 |_=>False
def MJ(v:V)(h:Hp)(c:V->Hp->Prop):Prop:=match v with|.j l=>∃a y,h[l]?=J (.a<|a++[y])/\a.length<1000000/\c y (h.set l<|.a a)|_=>False
structure F8(v:V)(h:Hp):Prop where
 a:match v with
 |.j l=>rd l h λo=>ee (xJ o) λ_=>True
 |_=>False
abbrev Xq(body:aS->Hp->(Fl->aS->Hp->Prop)->Prop)(a:Fl->aS->Hp->Prop)(h:Hp)(G:aS):Prop:=body G h a
abbrev MK(f:aS->Hp->(Fl->aS->Hp->Prop)->Prop)(a:Fl->aS->Hp->Prop)(fl:Fl)(G:aS)(h:Hp):Prop:=match fl with|.b r=>a (.b r) G h|_=>f G h a
noncomputable def xL(body:aS->Hp->(Fl->aS->Hp->Prop)->Prop)(t:Tg)(a:List V)(g:Option Nat):List V->aS->Hp->(Fl->aS->Hp->Prop)->Prop|[],G,h,d=>B'<|fS h g a/\d .a G h|v::c,G,h,d=>B'<|fS h g a/\ee (t.b v G) (Xq body (MK (xL body t a g c) d) h)
abbrev Xr(body f:aS->Hp->(Fl->aS->Hp->Prop)->Prop)(G:aS)(c:Fl->aS->Hp->Prop)(t:Bool)(a:Hp):Prop:=br t (body G a<|MK f c)<|c .a G a
noncomputable def CC(c:aS->Hp->(Bool->Hp->Prop)->Prop)(body:aS->Hp->(Fl->aS->Hp->Prop)->Prop):Nat->aS->Hp->(Fl->aS->Hp->Prop)->Prop|0,_,_,_=>False|n+1,G,h,a=>c G h<|Xr body (CC c body n) G a
structure CD(c:aS->Hp->(Bool->Hp->Prop)->Prop)(body:aS->Hp->(Fl->aS->Hp->Prop)->Prop)(G:aS)(h:Hp)(K:Fl->aS->Hp->Prop):Prop where
 a:∃n,CC c body n G h K
structure xM(l:Nat)(x:V)(h:Hp)(K:Hp->Prop):Prop where
 a:rd l h λo=>ee (xJ o) λxs=>xs.length<1000000/\K (h.set l<|.a<|xs++[x])
structure ML(kM:aS->Hp->(V->Hp->Prop)->Prop)(t:Tg)(vs:List V)(g:Option Nat)(l:Nat)(G:aS)(h:Hp)(K:V->Hp->Prop):Prop where
 a:
 jx (λh=>fS h g vs) (λv G h' K=>ee (t.b v G) λg_=>kM g_ h' λx h'=>xM l x h' λh'=>K .a g_ h') vs G h λ_ _ h'=>K (.j l) h'
structure Xs(kM:aS->Hp->(V->Hp->Prop)->Prop)(c:aS->Hp->(Bool->Hp->Prop)->Prop)(t:Tg)(vs:List V)(g:Option Nat)(l:Nat)(G:aS)(h:Hp)(K:V->Hp->Prop):Prop where
 a:
 jx (λh=>fS h g vs) (λv G h' K=>ee (t.b v G) λg_=>c g_ h' λb h'=>br b (kM g_ h' λx h'=>xM l x h' λh'=>K .a g_ h')<|K .a g_ h') vs G h λ_ _ h'=>K (.j l) h'
abbrev oM(m:Nat)(d:Nat->Prop)(o:O):Prop:=match o with|.b c a=>(match lk a m with|none=>ee (bW.b c m) d|some _=>False)|_=>False
def MM(v:V)(m:Nat)(h:Hp)(a:Nat->Prop):Prop:=match v with|.j l=>rd l h<|oM m a|_=>False
def Xu(c:Nat)(a:Nat->Prop):Prop:=ee (bW.c c) a
noncomputable abbrev KV:=V->Hp->Prop
noncomputable abbrev KB:=Bool->Hp->Prop
noncomputable abbrev KL:=List V->Hp->Prop
noncomputable abbrev KS:=Fl->aS->Hp->Prop
noncomputable abbrev ii:=aS->Hp->KV->Prop
noncomputable abbrev zF:=aS->Hp->KB->Prop
noncomputable abbrev F9:=aS->Hp->KL->Prop
noncomputable abbrev MN:=aS->Hp->KS->Prop
abbrev k2(f:ii)(G:aS)(a:V->KV)(x:V)(h:Hp):Prop:=f G h<|a x
abbrev Xv(a:Nat)(c:KV)(v:V)(h:Hp):Prop:=MF v a h<|kx c h
abbrev Xw(a:KV)(x k:V)(h:Hp):Prop:=mj x k h<|kx a h
abbrev Xx(a:KV)(v:V)(h:Hp):Prop:=xK v h a
abbrev Xy(a:KV)(v:V)(h:Hp):Prop:=∃s,v=.k s/\s≠[]/\s.length<1000000/\a (.k s.dropLast) h
abbrev Xz(a:KV)(v:V)(h:Hp):Prop:=∃s,v=.k s/\s≠[]/\s.length<1000000/\a (.k s.tail) h
abbrev X_(c:KV)(k:V)(h:Hp)(a:List V):Prop:=∃i:Nat,k=.d i/\i<1000000/\je (.a<|a.take i) h (kl c)
abbrev X'(a:KV)(v k:V)(h:Hp):Prop:=uu v h<|X_ a k h
abbrev YA(o:lO)(a:KV)(x y:V)(h:Hp):Prop:=MI o x y h a
abbrev YB(a:KV)(v:V)(h:Hp):Prop:=match v with|.d i=>a (.d<|-i) h|_=>False
abbrev YC(a:KV)(v:V)(h:Hp):Prop:=match v with|.d i=>a (.d<|aHi i) h|_=>False
abbrev YD(a:KV)(h:Hp)(b:Bool):Prop:=a (.n<|!b) h
abbrev YE(a:KV)(v:V)(h:Hp):Prop:=qw v h<|YD a h
abbrev kB(a:KV)(h:Hp)(r:Bool):Prop:=a (.n r) h
abbrev YF(o:tF)(a:KV)(x y:V)(h:Hp):Prop:=FZ o x y h<|kB a h
abbrev YG(a:KV)(v:V)(h:Hp):Prop:=a (.n<|aJ<|v=.o) h
abbrev YH(a:KV)(v:V)(h:Hp):Prop:=a (.n<|!aJ (v=.o)) h
abbrev YI(f:ii)(G:aS)(a:KV)(x:V)(h:Hp)(t:Bool):Prop:=br t (f G h a)<|a x h
abbrev YJ(f:ii)(G:aS)(a:KV)(x:V)(h:Hp):Prop:=qw x h<|YI f G a x h
abbrev YK(f:ii)(G:aS)(a:KV)(x:V)(h:Hp)(t:Bool):Prop:=br t (a x h)<|f G h a
abbrev YL(f:ii)(G:aS)(a:KV)(x:V)(h:Hp):Prop:=qw x h<|YK f G a x h
abbrev Fa{a:Type}(f g:aS->Hp->a->Prop)(G:aS)(c:a)(t:Bool)(h:Hp):Prop:=br t (f G h c)<|g G h c
abbrev YM(c:KV)(a:List V)(h:Hp):Prop:=c (V.m a) h
abbrev YN(c:KV)(a:List V)(h:Hp):Prop:=je (.a a) h<|kl c
abbrev YO(d:KV)(a:List V)(l:Nat)(k:V)(c:Hp):Prop:=∃i:Nat,k=.d i/\i<1000/\a.length<1000/\c[l]?=J (.a a)/\je (.a (jK i a).flatten) c (kl d)
abbrev YQ(f:ii)(G:aS)(c:KV)(a:List V)(l:Nat)(h:Hp):Prop:=f G h<|YO c a l
abbrev YR(f:ii)(G:aS)(c:KV)(a:List V)(h:Hp):Prop:=je (.a a) h<|YQ f G c a
abbrev YS(c:KV)(a:List V)(k:V)(h:Hp):Prop:=k=.d 1/\c (V.m a) h
abbrev YT(f:ii)(G:aS)(c:KV)(a:List V)(h:Hp):Prop:=f G h<|YS c a
abbrev YU(C:fE)(f:Nat)(c:KV)(a:List V)(h:Hp):Prop:=C f a h c
abbrev YV(c:KV)(l:Nat)(r:V)(a:Hp):Prop:=r=.o/\c (.j l) a
abbrev YW(C:fE)(f:Nat)(c:KV)(a:List V)(l:Nat)(h:Hp):Prop:=C f (.j l::a) h<|YV c l
abbrev YX(C:fE)(c:Nat)(d:KV)(a:List V)(h:Hp)(f:Nat):Prop:=je (.b c []) h<|YW C f d a
abbrev YY(C:fE)(c:Nat)(d:KV)(a:List V)(h:Hp):Prop:=Xu c<|YX C c d a h
abbrev YZ(C:fE)(f:Nat)(c:KV)(v:V)(a:List V)(h:Hp):Prop:=C f (v::a) h c
abbrev Y0(C:fE)(g:F9)(G:aS)(a:KV)(v:V)(h:Hp)(f:Nat):Prop:=g G h<|YZ C f a v
abbrev Y1(C:fE)(m:Nat)(g:F9)(G:aS)(a:KV)(v:V)(h:Hp):Prop:=MM v m h<|Y0 C g G a v h
abbrev Y2(a:KV)(v y:V)(h:Hp):Prop:=CB v y h a
abbrev Y3(f:ii)(G:aS)(a:KV)(v:V)(h:Hp):Prop:=F8 v h/\f G h (Y2 a v)
abbrev Y4(a:KV)(v:V)(h:Hp):Prop:=MJ v h a
abbrev Y5(c:KV)(v:V)(a:DK)(k d:V)(h:Hp):Prop:=tG h v=J a/\pD (rG bW h v k d) (kx c h)
abbrev Y6(g:ii)(G:aS)(c:KV)(v:V)(a:DK)(k:V)(h:Hp):Prop:=g G h<|Y5 c v a k
abbrev Y7(f g:ii)(G:aS)(c:KV)(v:V)(h:Hp)(a:DK):Prop:=f G h<|Y6 g G c v a
abbrev Y8(f g:ii)(G:aS)(a:KV)(v:V)(h:Hp):Prop:=pD (tG h v)<|Y7 f g G a v h
abbrev Y9(a:KV)(h:Hp)(n:Nat):Prop:=a (.d n) h
abbrev Yb(a:KV)(v:V)(h:Hp):Prop:=zE v h<|Y9 a h
abbrev Yc(c:KV)(h:Hp)(a:List V):Prop:=c (V.m a) h
abbrev Yd(a:KV)(v:V)(h:Hp):Prop:=CA v h<|Yc a h
abbrev Ye(c:KV)(h:Hp)(a:List V):Prop:=je (.a a) h<|kl c
abbrev Yg(c:KV)(h:Hp)(a:List V):Prop:=a.length<1000000/\je (.a a) h (kl c)
abbrev Yh(a:KV)(v:V)(h:Hp):Prop:=match v with|.j l=>uu (.j l) h<|Ye a h|v=>ee v.z<|Yg a h
abbrev Yi(a:KV)(v:V)(h:Hp):Prop:=∃i:Nat,v=.d i/\i<10/\a (.k [48+i]) h
abbrev Yj(f:ii)(t:Tg)(a:List V)(g:Option Nat)(G:aS)(c:KV)(l:Nat)(h:Hp):Prop:=ML f t a g l G h c
abbrev Yk(f:ii)(t:Tg)(G:aS)(c:KV)(h:Hp)(a:List V)(g:Option Nat):Prop:=je (.a []) h<|Yj f t a g G c
abbrev Yl(f:ii)(t:Tg)(G:aS)(a:KV)(v:V)(h:Hp):Prop:=qE v h<|Yk f t G a h
abbrev Ym(f:ii)(c:zF)(t:Tg)(a:List V)(g:Option Nat)(G:aS)(d:KV)(l:Nat)(h:Hp):Prop:=Xs f c t a g l G h d
abbrev Yn(f:ii)(c:zF)(t:Tg)(G:aS)(d:KV)(h:Hp)(a:List V)(g:Option Nat):Prop:=je (.a []) h<|Ym f c t a g G d
abbrev Yo(f:ii)(c:zF)(t:Tg)(G:aS)(a:KV)(v:V)(h:Hp):Prop:=qE v h<|Yn f c t G a h
abbrev Yp(a:KB)(b:Bool)(h:Hp):Prop:=a (!b) h
abbrev Yq(f:zF)(G:aS)(a:KB)(t:Bool)(h:Hp):Prop:=br t (f G h a)<|a false h
abbrev Yr(f:zF)(G:aS)(a:KB)(t:Bool)(h:Hp):Prop:=br t (a true h)<|f G h a
abbrev tB(a:KB)(h:Hp)(r:Bool):Prop:=a r h
abbrev Ys(o:tF)(a:KB)(x y:V)(h:Hp):Prop:=FZ o x y h<|tB a h
abbrev Yt(a:KB)(v:V)(h:Hp):Prop:=a (aJ<|v=.o) h
abbrev Yu(a:KB)(v:V)(h:Hp):Prop:=a (!aJ (v=.o)) h
abbrev Yv(a:KB)(h:Hp)(v:V):Prop:=qw v h<|tB a h
abbrev Yw(o:lO)(a:KB)(x y:V)(h:Hp):Prop:=pD (mF o x y)<|Yv a h
abbrev Yx(a:KB)(v:V)(h:Hp):Prop:=qw v h<|tB a h
abbrev Yy(C:fE)(f:Nat)(c:KB)(a:List V)(h:Hp):Prop:=C f a h<|Yx c
abbrev Yz(c:KL)(v:V)(a:List V)(h:Hp):Prop:=c (v::a) h
abbrev Y_(g:F9)(G:aS)(a:KL)(v:V)(h:Hp):Prop:=g G h<|Yz a v
abbrev Y'(c:List V->Option Nat->Hp->Prop)(h:Hp)(a:List V)(g:Option Nat):Prop:=c a g h
abbrev ZA(a:List V->Option Nat->Hp->Prop)(v:V)(h:Hp):Prop:=qE v h<|Y' a h
abbrev ZB(a:List V->Option Nat->Hp->Prop)(v:V)(h:Hp):Prop:=∃n:Nat,v=.d n/\n<1000000/\a (iT<|pM 0 n) aA h
abbrev ZC(a:List V->Option Nat->Hp->Prop)(v x:V)(h:Hp):Prop:=∃m n:Nat,v=.d m/\x=.d n/\m<1000000/\n<1000000/\a (iT<|pM m n) aA h
abbrev ZD(a:List V->Option Nat->Hp->Prop)(v x:V)(h:Hp):Prop:=∃m n:Int,v=.d m/\x=.d n/\(-1<=m/\m<1000000/\-1<=n/\n<1000000)/\a (iT<|pN m n) aA h
abbrev ZE(G:aS)(a:KS)(_:V)(h:Hp):Prop:=a .a G h
abbrev MO(i:Nat)(G:aS)(a:KS)(v:V)(h:Hp):Prop:=a .a (G.set i<|J v) h
abbrev ZF(a:KS)(h:Hp)(G:aS):Prop:=a .a G h
abbrev ZG(a:List Nat)(G:aS)(c:KS)(v:V)(h:Hp):Prop:=ee ((Tg.c a).b v G)<|ZF c h
abbrev sN(G:aS)(a:KS)(h:Hp):Prop:=a .a G h
abbrev ZH(a:Nat)(G:aS)(c:KS)(v d:V)(h:Hp):Prop:=F1 d a v h<|sN G c
abbrev ZI(f:ii)(a:Nat)(G:aS)(c:KS)(v:V)(h:Hp):Prop:=f G h<|ZH a G c v
abbrev ZJ(G:aS)(a:KS)(v d k:V)(h:Hp):Prop:=F0 d k v h<|sN G a
abbrev ZK(g:ii)(G:aS)(a:KS)(v d:V)(h:Hp):Prop:=g G h<|ZJ G a v d
abbrev ZL(f g:ii)(G:aS)(a:KS)(v:V)(h:Hp):Prop:=f G h<|ZK g G a v
abbrev ZM(i:Nat)(G:aS)(a:KS)(h:Hp)(v:V):Prop:=a .a (G.set i<|J v) h
abbrev ZN(i:Nat)(a:lO)(j:Int)(G:aS)(c:KS)(y:V)(h:Hp):Prop:=pD (mF a (.d j) y)<|ZM i G c h
abbrev ZO(f:MN)(t:Tg)(G:aS)(c:KS)(a:List V)(g:Option Nat)(h:Hp):Prop:=xL f t a g a G h c
abbrev ZP(G:aS)(a:KS)(v:V)(h:Hp):Prop:=a (.b v) G h
abbrev ZQ(f:MN)(a:KS)(fl:Fl)(G:aS)(h:Hp):Prop:=match fl with|.a=>f G h a|fl=>a fl G h
end
section
variable(C:fE)
mutual
noncomputable def vE:E->aS->Hp->(V->Hp->Prop)->Prop
 |.h v,_,h,q=>q v h|.q _ v,_,h,q=>q v h|.K _ a,_,h,q=>q (.A a) h|.g i,G,h,q=>match G[i]? with|some (J v)=>q v h|_=>False
 |.l e a,G,h,q=>vE e G h<|Xv a q|.p e i,G,h,q=>vE e G h<|k2 (vE i) G<|Xw q|.I e,G,h,q=>vE e G h<|Xx q|.R e,G,h,q=>vE e G h<|Xy q|.L e,G,h,q=>vE e G h<|Xz q|.S e n,G,h,q=>vE e G h<|k2 (vE n) G<|X' q|.s o a b,G,h,q=>vE a G h<|k2 (vE b) G<|YA o q|.C e,G,h,q=>vE e G h<|YB q|.U e,G,h,q=>vE e G h<|YC q|.B e,G,h,q=>vE e G h<|YE q|.w o a b,G,h,q=>vE a G h<|k2 (vE b) G<|YF o q|.D e,G,h,q=>vE e G h<|YG q|.M e,G,h,q=>vE e G h<|YH q|.H a b,G,h,q=>vE a G h<|YJ (vE b) G q|.N a b,G,h,q=>vE a G h<|YL (vE b) G q|.F c a b,G,h,q=>vT c G h<|Fa (vE a) (vE b) G q|.r es,G,h,q=>qF es G h<|YM q|.u es,G,h,q=>qF es G h<|YN q|.A .i,_,h,q=>je (.d []) h<|kl q|.A .t,_,h,q=>je (.e []) h<|kl q|.W es n,G,h,q=>qF es G h<|YR (vE n) G q|.X es n,G,h,q=>qF es G h<|YT (vE n) G q|.j f es,G,h,q=>qF es G h<|YU C f q|.J c es,G,h,q=>qF es G h<|YY C c q|.G e m es,G,h,q=>vE e G h<|Y1 C m (qF es) G q|.y e x,G,h,q=>vE e G h<|Y3 (vE x) G q|.Y e,G,h,q=>vE e G h<|Y4 q|.P e k d,G,h,q=>vE e G h<|Y8 (vE k) (vE d) G q|.z e,G,h,q=>vE e G h<|Yb q|.Q e,G,h,q=>vE e G h<|Yd q|.T e,G,h,q=>vE e G h<|Yh q|.Z e,G,h,q=>vE e G h<|Yi q|.O l t p,G,h,q=>vE p G h<|Yl (vE l) t G q|.aa l t p c,G,h,q=>vE p G h<|Yo (vE l) (vT c) t G q|.ab,_,_,_=>False
noncomputable def vT:E->aS->Hp->(Bool->Hp->Prop)->Prop
 |.B e,G,h,d=>vT e G h<|Yp d|.H a b,G,h,d=>vT a G h<|Yq (vT b) G d|.N a b,G,h,d=>vT a G h<|Yr (vT b) G d|.F c a b,G,h,d=>vT c G h<|Fa (vT a) (vT b) G d|.w o a b,G,h,d=>vE a G h<|k2 (vE b) G<|Ys o d|.D e,G,h,d=>vE e G h<|Yt d|.M e,G,h,d=>vE e G h<|Yu d|.g i,G,h,d=>match G[i]? with|some (J v)=>qw v h (tB d h)|_=>False
 |.s o a b,G,h,d=>vE a G h<|k2 (vE b) G<|Yw o d|.j f es,G,h,d=>qF es G h<|Yy C f d|_,_,_,_=>False
noncomputable def qF:Es->aS->Hp->(List V->Hp->Prop)->Prop|.nil,_,h,a=>a [] h|.cons e es,G,h,a=>vE e G h<|Y_ (qF es) G a
end
noncomputable def MP:It->aS->Hp->(List V->Option Nat->Hp->Prop)->Prop|.e e,G,h,c=>vE C e G h<|ZA c|.c a,G,h,c=>vE C a G h<|ZB c|.f a b,G,h,c=>vE C a G h<|k2 (vE C b) G<|ZC c|.d a b,G,h,c=>vE C a G h<|k2 (vE C b) G<|ZD c
mutual
noncomputable def vS:S->aS->Hp->(Fl->aS->Hp->Prop)->Prop
 |.j e,G,h,p=>vE C e G h<|ZE G p|.d i e,G,h,p=>vE C e G h<|MO i G p|.r i d t l,G,h,p=>vE C (.O d t l) G h<|MO i G p|.s m e,G,h,p=>vE C e G h<|ZG m G p|.k o a e,G,h,p=>vE C e G h<|ZI (vE C o) a G p|.m o i e,G,h,p=>vE C e G h<|ZL (vE C o) (vE C i) G p|.p i n e,G,h,p=>match G[i]? with|some (J (.d j))=>vE C e G h (ZN i n j G p)|_=>False
 |.f c a b,G,h,p=>vT C c G h<|Fa (dC a) (dC b) G p|.n c b,G,h,p=>CD (vT C c) (dC b) G h p|.l t l b,G,h,p=>MP C l G h<|ZO (dC b) t G p|.g e,G,h,p=>vE C e G h<|ZP G p|.q,G,h,p=>p .c G h|.h,_,_,_=>False
noncomputable def dC:Ss->aS->Hp->(Fl->aS->Hp->Prop)->Prop|.nil,G,h,c=>c .a G h|.cons s a,G,h,c=>vS s G h<|ZQ (dC a) c
end
end
noncomputable def gX(a:V->Hp->Prop):Fl->aS->Hp->Prop:=λfl _ h=>match fl with|.b v=>a v h|_=>a .o h
@[irreducible] noncomputable def aa:Nat->fE
 |0,_,_,_,_=>False|n+1,f,a,h,d=>B'<|ee (rS f) λc=>a.length=c.a/\dC (aa n) c.d (a.map J++jK (c.c-c.a) aA) h (gX d)
theorem ZR:aa 0 f a h c=False:=by with_unfolding_all rfl
theorem MQ:aa (n+1) f a h d=B' (ee (rS f) λc=>a.length=c.a/\dC (aa n) c.d (a.map J++jK (c.c-c.a) aA) h (gX d)):=by with_unfolding_all rfl
theorem gk(h:ee o a):∃x,o=J x/\a x:=by
 induction o with
 |none=>exact h.elim|some x=>exact bU x rfl h
theorem ny(e:o=J x)(h:a x):ee o a:=by rw [e];exact h
theorem mq(w:rd l h a):∃o,h[l]?=J o/\a o:=gk w.a
theorem aL(e:h[l]?=J o)(w:a o):rd l h a:=⟨ny e w⟩
structure nz(h:Hp)(o:O)(h':Hp):Prop where
 c:h'.length=h.length+1
 b:h'[h.length]?=J o
 a:∀(l:Nat)(p:O),h[l]?=J p->h'[l]?=J p
theorem bX(k:∀a,nz h o a->c h.length a):je o h c:=⟨k _ ⟨by rw [b9];rfl,by rw [kf (aK _),lX];rfl,λl p e=>by
 rw [jL];exact e
 refine aU (fV l h.length) ?_ ?_
 ·intro q;exact q
 ·intro q;rw [ey q]at e;exact aX e⟩⟩
theorem qx(w:pD o a):∃x,o=J x/\a x:=gk w.a
theorem bK(e:o=J x)(h:a x):pD o a:=⟨ny e h⟩
theorem bS(e:oJ bW h v k=J x)(q:a x):mj v k h a:=⟨ny e q⟩
theorem du(e:h[l]?=J (.a a))(c:a[j]?=J x)(d:j<1000000)(q:m x):mj (.j l) (.d<|ip j) h m:=by refine bS (x:=x) ?_ q;exact(GY e).trans<|(aCC ⟨j1 _,fT.mpr d⟩).trans c
theorem uv(e:h[l]?=J (.d es))(a:d9 es i=J x)(q:c x):mj (.j l) (.d i) h c:=by refine bS (x:=x) ?_ q;exact(GY e).trans a
theorem MR(e:h[l]?=J (.e es))(c:(V.r a b).B=true)(d:gK es (.r a b)=J x)(q:m x):mj (.j l) (.r a b) h m:=by refine bS (x:=x) ?_ q;exact(GY e).trans<|(if_pos c).trans d
theorem fq(e:h[l]?=J (.a a))(k:c a<|J l):qE (.j l) h c:=⟨aL e k⟩
theorem zG(a:List V):(V.m a).z=J a:=by
 induction a with
 |nil=>rfl|cons v a c=>refine(?_:((V.m a).z.map (v::·))=_);rw [c];rfl
theorem zH(k:c a aA):qE (V.m a) h c:=by
 refine⟨?_⟩;induction a using bk with
 |nil=>exact k|cons v a=>exact ny (zG<|v::a) k
theorem ZS(k:a (s.map λc=>.k [c]) aA):qE (.k s) h a:=⟨k⟩
theorem qG(l:vs.length<1000000)(k:a vs.length):zE (V.m vs) h a:=by
 refine⟨?_⟩;induction vs using bk with
 |nil=>exact ny (o:=xW h<|V.m []) rfl ⟨l,k⟩|cons v vs=>exact ny (o:=xW h<|V.m<|v::vs) (x:=(v::vs).length) (congrArg (oV λl:List V=>l.length)<|zG<|v::vs) ⟨l,k⟩
theorem gR(e:h[l]?=J o)(a:ME o=J n)(c:n<1000000)(k:d n):zE (.j l) h d:=⟨aL e<|ny a ⟨c,k⟩⟩
theorem MS(e:h[l]?=J (.a a))(c:a.length<1000000)(k:d a):uu (.j l) h d:=⟨aL e ⟨c,k⟩⟩
theorem ZT(e:h[l]?=J (.f vs))(a:vs.length<1000000)(k:c vs):uu (.j l) h c:=⟨aL e ⟨a,k⟩⟩
theorem CE(e:h[l]?=J (.a a))(c:a.length<1000000)(k:d a):CA (.j l) h d:=⟨MS e c k⟩
theorem ZU(k:a vs):CA (V.m vs) h a:=by
 refine⟨?_⟩;induction vs using bk with
 |nil=>exact ny (o:=(V.m []).z) rfl k|cons v vs=>exact ny (zG<|v::vs) k
theorem dj(e:h[l]?=J (.a a)):F8 (.j l) h:=⟨aL e trivial⟩
theorem eB(e:h[l]?=J (.a a))(c:a.length<1000000)(k:d .o<|h.set l<|.a<|a++[y]):CB (.j l) y h d:=⟨aL e ⟨c,k⟩⟩
theorem Fb(e:h[l]?=J (.a a))(c:a.length<1000000)(k:d<|h.set l<|.a<|a++[y]):xM l y h d:=⟨aL e ⟨c,k⟩⟩
theorem zI(e:h[l]?=J (.a vs))(a:vs.length<1000000)(k:je (.a vs.reverse) h λl h=>c (.j l) h):xK (.j l) h c:=⟨aL e ⟨a,k⟩⟩
theorem ZV(a:s.length<1000000)(k:c (.k s.reverse) h):xK (.k s) h c:=⟨⟨a,k⟩⟩
theorem jS(e:h[l]?=J o)(a:qL o k v=J o')(q:c<|h.set l o'):F0 (.j l) k v h c:=⟨aL e<|ny a q⟩
theorem qy{P Q d e:Prop}(h:br b P Q)(a:P->d)(c:Q->e):if b then d else e:=by induction b with|true=>exact a h|false=>exact c h
theorem MT{P:V->Prop}{G:aS}{i:Nat}(w:match G[i]? with|some (J v)=>P v|_=>False):∃v,G[i]?=J (J v)/\P v:=by
 revert w;induction G[i]? with
 |none=>exact DV|some o=>induction o with|none=>exact DV|some v=>exact λw=>⟨v,rfl,w⟩
theorem ZW{P:Int->Prop}{G:aS}{i:Nat}(w:match G[i]? with|some (J (.d j))=>P j|_=>False):∃j,G[i]?=J (J<|.d j)/\P j:=by
 revert w;induction G[i]? with
 |none=>exact DV|some o=>induction o with|none=>exact DV|some v=>induction v with|d j=>exact λw=>⟨j,rfl,w⟩|_=>exact DV
theorem Fc:∀(c:List<|Nat×V)(a:Nat),c.lookup a=lk c a
 |[],_=>rfl|(b,x)::r,a=>by
  rw [kG];refine(?_:_=(match nB a b with|true=>J x|false=>lk r a));have:(a==b)=nB a b:=by rw [aHj,beq_iff_eq,Nat.beq_eq]
  rw [this,Fc r a];cases nB a b<;>rfl
section
theorem ZX(w:MF v a h d):∃x,Gc h v a=J x/\d x:=by
 induction v<;>try exact w.elim
 refine aG (mq w) λo e w=>aG (gk w) λx c w=>bU x ?_ w;induction o<;>first|(exact aX c;done)|skip
 exact(f0 e).trans<|(Fc _ _).trans c
theorem ZY(w:mj v k h a):∃x,oJ bW h v k=J x/\a x:=gk w.a
theorem MU(a b:Int):oK h (.d a) (.d b)=J (aJ<|a=b):=by rw [show C8 (.d a) (.d b)=J (aJ<|V.d a=V.d b)from rfl];exact congrArg J<|decide_eq_decide.mpr ⟨V.d.inj,λe=>by rw [e]⟩
theorem MV(w:FZ c x y h d):∃r,eK bW h c x y=J r/\d r:=by
 induction x with
 |d a=>induction y with
  |d b=>
   have w:MG c a b d:=w;induction c with
   |c=>exact bU _ (MU (h:=h) a b) w|d=>exact bU _ (congrArg (oV (!·))<|MU (h:=h) a b) w|b=>exact w.elim|a=>exact w.elim|_=>exact bU _ rfl w
  |_=>exact qx w
 |_=>exact qx w
theorem xN(w:qw v h a):∃t,oL h v=J t/\a t:=by induction v<;>first|exact qx w|exact⟨_,rfl,w⟩
theorem ZZ(w:MI o x y h A):xY o x y h A:=by
 induction x with
 |d a=>induction y with
  |d b=>have w:MH o a b h A:=w;induction o<;>first|exact⟨_,rfl,w⟩|exact qx w
  |_=>exact w.elim
 |k a=>induction y with|k b=>exact Nz<|qx w|_=>exact w.elim
 |j l=>induction y with
  |j r=>
   obtain⟨rfl,w⟩:=w;obtain⟨p,e,w⟩:=mq w;refine aG (gk w) λv c w=>aG (mq w) λq m w=>?_;obtain⟨z,d,n,t⟩:=gk w;induction p<;>first|exact aX c|(replace c:=ao c;subst c)
   induction q<;>first|exact aX d|(replace d:=ao d;subst d)
   exact⟨_,_,e,m,n,t.a⟩
  |_=>exact w.elim
 |_=>exact w.elim
theorem Z0(w:xY o x y h p)(k:∀v h,p v h->K' v h):xY o x y h K':=by
 refine aU (Ny w) ?_ ?_;·intro d;obtain⟨l,r,m,n,rfl,rfl,rfl,a,b,c,w⟩:=d;exact⟨m,n,a,b,c,k _ _ w⟩
 intro d;refine aG d λu e w=>?_;exact Nz ⟨u,e,k _ _ w⟩
theorem Fd(w:uu v h m):∃a,m_ h v=J a/\a.length<1000000/\m a:=by
 have w:=w.a;induction v<;>try exact w.elim
 refine aG (mq w) λo e w=>hJ (gk w) λa d c l=>qB a ?_ c l;exact(f0 e).trans<|(f0 d).trans<|if_pos c
theorem Z1(w:CA v h c):∃a,(m_ h v=J a\/v.z=J a)/\c a:=by
 have w:=w.a;induction v with
 |j l=>exact(Fd w).imp λa w=>⟨.inl w.1,w.2.2⟩|_=>exact(gk w).imp λa w=>⟨.inr w.1,w.2⟩
def Z2(v:V)(h:Hp)(c:V->Hp->Prop):Prop:=match v with|.k s=>s.length<1000000/\c (.k s.reverse) h|v=>∃a,m_ h v=J a/\c (.j h.length) (h++[.a a.reverse])
theorem Z3(w:xK v h m):Z2 v h m:=by
 have w:=w.a;induction v<;>try exact w.elim
 ·exact w
 refine aG (mq w) λo e w=>hJ (gk w) λd a l c=>bU d ?_ c.a;induction o<;>first|exact aX a|(replace a:=ao a;clear w c;subst a)
 exact(f0 e).trans<|(f0 rfl).trans<|if_pos l
theorem Z4(w:zE v h c):∃n,xW h v=J n/\n<1000000/\c n:=by
 have w:=w.a;induction v with
 |j l=>refine aG (mq w) λo e w=>aG (gk w) λn a w=>bU n ?_ w;exact(f0 e).trans a|_=>exact gk w
theorem Fe(w:qE v h m):∃c g,xX h v=J (c,g)/\m c g:=by
 have w:=w.a;induction v with
 |j l=>refine aG (mq w) λo e w=>aG (gk w) λc d w=>uW c (J l) ?_ w;exact(f0 e).trans<|congrArg (oV λc=>(c,J l)) d|k s=>exact uW _ _ rfl w|w=>exact uW ([]) aA rfl w|r a b=>have w:ee (V.r a b).z λc=>m c none:=w;refine aG (gk w) λc e w=>uW c aA (congrArg (oV λc=>(c,aA)) e) w|_=>exact(show False from w).elim
theorem Z5(w:F0 d k v h m):∃a,GZ h d k v=J a/\m a:=by
 have w:=w.a;induction d<;>try exact w.elim
 refine aG (mq w) λo e w=>aG (gk w) λl c w=>bU _ ((f0 e).trans<|congrArg _ c) w
set_option tactic.hygienic true in
theorem Z6(w:F1 d a v h p):∃l,G0 bW h d a v=J l/\p l:=by
 induction d<;>try exact w.elim
 refine aG (mq w) λo e w=>?_;induction o<;>try exact w.elim
 rename_i c m;have w:br (oS c a) (p<|h.set _<|.b c<|lQ m a v) False:=w;induction q:oS c a with
 |false=>rw [q]at w;exact w.elim|true=>rw [q]at w;refine bU _ ?_ w;haveI n:bW.d c a=true:=q;exact(f0 e).trans<|congrArg _<|if_pos n
theorem Z7(w:CB v y h d):∃l a,v=.j l/\h[l]?=J (.a a)/\a.length<1000000/\d .o (h.set l<|.a<|a++[y]):=by
 have w:=w.a;induction v<;>try exact w.elim
 refine aG (mq w) λo e w=>aG (gk w) λa c w=>?_;induction o<;>cases c;exact sS _ _ rfl e w
theorem Z8(w:F8 v h):∃l a,v=.j l/\h[l]?=J (.a a):=by
 have w:=w.a;induction v<;>try exact w.elim
 refine aG (mq w) λo e w=>aG (gk w) λa c w=>?_;induction o<;>cases c;exact uW _ _ rfl e
theorem MW(w:xM l x h m):∃a,h[l]?=J (.a a)/\a.length<1000000/\m (h.set l<|.a<|a++[x]):=by have w:=w.a;refine aG (mq w) λo e w=>aG (gk w) λd c w=>?_;induction o<;>cases c;exact bU _ e w
set_option tactic.hygienic true in
theorem Z9(w:MM v m h n):∃l c a f,v=.j l/\h[l]?=J (.b c a)/\a.lookup m=aA/\bW.b c m=J f/\n f:=by
 induction v<;>try exact w.elim
 refine aG (mq w) λo e w=>?_;induction o<;>try exact w.elim
 rename_i l _ c a;unfold oM at w;induction q:lk a m with
 |some _=>simp only [q]at w|none=>simp only [q]at w;refine aG (gk w) λf d w=>⟨l,c,a,f,rfl,e,(Fc _ _).trans q,d,w⟩
end
theorem Ff(c:∀v G h e K',b v G h e->(∀fl G h,e fl G h->K' fl G h)->d v G h K'):
  ∀(a:List V)(G:aS)(h:Hp)(e K':Fl->aS->Hp->Prop),jx g b a G h e->(∀fl G h,e fl G h->K' fl G h)->jx g d a G h K'
 |[],G,h,e,K',w,k=>⟨w.1,k _ _ _ w.2⟩
 |v::a,G,h,e,K',w,k=>⟨w.1,c _ _ _ _ _ w.2 λfl G h w=>by
   induction fl with
   |b r=>exact k _ _ _ w
   |_=>exact Ff c a _ _ _ _ w k⟩
theorem MX{b a:aS->Hp->(Fl->aS->Hp->Prop)->Prop}
  (d:∀G h m K',c G h m->(∀t h,m t h->K' t h)->l G h K') (e:∀G h m K',b G h m->(∀fl G h,m fl G h->K' fl G h)->a G h K'):
  ∀(n:Nat)(G:aS)(h:Hp)(m K':Fl->aS->Hp->Prop),CC c b n G h m->(∀fl G h,m fl G h->K' fl G h)->Ca l a n G h K'
 |0,_,_,_,_,w,_=>w.elim
 |n+1,G,h,m,K',w,k=>d _ _ _ _ w λt h w=>qy w (λw=>e _ _ _ _ w λfl G h w=>by
   induction fl with
   |b r=>exact k _ _ _ w
   |_=>exact MX d e n _ _ _ _ w k) (k _ _ _)
theorem zJ(P:Nat->aS->Hp->Prop)(z:P m G h)
  (v:∀m G h,P m G h->∀K':Fl->aS->Hp->Prop,(∀l a d,m=l+1->P l a d->K' .a a d/\K' .c a d)->(∀r a d,A (.b r) a d->K' (.b r) a d)->c G h λt w=>br t (body G w K')<|A .a G w):CD c body G h A:=by
 haveI n:∀m G h,P m G h->CC c body (m+1) G h A:=by
  intro m;induction m with
  |zero=>intro G h p;exact v 0 G h p _ (λl _ _ e=>nomatch e) λ_ _ _ q=>q|succ m x=>intro G h p;exact v _ G h p _ (λl a d e p=>by cases e;exact⟨x _ _ p,x _ _ p⟩) λ_ _ _ q=>q
 exact⟨_,n m G h z⟩
theorem MY{b e:aS->Hp->(Fl->aS->Hp->Prop)->Prop}{t:Tg}{a:List V}{g:Option Nat}(l:∀G h m K',b G h m->(∀fl G h,m fl G h->K' fl G h)->e G h K'):
  ∀(d:List V)(G:aS)(h:Hp)(m K':Fl->aS->Hp->Prop),xL b t a g d G h m->(∀fl G h,m fl G h->K' fl G h)->jx (λh=>fS h g a) (λv G h m=>∃c,t.b v G=J c/\e c h m) d G h K'
 |[],G,h,m,K',w,k=>⟨w.a.1,k _ _ _ w.a.2⟩
 |v::d,G,h,m,K',w,k=>⟨w.a.1,(gk w.a.2).imp λc w=>⟨w.1,l _ _ _ _ w.2 λfl G h w=>by
   induction fl with
   |b r=>exact k _ _ _ w
   |_=>exact MY l d _ _ _ _ w k⟩⟩
def ij(e l:fE):Prop:=∀f a h c d,e f a h c->(∀v h,c v h->d v h)->l f a h d
section
theorem Za{p0 p1 p2 p3 p4:c->Prop}{g:Prop}(h:∃a,p0 a/\p1 a/\p2 a/\p3 a/\p4 a) (k:∀a:c,p0 a->p1 a->p2 a->p3 a->p4 a->g):g:=by obtain⟨d,e,l,m,n,p⟩:=h;exact k d e l m n p
theorem Zb{p0 p1 p2 p3:d->e->Prop}{g:Prop}(h:∃a,∃c,p0 a c/\p1 a c/\p2 a c/\p3 a c) (k:∀a:d,∀c:e,p0 a c->p1 a c->p2 a c->p3 a c->g):g:=by obtain⟨l,m,n,p,q,t⟩:=h;exact k l m n p q t
theorem Zc{p0 p1 p2 p3 p4:d->e->Prop}{g:Prop}(h:∃a,∃c,p0 a c/\p1 a c/\p2 a c/\p3 a c/\p4 a c) (k:∀a:d,∀c:e,p0 a c->p1 a c->p2 a c->p3 a c->p4 a c->g):g:=by obtain⟨l,m,n,p,q,t,v⟩:=h;exact k l m n p q t v
def SE(d l:fE)(e:E):Prop:=∀G h(a c:V->Hp->Prop),vE d e G h a->(∀v h,a v h->c v h)->cK l bW e G h c
def ST(d l:fE)(e:E):Prop:=∀G h(a c:Bool->Hp->Prop),vT d e G h a->(∀v h,a v h->c v h)->jm l bW e G h c
def n_(d e:fE)(es:Es):Prop:=∀G h(a c:List V->Hp->Prop),qF d es G h a->(∀v h,a v h->c v h)->pO e bW es G h c
def lJ(d e:fE)(s:S):Prop:=∀G h(a c:Fl->aS->Hp->Prop),vS d s G h a->(∀fl G h,a fl G h->c fl G h)->Gg e bW s G h c
def q_(e l:fE)(a:Ss):Prop:=∀G h(c d:Fl->aS->Hp->Prop),dC e a G h c->(∀fl G h,c fl G h->d fl G h)->oN l bW a G h d
theorem gH(q:∀G h l,vT a e G h l=False):ST a d e:=λG h c _ w _=>(cast (q G h c) w).elim
theorem Zd:SE a c (.h v):=λG h d e w k=>k _ _ w
theorem Ze:SE a c (.q d v):=λG h e l w k=>k _ _ w
theorem Zf:SE c d (.K e a):=λG h l m w k=>k _ _ w
theorem Zg{i:Nat}:SE a c (.g i):=λG h d l w k=>by refine aG (MT (P:=_) w) λx e w=>bU x e (k _ _ w)
theorem Zh(c:SE d l e):SE d l (.l e a):=λG h m n w k=>c G h _ _ w λv h w=>(ZX w).imp λx w=>⟨w.1,k _ _ w.2⟩
theorem Zi(a:SE d l e)(c:SE d l i):SE d l (.p e i):=λG h m n w k=>a G h _ _ w λv h w=>c G h _ _ w λx h w=>(ZY w).imp λx w=>⟨w.1,k _ _ w.2⟩
theorem Zj(a:SE c d e):SE c d (.I e):=λG h l m w k=>a G h _ _ w λv h w=>by haveI:=Z3 w;induction v<;>first|exact⟨this.1,k _ _ this.2⟩|exact this.imp λx w=>⟨w.1,k _ _ w.2⟩
theorem Zk(d:SE l m e):SE l m (.R e):=λG h n p w k=>d G h _ _ w λv h w=>sQ w λs a b c w=>⟨s,a,b,c,k _ _ w⟩
theorem Zl(d:SE l m e):SE l m (.L e):=λG h n p w k=>d G h _ _ w λv h w=>sQ w λs a b c w=>⟨s,a,b,c,k _ _ w⟩
theorem Zm(l:SE p q e)(m:SE p q n):SE p q (.S e n):=λG h z A w k=>l G h _ _ w λv h w=>m G h _ _ w λx h w=>by obtain⟨t,a,b,i,c,d,w⟩:=Fd w;exact⟨t,i,a,c,j1 _,(fT.mpr<|bA Y eX [.t Y eX] U d),k _ _ w.a⟩
theorem Zn(c:SE e l a)(d:SE e l b):SE e l (.s o a b):=λG h m n w k=>c G h _ _ w λx h w=>d G h _ _ w λy h w=>by exact Z0 (ZZ w) k
theorem Zo(a:SE c d e):SE c d (.C e):=λG h l m w k=>a G h _ _ w λv h w=>by induction v<;>first|exact w.elim|exact⟨_,rfl,k _ _ w⟩
theorem Zp(a:SE c d e):SE c d (.U e):=λG h l m w k=>a G h _ _ w λv h w=>by induction v<;>first|exact w.elim|exact⟨_,rfl,k _ _ w⟩
theorem Zq(a:SE c d e):SE c d (.B e):=λG h l m w k=>a G h _ _ w λv h w=>(xN w).imp λx w=>⟨w.1,k _ _ w.2⟩
theorem Zr(c:SE e l a)(d:SE e l b):SE e l (.w o a b):=λG h m n w k=>c G h _ _ w λx h w=>d G h _ _ w λy h w=>(MV w).imp λx w=>⟨w.1,k _ _ w.2⟩
theorem Zt(a:SE c d e):SE c d (.D e):=λG h l m w k=>a G h _ _ w λv h w=>k _ _ w
theorem Zu(a:SE c d e):SE c d (.M e):=λG h l m w k=>a G h _ _ w λv h w=>k _ _ w
theorem Zv{b:E}(c:SE e l a)(d:SE e l b):SE e l (.H a b):=λG h m n w k=>c G h _ _ w λx h w=>(xN w).imp λt w=>⟨w.1,qy w.2 (λw=>d G h _ _ w k)<|k _ _⟩
theorem Zw{b:E}(c:SE e l a)(d:SE e l b):SE e l (.N a b):=λG h m n w k=>c G h _ _ w λx h w=>(xN w).imp λt w=>⟨w.1,qy w.2 (k _ _) λw=>d G h _ _ w k⟩
theorem Zx{b:E}(d:ST e l c)(m:SE e l a)(n:SE e l b):SE e l (.F c a b):=λG h p q w k=>d G h _ _ w λt h w=>qy w (λw=>m G h _ _ w k) λw=>n G h _ _ w k
theorem Zy(a:n_ c d es):SE c d (.r es):=λG h e l w k=>a G h _ _ w λm h w=>k _ _ w
theorem Zz(a:n_ c d es):SE c d (.u es):=λG h e l w k=>a G h _ _ w λm h w=>k _ _ w.a
theorem Z_:SE a c (.A .i):=λG h d e w k=>k _ _ w.a
theorem Z':SE a c (.A .t):=λG h d e w k=>k _ _ w.a
theorem aAa{es:Es}{n:E}(e:n_ m p es)(l:SE m p n):SE m p (.W es n):=λG h q t w k=>e G h _ _ w λv h w=>l G _ _ _ w.a λx z w=>Za w λi a b c d w=>⟨i,a,j1 _,(fT.mpr<|bA Y dz [.t Y dz] U b),c,d,k _ _ w.a⟩
theorem aAb(a:n_ d e es)(c:SE d e n):SE d e (.X es n):=λG h l m w k=>a G h _ _ w λp h w=>c G _ _ _ w λx h w=>⟨w.1,k _ _ w.2⟩
theorem aAc(e:ij c d)(a:n_ c d es):SE c d (.j f es):=λG h l m w k=>a G h _ _ w λn h w=>e _ _ _ _ _ w k
theorem aAd(l:ij d e)(a:n_ d e es):SE d e (.J c es):=λG h m n w k=>a G h _ _ w λp h w=>(gk w).imp λf w=>⟨w.1,l _ _ _ _ _ w.2.a λv h w=>⟨w.1,k _ _ w.2⟩⟩
theorem aAe(x:ij p q)(t:SE p q e)(n:n_ p q es):SE p q (.G e m es):=λG h B C w k=>t G h _ _ w λv h w=>by refine Ex (Z9 w) λl c z f a b d A w=>⟨l,c,z,f,a,b,d,A,n G h _ _ w λD h w=>x _ _ _ _ _ w k⟩
theorem aAf(a:SE p q e)(d:SE p q x):SE p q (.y e x):=λG h t z w k=>a G h _ _ w λv h w=>by
 refine yn (Z8 w.1) λl m n b=>?_;subst n;refine sS l m rfl b (d G h _ _ w.2 λy h w=>?_);obtain⟨A,m,e,b,c,w⟩:=Z7 w
 (injection e with e;subst e)
 exact qB m b c<|k _ _ w
theorem aAg(c:SE d l e):SE d l (.Y e):=λG h n p w k=>c G h _ _ w λv h w=>by
 induction v<;>try exact w.elim
 refine sK w λm y a b w=>⟨_,m,y,rfl,a,b,k _ _ w⟩
theorem aAh(a:SE c l e)(m:SE c l i)(n:SE c l d):SE c l (.P e i d):=λG h p q w k=>a G h _ _ w λv h w=>(qx w).imp λt w=>⟨w.1,m G h _ _ w.2 λx h w=>n G h _ _ w λy h w=>⟨w.1,(qx w.2).imp λx w=>⟨w.1,k _ _ w.2⟩⟩⟩
theorem aAi(a:SE c d e):SE c d (.z e):=λG h l m w k=>a G h _ _ w λv h w=>(Z4 w).imp λx w=>⟨w.1,w.2.1,k _ _ w.2.2⟩
theorem aAj(a:SE c d e):SE c d (.Q e):=λG h l m w k=>a G h _ _ w λv h w=>(Z1 w).imp λx w=>⟨w.1,k _ _ w.2⟩
theorem aAk(a:SE c d e):SE c d (.T e):=λG h l m w k=>a G h _ _ w λv h w=>by
 induction v<;>first
  |exact(Fd w).imp λx w=>⟨.inl w.1,k _ _ w.2.2.a⟩|exact(gk w).imp λx w=>⟨.inr ⟨w.1,w.2.1⟩,k _ _ w.2.2.a⟩
theorem aAl(c:SE d l e):SE d l (.Z e):=λG h m n w k=>c G h _ _ w λv h w=>hJ w λi a b w=>⟨i,a,j1 _,(fT.mpr<|bA Y iF [.t Y iF] U b),k _ _ w⟩
theorem aAm(c:SE m n p)(a:SE m n l):SE m n (.O l t p):=λG h A B w k=>c G h _ _ w λv h w=>by refine yn (Fe w) λq g e w=>?_;have w:=w.a.a;refine uW q g e<|Ff (λv G z D K' w k=>?_) _ _ _ _ _ w λ_ _ _ w=>k _ _ w;refine aG (gk w) λd e w=>bU d e (a d z _ _ w λx h w=>(MW w).imp λC w=>⟨w.1,w.2.1,k _ _ _ w.2.2⟩)
theorem aAn{c:E}(l:SE m n z)(p:ST m n c)(a:SE m n q):SE m n (.aa q t z c):=λG h C D w k=>l G h _ _ w λv h w=>by refine yn (Fe w) λA g e w=>?_;have w:=w.a.a;refine uW A g e<|Ff (λv G B I K' w k=>?_) _ _ _ _ _ w λ_ _ _ w=>k _ _ w;refine aG (gk w) λd e w=>bU d e (p d B _ _ w λb h w=>qy w (λw=>a d h _ _ w λx h w=>(MW w).imp λH w=>⟨w.1,w.2.1,k _ _ _ w.2.2⟩)<|k _ _ _)
theorem aAo:SE a c (.ab):=λG h d e w k=>w.elim
theorem aAp(a:ST c d e):ST c d (.B e):=λG h l m w k=>a G h _ _ w λb h w=>k _ _ w
theorem aAq{b:E}(c:ST e l a)(d:ST e l b):ST e l (.H a b):=λG h m n w k=>c G h _ _ w λt h w=>qy w (λw=>d G h _ _ w k)<|k _ _
theorem aAr{b:E}(c:ST e l a)(d:ST e l b):ST e l (.N a b):=λG h m n w k=>c G h _ _ w λt h w=>qy w (k _ _) λw=>d G h _ _ w k
theorem aAs{b:E}(d:ST e l c)(m:ST e l a)(n:ST e l b):ST e l (.F c a b):=λG h p q w k=>d G h _ _ w λt h w=>qy w (λw=>m G h _ _ w k) λw=>n G h _ _ w k
theorem aAt(c:SE e l a)(d:SE e l b):ST e l (.w o a b):=λG h m n w k=>c G h _ _ w λx h w=>d G h _ _ w λy h w=>(MV w).imp λx w=>⟨w.1,k _ _ w.2⟩
theorem aAu(a:SE c d e):ST c d (.D e):=λG h l m w k=>a G h _ _ w λv h w=>k _ _ w
theorem aAv(a:SE c d e):ST c d (.M e):=λG h l m w k=>a G h _ _ w λv h w=>k _ _ w
theorem aAw{i:Nat}:ST a c (.g i):=λG h d l w k=>by refine aG (MT (P:=_) w) λx e w=>bU x e ((xN w).imp λt w=>⟨w.1,k _ _ w.2⟩)
theorem aAx(c:SE e l a)(d:SE e l b):ST e l (.s o a b):=λG h m n w k=>c G h _ _ w λx h w=>d G h _ _ w λy h w=>(qx w).imp λv w=>⟨w.1,(xN w.2).imp λt w=>⟨w.1,k _ _ w.2⟩⟩
theorem aAy(e:ij c d)(a:n_ c d es):ST c d (.j f es):=λG h l m w k=>a G h _ _ w λn h w=>e _ _ _ _ _ w λv h w=>(xN w).imp λt w=>⟨w.1,k _ _ w.2⟩
theorem aAz:n_ a c (.nil):=λG h d e w k=>k _ _ w
theorem aAA(c:SE d l e)(a:n_ d l es):n_ d l (.cons e es):=λG h m n w k=>c G h _ _ w λv h w=>a G h _ _ w λp h w=>k _ _ w
theorem MZ(t:ij p q):∀e,SE p q e/\ST p q e:=E.rec (motive_1:=λe=>SE p q e/\ST p q e) (motive_2:=n_ p q)
 (λd=>⟨Zd,gH λ_ _ _=>rfl⟩)
 (λd m=>⟨Ze,gH λ_ _ _=>rfl⟩)
 (λd m=>⟨Zf,gH λ_ _ _=>rfl⟩)
 (λd=>⟨Zg,aAw⟩)
 (λd m a=>⟨Zh a.1,gH λ_ _ _=>rfl⟩)
 (λd m a c=>⟨Zi a.1 c.1,gH λ_ _ _=>rfl⟩)
 (λd a=>⟨Zj a.1,gH λ_ _ _=>rfl⟩)
 (λd a=>⟨Zk a.1,gH λ_ _ _=>rfl⟩)
 (λd a=>⟨Zl a.1,gH λ_ _ _=>rfl⟩)
 (λd m a c=>⟨Zm a.1 c.1,gH λ_ _ _=>rfl⟩)
 (λd m n c l=>⟨Zn c.1 l.1,aAx c.1 l.1⟩)
 (λd a=>⟨Zo a.1,gH λ_ _ _=>rfl⟩)
 (λd a=>⟨Zp a.1,gH λ_ _ _=>rfl⟩)
 (λd a=>⟨Zq a.1,aAp a.2⟩)
 (λd m n c l=>⟨Zr c.1 l.1,aAt c.1 l.1⟩)
 (λd a=>⟨Zt a.1,aAu a.1⟩)
 (λd a=>⟨Zu a.1,aAv a.1⟩)
 (λd m a c=>⟨Zv a.1 c.1,aAq a.2 c.2⟩)
 (λd m a c=>⟨Zw a.1 c.1,aAr a.2 c.2⟩)
 (λd m n a c l=>⟨Zx a.2 c.1 l.1,aAs a.2 c.2 l.2⟩)
 (λd a=>⟨Zy a,gH λ_ _ _=>rfl⟩)
 (λd a=>⟨Zz a,gH λ_ _ _=>rfl⟩)
 (λd=>⟨(by cases d;exact Z_;exact Z'),gH λ_ _ _=>rfl⟩)
 (λd m a c=>⟨aAa a c.1,gH λ_ _ _=>rfl⟩)
 (λd m a c=>⟨aAb a c.1,gH λ_ _ _=>rfl⟩)
 (λd m c=>⟨aAc t c,aAy t c⟩)
 (λd m c=>⟨aAd t c,gH λ_ _ _=>rfl⟩)
 (λd m n a l=>⟨aAe t a.1 l,gH λ_ _ _=>rfl⟩)
 (λd m a c=>⟨aAf a.1 c.1,gH λ_ _ _=>rfl⟩)
 (λd a=>⟨aAg a.1,gH λ_ _ _=>rfl⟩)
 (λd m n a c l=>⟨aAh a.1 c.1 l.1,gH λ_ _ _=>rfl⟩)
 (λd a=>⟨aAi a.1,gH λ_ _ _=>rfl⟩)
 (λd a=>⟨aAj a.1,gH λ_ _ _=>rfl⟩)
 (λd a=>⟨aAk a.1,gH λ_ _ _=>rfl⟩)
 (λd a=>⟨aAl a.1,gH λ_ _ _=>rfl⟩)
 (λd m n a l=>⟨aAm l.1 a.1,gH λ_ _ _=>rfl⟩)
 (λd m n w a l v=>⟨aAn l.1 v.2 a.1,gH λ_ _ _=>rfl⟩)
 (⟨aAo,gH λ_ _ _=>rfl⟩)
 (aAz)
 (λ_ _ a c=>aAA a.1 c)
theorem sE(a:ij c d)(e:E):SE c d e:=(MZ a e).1
theorem sT(a:ij c d)(e:E):ST c d e:=(MZ a e).2
end
section
theorem sIt(l:ij z A)(t:It):∀G h(p q:List V->Option Nat->Hp->Prop),MP z t G h p->(∀v g h,p v g h->q v g h)->Gf A bW t G h q:=by
 induction t with
 |e e=>exact λG h p q w k=>sE l e G h _ _ w λv h w=>yn (Fe w) λB g e w=>⟨B,g,e,k _ _ _ w⟩|c a=>exact λG h p q w k=>sE l a G h _ _ w λv h w=>hJ w λn a b w=>⟨n,a,j1 _,(fT.mpr<|bA Y eX [.t Y eX] U b),k _ _ _ w⟩|f a b=>exact λG h p q w k=>sE l a G h _ _ w λv h w=>sE l b G h _ _ w λx h w=>Zc w λm n a b c d w=>⟨m,n,a,b,j1 _,(fT.mpr<|bA Y eX [.t Y eX] U c),j1 _,(fT.mpr<|bA Y eX [.t Y eX] U d),k _ _ _ w⟩|d a b=>exact λG h p q w k=>sE l a G h _ _ w λv h w=>sE l b G h _ _ w λx h w=>Zb w λm n a b c w=>⟨m,n,a,b,c.1,c.2.1,c.2.2.1,c.2.2.2,k _ _ _ w⟩
theorem aAC(a:ij c d):lJ c d (.j e):=λG h l m w k=>sE a e G h _ _ w λ_ h w=>k _ _ _ w
theorem aAD(a:ij c d):lJ c d (.d i e):=λG h l m w k=>sE a e G h _ _ w λ_ h w=>k _ _ _ w
theorem aAE(c:ij d e):lJ d e (.r i a t l):=λG h m n w k=>sE c (.O a t l) G h _ _ w λ_ h w=>k _ _ _ w
theorem aAF(a:ij c d):lJ c d (.s l e):=λG h m n w k=>sE a e G h _ _ w λ_ h w=>(gk w).imp λx w=>⟨w.1,k _ _ _ w.2⟩
theorem aAG(c:ij d l):lJ d l (.k o a e):=λG h m n w k=>sE c e G h _ _ w λ_ h w=>sE c o G h _ _ w λ_ h w=>(Z6 w).imp λx w=>⟨w.1,k _ _ _ w.2⟩
theorem aAH(a:ij c d):lJ c d (.m o i e):=λG h l m w k=>sE a e G h _ _ w λ_ h w=>sE a o G h _ _ w λ_ h w=>sE a i G h _ _ w λ_ h w=>(Z5 w).imp λx w=>⟨w.1,k _ _ _ w.2⟩
theorem aAI{a:lO}{e:E}(c:ij d l):lJ d l (.p i a e):=λG h n p w k=>by refine aG (ZW (P:=_) w) λj m w=>bU j m (sE c e G h _ _ w λ_ h w=>(qx w).imp λx w=>⟨w.1,k _ _ _ w.2⟩)
theorem aAJ{b:Ss}(n:ij d e)(l:q_ d e a)(m:q_ d e b):lJ d e (.f c a b):=λG h p q w k=>sT n c G h _ _ w λt h w=>qy w (λw=>l G h _ _ w k) λw=>m G h _ _ w k
theorem aAK(l:ij d e)(a:q_ d e b):lJ d e (.n c b):=λG h m p w k=>w.a.imp λn w=>MX (λG h q K' w k=>sT l c G h _ _ w k) (λG h q K' w k=>a G h _ _ w k) n _ _ _ _ w k
theorem aAL{t:Tg}{c:It}{b:Ss}(l:ij d e)(a:q_ d e b):lJ d e (.l t c b):=λG h m n w k=>sIt l c G h _ _ w λp g h w=>MY (λG h q K' w k=>a G h _ _ w k) _ _ _ _ _ w k
theorem aAM(a:ij c d):lJ c d (.g e):=λG h l m w k=>sE a e G h _ _ w λ_ h w=>k _ _ _ w
theorem aAN:lJ a c (.q):=λG h d e w k=>k _ _ _ w
theorem aAO:lJ a c (.h):=λG h d e w k=>w.elim
theorem aAP:q_ a c (.nil):=λG h d e w k=>k _ _ _ w
theorem aAQ(c:lJ d e s)(a:q_ d e l):q_ d e (.cons s l):=λG h m n w k=>c G h _ _ w λfl G h w=>by
 induction fl with
 |a=>exact a G h _ _ w k|_=>exact k _ _ _ w
theorem sSs(a:ij n p):∀t,q_ n p t:=Ss.rec (motive_1:=lJ n p) (motive_2:=q_ n p)
 (λd=>aAC a)
 (λd e=>aAD a)
 (λd e m v=>aAE a)
 (λd e=>aAF a)
 (λd e m=>aAG a)
 (λd e m=>aAH a)
 (λd e m=>aAI a)
 (λd e m c l=>aAJ a c l)
 (λd e c=>aAK a c)
 (λd e m l=>aAL a l)
 (λd=>aAM a)
 (aAN)
 (aAO)
 (aAP)
 (λ_ _ q c=>aAQ q c)
end
theorem M0:∀n,ij (aa n)<|xZ rS bW n|0,_,_,_,_,_,w,_=>by rw [ZR]at w;exact w.elim|n+1,f,d,h,l,m,w,k=>by rw [MQ]at w;refine hJ (gk w.a) λc e a w=>qB c e a (sSs (M0 n) _ _ _ _ _ w λfl G h w=>?_);induction fl<;>exact k _ _ w
set_option genInjectivity false
inductive Ty where
 |l (n:Nat)
 |j (i:Nat)
 |r (t:Ty)
 |u (c:Nat)
 |m (c:Nat) (a:Ty)
 |o (c:Nat) (a b:Ty)
 deriving Inhabited
noncomputable def Ty.q:Ty->Ty->Bool:=Ty.rec (motive:=λ_=>Ty->Bool)
 (λb=>Ty.rec (motive:=λ_=>Bool) (λc=>b==c) (λ_=>false) (λ_ _=>false) (λ_=>false) (λ_ _ _=>false) λ_ _ _ _ _=>false)
 (λb=>Ty.rec (motive:=λ_=>Bool) (λ_=>false) (λc=>b==c) (λ_ _=>false) (λ_=>false) (λ_ _ _=>false) λ_ _ _ _ _=>false)
 (λ_ f=>Ty.rec (motive:=λ_=>Bool) (λ_=>false) (λ_=>false) (λx _=>f x) (λ_=>false) (λ_ _ _=>false) λ_ _ _ _ _=>false)
 (λb=>Ty.rec (motive:=λ_=>Bool) (λ_=>false) (λ_=>false) (λ_ _=>false) (λc=>b==c) (λ_ _ _=>false) λ_ _ _ _ _=>false)
 (λb _ f=>Ty.rec (motive:=λ_=>Bool) (λ_=>false) (λ_=>false) (λ_ _=>false) (λ_=>false) (λc x _=>b==c&&f x) λ_ _ _ _ _=>false)
 (λb _ _ f g=>Ty.rec (motive:=λ_=>Bool) (λ_=>false) (λ_=>false) (λ_ _=>false) (λ_=>false) (λ_ _ _=>false) λc x y _ _=>b==c&&(f x&&g y))
theorem Ty.H(a:Ty):a.q a=true:=by
 induction a with
 |l n=>exact beq_self_eq_true n|j n=>exact beq_self_eq_true n|u n=>exact beq_self_eq_true n|r t f=>exact f|m n _ f=>exact bi.mpr ⟨beq_self_eq_true n,f⟩|o n _ _ f g=>exact bi.mpr ⟨beq_self_eq_true n,bi.mpr ⟨f,g⟩⟩
theorem Ty.I(a:Ty):∀b,a.q b=true->a=b:=by
 induction a with
 |l n=>intro b;induction b<;>first|exact λh=>congrArg Ty.l (oT h)|exact λh=>ft h
 |j n=>intro b;induction b<;>first|exact λh=>congrArg Ty.j (oT h)|exact λh=>ft h
 |u n=>intro b;induction b<;>first|exact λh=>congrArg Ty.u (oT h)|exact λh=>ft h
 |r t f=>intro b;induction b<;>first|exact λh=>congrArg Ty.r (f _ h)|exact λh=>ft h
 |m n _ f=>intro b;induction b<;>first|exact λh=>congr (congrArg Ty.m<|oT (bi.mp h).1) (f _ (bi.mp h).2)|exact λh=>ft h
 |o n _ _ f g=>intro b;induction b<;>first|exact λh=>congr (congr (congrArg Ty.o<|oT (bi.mp h).1) (f _ (bi.mp (bi.mp h).2).1)) (g _ (bi.mp (bi.mp h).2).2)|exact λh=>ft h
noncomputable instance:DecidableEq Ty:=λa b=>decidable_of_iff (a.q b=true) ⟨Ty.I a b,λe=>e▸Ty.H a⟩
noncomputable def Ty.z:Ty->List Ty|.r t=>[t]|.m _ a=>[a]|.o _ a b=>[a,b]|_=>[]
noncomputable def Ty.C:Ty->Nat|.r t=>max 1<|t.C+1|.m _ a=>max 1<|a.C+1|.o _ a b=>max (max 1<|a.C+1)<|b.C+1|_=>1
noncomputable def Ty.E:Ty->Nat|.r t=>1+t.E|.m _ a=>1+a.E|.o _ a b=>1+a.E+b.E|_=>1
noncomputable def Ty.D:Ty->Bool|.j _=>true|.r t=>t.D|.m _ a=>a.D|.o _ a b=>a.D||b.D|_=>false
noncomputable def Ty.k:Nat->Ty->Bool|_,.l n=>n==7||n==13|_,.j i=>i==0||i==1|d+1,.r t=>t.k d|_,_=>false
noncomputable def Ty.A:Ty->Bool|.l n=>aJ<|n<16|.u c=>aJ (66<=c)&&aJ (c<80)|.m c a=>(c==64||c==65)&&a.k 8|.o c a b=>aJ (66<=c)&&aJ (c<80)&&a.k 8&&b.k 8|t=>t.k 8
noncomputable def cP(a:List Ty)(t:Ty):V:=.d (a.idxOf t:Nat)
noncomputable def dM(d:List Ty):Ty->V|.l n=>V.m [.d 1,.d n]|.j i=>V.m [.d 6,.d i]|.r t=>V.m [.d 4,cP d t]|.u c=>V.m [.d 2,.d c,V.m []]|.m c a=>V.m [.d 2,.d c,V.m [cP d a]]|.o c a b=>V.m [.d 2,.d c,V.m [cP d a,cP d b]]
structure mA(K:List Ty):Prop where
 f:∃r,K=(cF 16).map Ty.l++r
 g:K.Nodup
 c:∀t∈K,∀u∈t.z,u∈K
 d:∀t∈K,t.A=true
theorem FA{m:List Ty}{t u:Ty}(c:t∈m)(h:m.idxOf t=m.idxOf u):t=u:=by have a:m.idxOf t<m.length:=AN.mpr c;haveI d:=RQ a;haveI e:m.idxOf u<m.length:=h▸a;haveI l:=RQ e;rw [<-d,<-l];congr 1
theorem uk{d:List Ty}{t u:Ty}(c:t∈d):cP d t=cP d u↔t=u:=by
 refine⟨λh=>?_,λh=>by rw [h]⟩;haveI a:((d.idxOf t:Nat):Int)=(d.idxOf u:Nat):=by unfold cP at h;exact V.d.inj h
 exact FA c<|bj (aV Y Z [.e Y Z] U<|hZ.mp a)<|aV Y Z [.g Z Y] U<|hZ.mp a
set_option tactic.hygienic true in
theorem WO(l:∀x∈t.z,x∈m) (h:dM m t=dM m u):t=u:=by
 have g:∀(a b:Nat),((a:Int)=b)->a=b:=λa b h=>(bj (aV Y Z [.e Y Z] U<|hZ.mp h)<|aV Y Z [.g Z Y] U<|hZ.mp h)
 cases t<;>cases u<;>simp only [dM,V.m,V.r.injEq,V.d.injEq,reduceCtorEq,and_true,true_and,and_false]at h
 case l.l=>rw [g _ _ h]
 case j.j=>rw [g _ _ h]
 case r.r a b=>rw [(uk<|l a<|.head _).mp h]
 case u.u=>rw [g _ _ h]
 case m.m c a d b=>rw [g _ _ h.1,(uk<|l a<|.head _).mp h.2]
 case o.o c a b d e f=>rw [g _ _ h.1,(uk<|l a<|.head _).mp h.2.1,(uk<|l b<|.tail _<|.head _).mp h.2.2]
 all_goals first|(simp at h;done)|skip
theorem lF(h:t∈K):cP (K++r) t=cP K t:=by
 unfold cP;have:(K++r).idxOf t=K.idxOf t:=by
  induction K with
  |nil=>exact bR h|cons a K d=>
   simp only [aG2,List.idxOf_cons];by_cases e:(a==t)=true;·simp [e]
   rw [DQ]at e;simp only [e,cond_false];refine aU (dA.mp h) ?_ ?_;·intro c;clear h d;subst c;simp at e
   intro h;rw [d h]
 rw [this]
set_option tactic.hygienic true in
theorem Bo(h:∀u∈t.z,u∈d):dM (d++r) t=dM d t:=by
 cases t<;>simp only [dM]
 case r a=>rw [lF<|h a<|.head _]
 case m c a=>rw [lF<|h a<|.head _]
 case o c a b=>rw [lF<|h a<|.head _,lF<|h b<|.tail _<|.head _]
set_option backward.match.sparseCases true
set_option genInjectivity true
noncomputable def w_:List Ty:=[.l 7,.l 13,.j 0,.j 1]
noncomputable def sX:Nat->List Ty|0=>w_|d+1=>w_++(sX d).map .r
noncomputable def FB:List Ty:=(cF 16).map .l++sX 8++(cF 14).map (λc=>.u<|66+c)++((sX 8).map (.m 64)++(sX 8).map (.m 65))++
 (cF 14).flatMap λc=>(sX 8).flatMap λa=>(sX 8).map λb=>.o (66+c) a b
theorem WP:FB.length<=999999:=by decide+kernel
theorem LJ:∀{d:Nat}{t:Ty},t∈w_->t∈sX d|0,_,h=>h|_+1,_,h=>dI _ h
theorem WQ(h:(Ty.l n).k d=true):Ty.l n∈w_:=by
 haveI h:(n==7||n==13)=true:=by induction d<;>exact h
 rw [xw,beq_iff_eq,beq_iff_eq]at h;rcases h with rfl|rfl;·exact .head _
 exact .tail _<|.head _
theorem WR(h:(Ty.j n).k d=true):Ty.j n∈w_:=by
 haveI h:(n==0||n==1)=true:=by induction d<;>exact h
 rw [xw,beq_iff_eq,beq_iff_eq]at h;rcases h with rfl|rfl;·exact .tail _<|.tail _<|.head _
 exact .tail _<|.tail _<|.tail _<|.head _
theorem um:∀{d:Nat}{t:Ty},t.k d=true->t∈sX d|_,.l n,h=>LJ<|WQ h|_,.j n,h=>LJ<|WR h|d+1,.r t,h=>dT w_<|bc.mpr ⟨t,um (d:=d) h,rfl⟩|0,.r t,h=>by exact ft h|0,.u _,h=>by exact ft h|0,.m _ _,h=>by exact ft h|0,.o _ _ _,h=>by exact ft h|_+1,.u _,h=>by exact ft h|_+1,.m _ _,h=>by exact ft h|_+1,.o _ _ _,h=>by exact ft h
theorem WS(h:t.A=true):t∈FB:=by
 induction t using Ty.casesOn with
 |l n=>have h:aJ (n<16)=true:=h;exact dI _<|dI _<|dI _<|dI _<|bc.mpr ⟨n,oU.mpr<|of_decide_eq_true h,rfl⟩|j i=>exact dI _<|dI _<|dI _<|dT _<|um h|r t=>exact dI _<|dI _<|dI _<|dT _<|um h|u c=>have h:(aJ (66<=c)&&aJ (c<80))=true:=h;simp only [iV,decide_eq_true_eq]at h;exact dI _<|dI _<|dT _<|bc.mpr ⟨c-66,oU.mpr<|be Y (.n 14) [.t Z<|.n 80,.e (.p 0 66) Z] U h.2<|bY<|cA cg Y [.l cg Y] U h.1,by congr 1;exact(bj (aV (.a cg Y) Z [.e (.p 0 66) Z] U<|bY<|cA cg Y [.l cg Y] U h.1)<|aV Y (.a cg Z) [.g (.p 1 66) Y] U<|bY<|cA cg Y [.l cg Y] U h.1)⟩|m c a=>
  have h:((c==64||c==65)&&a.k 8)=true:=h;simp only [iV,xw,beq_iff_eq]at h;obtain⟨rfl|rfl,h⟩:=h;·exact dI _<|dT _<|dI _<|bc.mpr ⟨a,um h,rfl⟩
  exact dI _<|dT _<|dT _<|bc.mpr ⟨a,um h,rfl⟩
 |o c a b=>have h:(aJ (66<=c)&&aJ (c<80)&&a.k 8&&b.k 8)=true:=h;simp only [iV,decide_eq_true_eq]at h;exact dT _<|rU.mpr ⟨c-66,oU.mpr<|be Y (.n 14) [.t Z<|.n 80,.e (.p 0 66) Z] U h.1.1.2<|bY<|cA cg Y [.l cg Y] U h.1.1.1,rU.mpr ⟨a,um h.1.2,bc.mpr ⟨b,um h.2,by congr 1;exact(bj (aV (.a cg Y) Z [.e (.p 0 66) Z] U<|bY<|cA cg Y [.l cg Y] U h.1.1.1)<|aV Y (.a cg Z) [.g (.p 1 66) Y] U<|bY<|cA cg Y [.l cg Y] U h.1.1.1)⟩⟩⟩
theorem sY:∀(l u:List Ty),l.Nodup->(∀x∈l,x∈u)->l.length<=u.length|[],_,_,_=>jI _|x::l,u,d,h=>by haveI m:=(gN.mp d).1;haveI n:=(gN.mp d).2;haveI c:=h x<|.head _;haveI:=sY l (u.erase x) n λy a=>(aG3 λe=>m<|by rw [<-e];exact a).mpr<|h y<|.tail _ a;rw [RR c]at this;haveI:=RS c;exact dN (iW<|sY l (u.erase x) n λy a=>(aG3 λe=>m<|by rw [<-e];exact a).mpr<|h y<|.tail _ a)<|by rw [RR c];exact AH<|bY<|RS c
theorem sZ(h:mA c):c.length<1000000:=
 Nat.lt_succ_of_le (dN (sY c FB h.g λt a=>WS<|h.d t a) WP)
theorem s5{d:List Ty}{t:Ty}(h:t∈d){c:Type}(f:Ty->c):(d.map f)[d.idxOf t]?=J (f t):=by haveI a:d.idxOf t<d.length:=AN.mpr h;rw [jJ,f7 a,RQ a];rfl
structure KT(H:Hp)(k:Nat)(K:List Ty):Prop where
 a:mA K
 b:H[k]?=J (.b 98 [(0,.j<|k+1),(1,.j<|k+2),(2,.j<|k+3),(3,.j<|k+4),(4,.j<|k+5)])
 e:H[k+1]?=J (.a<|K.map<|dM K)
 f:H[k+2]?=J (.e<|K.map λt=>(dM K t,cP K t))
 h:H[k+3]?=J (.a<|K.map λt=>.d (t.C:Nat))
 j:H[k+4]?=J (.a<|K.map λt=>.d (t.E:Nat))
 d:H[k+5]?=J (.a<|K.map λt=>.d (if t.D then 1 else 0))
structure NX(k:Nat)(X:List Nat)(H:Hp)(K:List Ty)(H':Hp)(K':List Ty):Prop where
 g:KT H' k K'
 t:∃r,K'=K++r
 j:H.length<=H'.length
 n:∀l o,H[l]?=J o->(l<k\/k+6<=l)->l∉X->H'[l]?=J o
abbrev Nx(k:Nat)(H:Hp)(c:List Ty)(a:Hp)(K':List Ty):Prop:=NX k [] H c a K'
def At(a:List Ty)(v:V)(t:Ty):Prop:=t∈a/\v=cP a t
section
theorem NX.i(S:KT H k a):NX k X H a H a:=⟨S,⟨[],(cI a).symm⟩,aK _,λ_ _ h _ _=>h⟩
theorem NX.f(a:NX k X H C x K')(b:NX k X x K' d p):NX k X H C d p:=
 ⟨b.g,by refine oE a.t λr e=>?_;refine oE b.t λA B=>?_;exact⟨r++A,by rw [B,e,d6]⟩,dN a.j b.j,λl o h c m=>b.n l o (a.n l o h c m) c m⟩
theorem NX.v(a:Nx k H e d K'):NX k X H e d K':=⟨a.g,a.t,a.j,λl o h c _=>a.n l o h c<|c_⟩
theorem NX.y(a:NX k X H p d K')(h:∀l∈X,H.length<=l):Nx k H p d K':=⟨a.g,a.t,a.j,λl o e c _=>a.n l o e c λm=>by
 haveI:=h l m
 rw [ey this]at e;exact aX e⟩
theorem Nx.b(a:Nx k H m d K')(e:H[l]?=J o)(c:l<k\/k+6<=l):d[l]?=J o:=a.n l o e c c_
theorem At.b(h:At n v t)(a:NX k X H n m K'):At K' v t:=by refine oE a.t λr l=>?_;rw [l];exact⟨dI _ h.1,h.2.trans (lF h.1).symm⟩
theorem At.c(h:At l v t)(a:At l u s):v=u↔t=s:=by rw [h.2,a.2];exact uk h.1
end
set_option backward.match.sparseCases false
theorem gG(G:aS)(d:rS f=J fn)(e:a.length=fn.a)(c:a.map J++jK (fn.c-fn.a) aA=G)
  (h:dC (aa n) fn.d G H<|gX Q):aa (n+1) f a H Q:=by
 rw [MQ];exact⟨ny d ⟨e,c▸h⟩⟩
theorem ce(c:rS f=J fn)(d:a.length=fn.a)
 (h:let r:=a.map J++jK (fn.c-fn.a) aA;dC (aa n) fn.d r H<|gX Q):aa (n+1) f a H Q:=gG _ c d rfl h
theorem dt [Decidable p](h:¬p)(k:Q):br (aJ p) P Q:=by rw [decide_eq_false h];exact k
theorem jC [Decidable p](h:p)(k:P):br (aJ p) P Q:=by rw [decide_eq_true h];exact k
theorem iO(h:b=true)(k:P):br b P Q:=by rw [h];exact k
theorem hM(h:b=false)(k:Q):br b P Q:=by rw [h];exact k
noncomputable def Ss.a:Nat->Ss->Ss|0,s=>s|n+1,.cons _ s=>s.a n|_+1,.nil=>.nil
theorem fp(P:List V->aS->Hp->Prop)(w:P c G h)
  (m:∀d G h,P d G h->fS h g c) (x:∀G h,P [] G h->A .a G h)
  (z:∀v bo G h,P (v::bo) G h->∀K':Fl->aS->Hp->Prop,(∀a e,P bo a e->K' .a a e/\K' .c a e)->(∀r a e,A (.b r) a e->K' (.b r) a e)->ee (t.b v G) λa=>body a h K'):
  xL body t c g c G h A:=by
 haveI l:∀d G h,P d G h->xL body t c g d G h A:=by
  intro d;induction d with
  |nil=>intro G h p;exact⟨m _ _ _ p,x _ _ p⟩|cons v d n=>intro G h p;exact⟨m _ _ _ p,z v d G h p _ (λa e p=>⟨n _ _ p,n _ _ p⟩) λr a e q=>q⟩
 exact l _ _ _ w
theorem WT{H:Hp}{l:Nat}{o a:O}(h:H[l]?=J a):(H.set l o)[l]?=J o:=by
 have:l<H.length:=by
  refine aU (fV l H.length) ?_ ?_;·intro q;exact q
  intro q;rw [ey q]at h;exact aX h
 rw [vg this]
theorem WU{H:Hp}{l m:Nat}{o a:O}(c:l≠m)(h:H[m]?=J a):(H.set l o)[m]?=J a:=by rw [qY c];exact h
noncomputable def Ty.B:Ty->Nat|.l _=>1|.j _=>6|.r _=>4|_=>2
noncomputable def Ty.G:Ty->Nat|.u _=>3|.m _ _=>3|.o _ _ _=>3|_=>2
section
theorem xA(S:KT H k d)(h:t∈d)(q:Q (dM d t) H):aa (n+1) 1 [.j k,cP d t] H Q:=by haveI a:d.idxOf t<d.length:=AN.mpr h;haveI c:=sZ S.a;refine gG (fn:=Ov) [J _,J _] rfl rfl rfl ?_;refine aL S.b<|gR S.e rfl (by rw [ai];exact c) ?_;refine dt (λe:((d.idxOf t:Nat):Int)≥((d.map<|dM d).length:Int)=>by rw [ai]at e;exact Ks a e)<|aL S.b<|du S.e (s5 h _) (ae a c) q
theorem jP(t:Ty):oJ bW H (dM a t) (.d 0)=J (.d t.B):=by induction t<;>rfl
theorem WV{t:Ty}(q:Q (.d (if t.B=2\/t.B=4 then 1 else 0)) H):aa (n+1) 4 [.d t.B] H Q:=by refine gG (fn:=Oy) [J _] rfl rfl rfl ?_;induction t<;>exact q
theorem FC(q:Q (V.m<|t.z.map<|cP c) H):aa (n+1) 3 [dM c t] H Q:=by
 refine gG (fn:=Ox) [J _,aA] rfl rfl rfl ?_;refine bS (jP t) ?_;induction t using Ty.casesOn with
 |l i=>exact q|j i=>exact q|r a=>exact bS rfl q|_=>exact bS rfl q
theorem WW{t:Ty}(q:Q (.d t.G) H):aa (n+1) 5 [.d t.B] H Q:=by refine gG (fn:=Oz) [J _] rfl rfl rfl ?_;induction t<;>exact q
theorem xB(h:mA d)(c:i<16):d.idxOf (Ty.l i)=i:=by
 obtain⟨r,rfl⟩:=h.f;haveI a:∀i:Fin 16,((cF 16).map Ty.l).idxOf (Ty.l i.val)=i.val:=by decide
 haveI m:Ty.l i∈(cF 16).map Ty.l:=bc.mpr ⟨i,oU.mpr c,rfl⟩;haveI e:=V.d.inj<|lF (K:=(cF 16).map Ty.l) (r:=r) m;haveI k:((cF 16).map Ty.l).idxOf (Ty.l i)=i:=a ⟨i,c⟩;rw [k]at e;exact hZ.mp e
theorem LK(h:mA c)(a:i<16):Ty.l i∈c:=by obtain⟨r,rfl⟩:=h.f;exact dI _<|bc.mpr ⟨i,oU.mpr a,rfl⟩
theorem At.d(h:mA l){i:Nat}(a:i<16):At l (.d i) (.l i):=⟨LK h a,by unfold cP;rw [xB h a]⟩
theorem LM(h:mA l)(a:t∈l)(c:i<16)(d:t≠.l i):¬(((l.idxOf t:Nat):Int)=(i:Int)):=λe=>d (FA a<|by rw [xB h c];exact hZ.mp e)
def y_(a:List Ty)(t:Ty):Prop:=t∈a/\t≠.l 0/\t≠.l 14
theorem LN(S:KT H k a)(h:y_ a t)(q:Q (.n true) H):aa (n+2) 9 [.j k,cP a t] H Q:=by refine gG (fn:=PC) [J _,J _,aA] rfl rfl rfl ?_;refine dt (LM S.a h.1 (i:=0) (by decide) h.2.1)<|dt (LM S.a h.1 (i:=14) (by decide) h.2.2)<|aL S.b<|xA S h.1<|bS (jP t) ?_;induction t<;>exact q
theorem WX{c:List Ty}(S:KT H k w)(h:∀a∈c,y_ w a) (q:Q .o H):aa (n+3) 8 [.j k,V.m<|c.map<|cP w] H Q:=by
 refine gG (fn:=PB) [J _,J _,aA] rfl rfl rfl ?_;refine zH<|fp (λl G h=>h=H/\(∃x,G=[J<|.j k,J<|V.m<|c.map<|cP w,x])/\∃bs:List Ty,l=bs.map (cP w)/\∀a∈bs,y_ w a) ⟨rfl,⟨_,rfl⟩,c,rfl,h⟩ (λ_ _ _ _=>trivial) ?_ ?_;·rintro G m ⟨rfl,_,_⟩;exact q
 rintro v bo G m ⟨rfl,⟨x,rfl⟩,bs,e,d⟩ K' p-;induction bs using bk with
 |nil=>exact hI e|cons b bs=>obtain⟨rfl,rfl⟩:=dP e;refine LN S (d b<|.head _)<|(p _ _ ⟨rfl,⟨_,rfl⟩,bs,rfl,λa t=>d a<|.tail _ t⟩).1
theorem WY{c:Nat}(h:64<=c)(d:c<80):mE (bW.a 67) (c:Int)=none:=by
 haveI a:∀c:Fin 80,64<=c.val->mE (bW.a 67) (c.val:Int)=none:=by decide
 exact a ⟨c,d⟩ h
theorem FE{c:Nat}(d:64<=c)(a:c<80):eK bW H .b (.d c) (.A 67)=J false:=by refine(?_:J (mE (bW.a 67) (c:Int)).isSome=_);rw [WY d a];rfl
noncomputable def Ty.F:Ty->Option (Nat×List Ty)|.u c=>J (c,[])|.m c a=>J (c,[a])|.o c a b=>J (c,[a,b])|_=>aA
theorem LO{c:Nat}{a:List Ty}(h:t.F=J (c,a)):dM K t=V.m [.d 2,.d c,V.m<|a.map<|cP K]/\t.z=a/\t.B=2:=by cases t<;>cases h<;>exact⟨rfl,rfl,rfl⟩
theorem WZ{c:Nat}{l:List Ty}(S:KT H k p)(m:64<=c)(d:c<80)(h:∀a∈l,y_ p a) (q:Q .o H):
  aa (n+4) 7 [.j k,V.m [.d 2,.d c,V.m<|l.map<|cP p]] H Q:=by
 refine gG (fn:=PA) [J _,J _] rfl rfl rfl ?_;refine bS rfl ?_;refine dt (λe:(c:Int)<=0=>Kr (kE (by decide:0<64) m) e)<|bS rfl ?_;refine bK (FE m d)<|bS rfl ?_;exact WX S h q
structure s7(K:List Ty)(t:Ty):Prop where
 b:∀i,t≠.l i
 a:∀u∈t.z,y_ K u
 d:∀c as,t.F=J (c,as)->64<=c/\c<80
 e:t.A=true
theorem Bp(t:Ty):t.B<=6:=by induction t<;>first|exact(by decide:1<=6)|exact(by decide:6<=6)|exact(by decide:4<=6)|exact(by decide:2<=6)
theorem W9{t:Ty}(h:∀i,t≠.l i):1<t.B:=by induction t<;>first|exact absurd rfl (h _)|exact(by decide:1<6)|exact(by decide:1<4)|exact(by decide:1<2)
theorem FF:[x,y].length<1000000:=(by decide:2<1000000)
theorem We:[x,y,z].length<1000000:=(by decide:3<1000000)
theorem LP(t:Ty)(q:K' t.G):zE (dM a t) H K':=by
 induction t using Ty.casesOn with
 |l i=>exact qG (vs:=[_,_]) FF q|j i=>exact qG (vs:=[_,_]) FF q|r i=>exact qG (vs:=[_,_]) FF q|_=>exact qG (vs:=[_,_,_]) We q
theorem Wf{t:Ty}(S:KT H k P)(h:s7 P t)(q:Q .o H):aa (n+5) 6 [.j k,dM P t] H Q:=by
 refine gG (fn:=O_) [J _,J _,aA,aA] rfl rfl rfl ?_;refine LP t<|dt (λe:(t.G:Int)=0=>by induction t<;>cases e)<|bS (jP t)<|dt (λe:(t.B:Int)<=1=>Kr (W9 h.b) e)<|bS (jP t)<|dt (λe:(t.B:Int)>11=>Ey (dN (Bp t) (by decide:6<=11)) e)<|bS (jP t)<|LP t<|WW<|hM (by rw [decide_eq_true rfl];rfl)<|FC<|zH<|fp (λw G h=>h=H/\(∃x,G=[J<|.j k,J<|dM P t,J<|.d t.B,x])/\∃bs:List Ty,w=bs.map (cP P)/\∀a∈bs,a∈P) ⟨rfl,⟨_,rfl⟩,t.z,rfl,λa d=>(h.a a d).1⟩ (λ_ _ _ _=>trivial) ?_ ?_
 ·rintro G m ⟨rfl,⟨x,rfl⟩,_⟩;haveI cl:∀c l,t.F=J (c,l)->aa (n+4) 7 [V.j k,dM P t] m λ_ h=>Q V.o h:=λc l e=>by obtain⟨z,A,I⟩:=LO e;rw [z];obtain⟨B,C⟩:=h.d c l e;exact WZ S B C (λa d=>h.a a<|A▸d) q
  induction t using Ty.casesOn with
  |l i=>exact absurd rfl (h.b i)|j i=>exact bS rfl q|r u=>exact bS rfl<|LN (n:=n+2) S (h.a u<|.head _) q|u c=>exact cl c _ rfl|m c a=>exact cl c _ rfl|o c a b=>exact cl c _ rfl
 rintro v bo G m ⟨rfl,⟨x,rfl⟩,bs,e,p⟩ K' D-;induction bs using bk with
 |nil=>exact hI e|cons b bs=>obtain⟨rfl,rfl⟩:=dP e;refine aL S.b<|xA S (p b<|.head _) (D _ _ ⟨rfl,⟨_,rfl⟩,bs,rfl,λa d=>p a<|.tail _ d⟩).1
end
set_option backward.match.sparseCases true
structure am(H:Hp)(l:Nat)(o:O)(H':Hp):Prop where
 c:H'.length=H.length
 b:H'[l]?=J o
 a:∀m p,H[m]?=J p->m≠l->H'[m]?=J p
theorem am.d(h:H[l]?=J n):am H l o (H.set l o):=
 ⟨vh,WT h,λm p hm e=>WU (iX e) hm⟩
theorem bw{H:Hp}{l:Nat}{o:O}(h:H[l]?=J o):l<H.length:=by
 refine aU (fV l H.length) ?_ ?_;·intro q;exact q
 intro q;rw [ey q]at h;exact aX h
theorem KT.g(S:KT H k p)(u:am H l o n)(c:l<k\/k+6<=l):KT n k p:=
 ⟨S.a,u.a _ _ S.b<|ui (i:=0) c<|by decide,u.a _ _ S.e<|ui (i:=1) c<|by decide,u.a _ _ S.f<|ui (i:=2) c<|by decide,u.a _ _ S.h<|ui (i:=3) c<|by decide,u.a _ _ S.j<|ui (i:=4) c<|by decide,u.a _ _ S.d<|ui (i:=5) c<|by decide⟩
theorem KT.m(S:KT H k l)(u:nz H o c):KT c k l:=
 ⟨S.a,u.a _ _ S.b,u.a _ _ S.e,u.a _ _ S.f,u.a _ _ S.h,u.a _ _ S.j,u.a _ _ S.d⟩
section
theorem NX.s(a:NX k X H D C K')(u:am C l o A)(c:l<k\/k+6<=l)(d:l∈X\/H.length<=l):NX k X H D A K':=
 ⟨a.g.g u c,a.t,u.c▸a.j,λm p h B x=>u.a m p (a.n m p h B x) λe=>by
  clear B c u;subst e
  refine aU d ?_ ?_
  ·intro d;exact x d
  ·intro d;rw [ey d]at h;exact aX h⟩
theorem NX.q(a:NX k X H x l K')(u:nz l o e):NX k X H x e K':=
 ⟨a.g.m u,a.t,by rw [u.c];exact tY a.j,λm p h c d=>u.a _ _<|a.n m p h c d⟩
end
section
theorem LQ:(dM K t).B=true:=by induction t<;>rfl
theorem FG(d:∀x∈t.z,x∈n):gK (n.map λu=>(dM n u,cP n u)) (dM n t)=if t∈n then J (cP n t)else none:=by
 haveI a:∀(l:List Ty),gK (l.map λu=>(dM n u,cP n u)) (dM n t)=if t∈l then J (cP n t)else none:=by
  intro l;induction l with
  |nil=>rfl|cons u l c=>
   unfold gK at c⊢;rw [g9,gA];by_cases e:t=u;·subst e;rw [decide_eq_true rfl,if_pos<|.head _];rfl
   rw [decide_eq_false λz=>e<|WO d z.symm];rw [c];by_cases m:t∈l;·rw [if_pos m,if_pos<|.tail _ m]
   rw [if_neg m,if_neg λh=>by rcases dA.mp h with q|q;exact e q;exact m q]
 exact a n
theorem LR(t:Ty):X2 λa b=>dM K t=.r a b:=by induction t<;>exact⟨_,_,rfl⟩
theorem LS(e:H[l]?=J (.e es)):rG bW H (.j l) (dM m t) d=J ((gK es<|dM m t).getD d):=by haveI c:=LQ (K:=m) (t:=t);refine p_ (LR (K:=m) t) λa b q=>?_;rw [q]at c⊢;exact(f0 (f:=C6 (V.r a b) d) e).trans<|No c
theorem xC(e:H[l]?=J (.e es)):tG H (.j l)=J .t:=f0 (f:=Np) e
theorem Wg(S:KT H k c)(a:t∈c)(q:Q (cP c t) H):aa (n+1) 2 [.j k,dM c t] H Q:=by refine gG (fn:=HP) [J _,J _,aA,aA,aA,aA,aA,aA,aA] rfl rfl rfl ?_;refine aL S.b<|bK (xC S.f)<|dE (xC S.f) (bK (LS S.f) ?_);rw [FG<|S.a.c t a,if_pos a];exact q
theorem mA.h(S:mA w)(m:t∉w)(n:s7 w t):mA (w++[t]) where
 f:=by obtain⟨r,e⟩:=S.f;exact⟨r++[t],by rw [e,d6]⟩
 g:=iu.mpr ⟨S.g,gN.mpr ⟨c_,fU⟩,λa q b v=>by rcases bg.mp v with rfl;exact λe=>m<|e▸q⟩
 c:=λs l u p=>by
  refine aU (eO.mp l) ?_ ?_;·intro l;exact dI _<|S.c s l u p
  intro l;clear m;rcases bg.mp l with rfl;exact dI _ (n.a u p).1
 d:=λs l=>by
  refine aU (eO.mp l) ?_ ?_;·intro l;exact S.d s l
  intro l;clear m;rcases bg.mp l with rfl;exact n.e
theorem LU(a:t∉c):cP (c++[t]) t=.d (c.length:Nat):=by unfold cP;rw [List.idxOf_append,if_neg a,List.idxOf_cons_self,DJ]
theorem Wi(S:mA d)(c:s7 d t):(d++[t]).map (dM<|d++[t])=d.map (dM d)++[dM d t]:=by
 rw [cL];congr 1;·exact mL λu a=>Bo<|S.c u a
 exact congrArg (· ::[])<|Bo λu a=>(c.a u a).1
theorem LV(h:gK es a=aA):ik es a b=es++[(a,b)]:=by unfold ik;rw [h];rfl
theorem Wj(S:mA e)(c:t∉e)(d:s7 e t):((e++[t]).map λu=>(dM (e++[t]) u,cP (e++[t]) u))=ik (e.map λu=>(dM e u,cP e u)) (dM e t) (.d (e.length:Nat)):=by
 rw [LV<|by rw [FG λu a=>(d.a u a).1,if_neg c],cL];congr 1;·exact mL λu a=>by rw [Bo<|S.c u a,lF a]
 refine(?_:[(dM (e++[t]) t,cP (e++[t]) t)]=_);rw [Bo λu a=>(d.a u a).1,LU c]
theorem Wk(h:es.length<1000000):qL (.e es) (dM d t) v=J (.e<|ik es (dM d t) v):=by haveI c:=LQ (K:=d) (t:=t);refine p_ (LR (K:=d) t) λa b q=>?_;rw [q]at c⊢;refine(?_:(if(V.r a b).B&&aJ (es.length<1000000)then _ else _)=_);rw [c,decide_eq_true h];rfl
noncomputable def lG(t:Ty):Int:=if t.B=2\/t.B=4 then 1 else 0
noncomputable def fD(c d:Int)(a:Ty):Int:=if(a.C:Int)+c>d then(a.C:Int)+c else d
noncomputable def fW(w:Int)(a:Ty):Int:=w+(a.E:Int)
noncomputable def fO(o:Int)(a:Ty):Int:=if a.D then 1 else o
theorem Bq(n:Nat)(a:Ty):fD 1 (n:Int) a=((max n (a.C+1):Nat):Int):=by
 unfold fD;split;·rw [aG4<|by omega];rfl
 rw [aG5<|by omega]
theorem FH{t:Ty}(h:∀i,t≠.l i):t.z.foldl (fD<|lG t) 1=(t.C:Int)/\t.z.foldl fW 1=(t.E:Int)/\t.z.foldl fO (if t.B=6 then 1 else 0)=if t.D then 1 else 0:=by
 haveI d:∀a:Ty,0<a.C:=λa=>by
  induction a with
  |o _ _ _ _ _=>exact kE (kE (by decide:0<1)<|tZ 1 _)<|tZ _ _|r _ _=>exact kE (by decide:0<1)<|tZ 1 _|m _ _ _=>exact kE (by decide:0<1)<|tZ 1 _|_=>exact(by decide:0<1)
 induction t using Ty.casesOn with
 |l i=>exact absurd rfl (h i)|j i=>exact⟨rfl,rfl,rfl⟩|u c=>exact⟨rfl,rfl,rfl⟩|r a=>
  haveI:=d a;refine⟨?_,?_,rfl⟩;·refine(?_:fD 1 1 a=((max 1 (a.C+1):Nat):Int));exact Bq 1 a
  exact(vj 1 a.E).symm
 |m c a=>
  haveI:=d a;refine⟨?_,?_,rfl⟩;·refine(?_:fD 1 1 a=((max 1 (a.C+1):Nat):Int));exact Bq 1 a
  exact(vj 1 a.E).symm
 |o c a b=>
  haveI:=d a;haveI:=d b;refine⟨?_,?_,?_⟩;·refine(?_:fD 1 (fD 1 1 a) b=((max (max 1<|a.C+1) (b.C+1):Nat):Int));rw [show fD 1 1 a=((max 1 (a.C+1):Nat):Int)from Bq 1 a];exact Bq _ b
  ·exact((vj _ b.E).trans<|congrArg (· +(b.E:Int))<|vj 1 a.E).symm
  refine(?_:(if b.D=true then(1:Int)else if a.D=true then 1 else 0)=if(a.D||b.D)=true then 1 else 0);cases a.D<;>cases b.D<;>rfl
theorem zA:∀{d:Nat}{t:Ty},t.k d=true->t.C<=d+1/\t.E<=d+1|d,.l n,h=>⟨vl 1 d,vl 1 d⟩|d,.j n,h=>⟨vl 1 d,vl 1 d⟩|d+1,.r t,h=>by haveI:=zA (d:=d) (t:=t) h;exact⟨Hw.mpr ⟨vl 1 _,iW this.1⟩,dN (AH<|RH 1 _)<|iW this.2⟩|0,.r t,h=>by exact ft h|0,.u _,h=>by exact ft h|0,.m _ _,h=>by exact ft h|0,.o _ _ _,h=>by exact ft h|_+1,.u _,h=>by exact ft h|_+1,.m _ _,h=>by exact ft h|_+1,.o _ _ _,h=>by exact ft h
theorem Wl{t:Ty}(h:t.A=true):t.C<=24/\t.E<=4096:=by
 induction t using Ty.casesOn with
 |l n=>exact⟨xu rfl,xu rfl⟩|u n=>exact⟨xu rfl,xu rfl⟩|j n=>exact⟨xu rfl,xu rfl⟩|r t=>haveI:=zA (d:=8) h;exact⟨(cA Y (.n 24) [.l Y<|.a iG au] U this.1),(cA Y (.n 4096) [.l Y<|.a iG au] U this.2)⟩|m c a=>haveI:=zA (d:=8) (bi.mp (show(_&&a.k 8)=true from h)).2;exact⟨Hw.mpr ⟨by decide,dN (iW this.1)<|by decide⟩,dN (vc (aK 1) this.2)<|by decide⟩|o c a b=>haveI m:=(bi.mp (show(_&&a.k 8&&b.k 8)=true from h)).1;haveI p:=(bi.mp (show(_&&a.k 8&&b.k 8)=true from h)).2;haveI e:=zA (d:=8) p;haveI l:=zA (d:=8) (bi.mp m).2;exact⟨Hw.mpr ⟨Hw.mpr ⟨by decide,dN (iW l.1)<|by decide⟩,dN (iW e.1)<|by decide⟩,dN (vc (vc (aK 1) l.2) e.2)<|by decide⟩
theorem Wm{t:Ty}(S:KT H k K)(ht:t∉K)(z:s7 K t)(q:∀H',Nx k H K H' (K++[t])->Q (cP (K++[t]) t) H'):aa (n+6) 2 [.j k,dM K t] H Q:=by
 refine gG (fn:=HP) [J _,J _,aA,aA,aA,aA,aA,aA,aA] rfl rfl rfl ?_
 refine aL S.b<|
   bK (xC S.f)<|
   dE (xC S.f) (bK (LS S.f) ?_)
 rw [FG λu hu=>(z.a u hu).1,if_neg ht]
 refine Wf S z ?_
 have R:∀o:Int,o=(if t.B=6 then 1 else 0)->dC (aa<|n+5) (Ow.a 7) [J<|.j k,J<|dM K t,J<|.d<|-1,J<|.d 1,J<|.d 1,J<|.d o,aA,aA,aA] H (gX Q):=by
  intro o ho
  refine bS (jP t)<|
    WV<|
    FC<|
    zH<|
    fp (λvs G h=>h=H/\X5 λ(bs:List Ty)(x:Option V)(d w o:Int)=>A6 (vs=bs.map (cP K)) (∀a∈bs,a∈K) (G=[J<|.j k,J<|dM K t,J<|.d<|-1,J<|.d d,J<|.d w,J<|.d o,J<|.d<|lG t,x,aA]) (bs.foldl (fD<|lG t) d=t.C) (bs.foldl fW w=t.E)<|bs.foldl fO o=if t.D then 1 else 0) ⟨rfl,t.z,aA,1,1,o,rfl,λa P=>(z.a a P).1,rfl,(FH z.b).1,(FH z.b).2.1,ho▸(FH z.b).2.2⟩ (λ_ _ _ _=>trivial) ?_ ?_
  ·rintro G h ⟨rfl,bs,x,d,w,o,e,-,rfl,W,X,e3⟩
   induction bs using bk with
   |cons _ _=>exact iN e
   |nil=>
    haveI W:d=t.C:=W
    have X:w=t.E:=X
    have e3:o=if t.D then 1 else 0:=e3
    subst W X e3
    haveI sm:=Wl z.e
    have kl:=sZ S.a
    refine dt (λe:((t.C:Nat):Int)>24=>Ey sm.1 e)<|
      dt (λe:((t.E:Nat):Int)>4096=>Ey sm.2 e)<|
      aL S.b<|
      gR S.e rfl (by rw [ai];exact kl) ?_
    rw [ai]
    refine aL S.b<|
      dE (dj S.e)<|
      eB S.e (by rw [ai];exact kl) ?_
    have m:=am.d (o:=.a<|K.map (dM K)++[dM K t]) S.e
    revert m
    generalize h.set (k+1) _=h1
    intro m
    refine aL (m.a _ _ S.b<|aj<|bP _<|aK _) ?_
    haveI i1:=m.a _ _ S.f<|a9<|bA aR cm [] U
    refine jS i1 (Wk<|by rw [ai];exact kl) ?_
    rw [<-Wj S.a ht z]
    have A:=am.d (o:=.e<|(K++[t]).map λu=>(dM (K++[t]) u,cP (K++[t]) u)) i1
    revert A
    generalize h1.set (k+2) _=h2
    intro A
    haveI d2:=A.a _ _ (m.a _ _ S.h<|a9<|bA aR fL [] U)<|a9<|bA cm fL [] U
    haveI s2:=A.a _ _ (m.a _ _ S.b<|aj<|bP _<|aK _)<|aj<|bP _<|aK _
    refine aL s2<|
      dE (dj d2)<|
      eB d2 (by rw [ai];exact kl) ?_
    have B:=am.d (o:=.a<|(K.map λt=>V.d (t.C:Nat))++[.d (t.C:Nat)]) d2
    revert B
    generalize h2.set (k+3) _=h3
    intro B
    haveI s3:=B.a _ _ s2<|aj<|bP _<|aK _
    haveI w3:=B.a _ _ (A.a _ _ (m.a _ _ S.j<|a9<|bA aR fZ [] U)<|a9<|bA cm fZ [] U)<|a9<|bA fL fZ [] U
    refine aL s3<|
      dE (dj w3)<|
      eB w3 (by rw [ai];exact kl) ?_
    have C:=am.d (o:=.a<|(K.map λt=>V.d (t.E:Nat))++[.d (t.E:Nat)]) w3
    revert C
    generalize h3.set (k+4) _=h4
    intro C
    haveI s4:=C.a _ _ s3<|aj<|bP _<|aK _
    haveI o4:=C.a _ _ (B.a _ _ (A.a _ _ (m.a _ _ S.d<|a9<|bA aR bu [] U)<|a9<|bA cm bu [] U)<|a9<|bA fL bu [] U)<|a9<|bA fZ bu [] U
    refine aL s4<|
      dE (dj o4)<|
      eB o4 (by rw [ai];exact kl) ?_
    have D:=am.d (o:=.a<|(K.map λt=>V.d (if t.D then 1 else 0))++[.d (if t.D then 1 else 0)]) o4
    revert D
    generalize h4.set (k+5) _=h5
    intro D
    haveI r:=q h5 ⟨⟨S.a.h ht z,D.a _ _ s4<|aj<|bP _<|aK _,?_,?_,?_,?_,?_⟩,⟨[t],rfl⟩,?_,?_⟩
    ·rw [LU ht]at r;exact r
    ·rw [Wi S.a z];exact D.a _ _ (C.a _ _ (B.a _ _ (A.a _ _ m.b<|aj<|bA aR cm [] U)<|aj<|bA aR fL [] U)<|aj<|bA aR fZ [] U)<|aj<|bA aR bu [] U
    ·exact D.a _ _ (C.a _ _ (B.a _ _ A.b<|aj<|bA cm fL [] U)<|aj<|bA cm fZ [] U)<|aj<|bA cm bu [] U
    ·rw [cL];exact D.a _ _ (C.a _ _ B.b<|aj<|bA fL fZ [] U)<|aj<|bA fL bu [] U
    ·rw [cL];exact D.a _ _ C.b<|aj<|bA fZ bu [] U
    ·rw [cL];exact D.b
    ·rw [D.c,C.c,B.c,A.c,m.c];exact aK _
    ·intro l o hl c _
     exact D.a _ _ (C.a _ _ (B.a _ _ (A.a _ _ (m.a _ _ hl<|yy (i:=1) c<|by decide)<|yy (i:=2) c<|by decide)<|yy (i:=3) c<|by decide)<|yy (i:=4) c<|by decide)<|yy (i:=5) c<|by decide
  ·rintro v bo G h ⟨rfl,bs,x,d,w,o,e,hb,rfl,W,X,e3⟩ K' kn-
   induction bs using bk with
   |nil=>exact hI e
   |cons a bs=>
    obtain⟨rfl,rfl⟩:=dP e
    have P:=hb a<|.head _
    haveI kl:=sZ S.a
    haveI ia:K.idxOf a<1000000:=lW (AN.mpr P) kl
    have fC:∀I o',I=fD (lG t) d a->o'=fO o a->K' .a [J<|.j k,J<|dM K t,J<|.d<|-1,J<|.d I,J<|.d<|w+a.E,J<|.d o',J<|.d<|lG t,J<|cP K a,aA] h:=
     λI o' hd ho=>(kn _ _ ⟨rfl,bs,J<|cP K a,I,w+a.E,o',rfl,λb Iw=>hb b<|.tail _ Iw,rfl,hd▸W,X,ho▸e3⟩).1
    have p:∀I,I=fD (lG t) d a->dC (aa (n+5)) (.cons (.p 4 .a (.p (.l (.g 0) 3) (.g 7)))
      (.cons (.f (.w .c (.p (.l (.g 0) 4) (.g 7)) (.h (.d 1))) (.cons (.d 5 (.h (.d 1))) .nil) .nil) .nil)) [J (.j k),J (dM K t),J (.d (-1)),J (.d I),J (.d w),J (.d o),J (.d (lG t)),J (cP K a),aA] h K':=by
     intro I hd
     refine aL S.b<|
       du S.j (s5 P _) ia<|
       bK rfl ?_
     refine aL S.b<|
       du S.d (s5 P _) ia ?_
     induction q:a.D with
     |true=>exact fC I 1 hd<|by unfold fO;rw [q];rfl
     |false=>exact fC I o hd<|by unfold fO;rw [q];rfl
    refine aL S.b<|
      du S.h (s5 P _) ia ?_
    by_cases c:(a.C:Int)+lG t>d
    ·refine jC c<|
       aL S.b<|
       du S.h (s5 P _) ia<|
       p _ (by unfold fD;rw [if_pos c])
    ·refine dt c<|
       p _ (by unfold fD;rw [if_neg c])
 refine bS (jP t) ?_
 by_cases c:t.B=6
 ·refine jC (show((t.B:Nat):Int)=6 by rw [c];rfl)<|
    R 1 (by rw [if_pos c])
 ·refine dt (sV c)<|
    bS (jP t)<|
    dt (λe:((t.B:Nat):Int)=7=>by haveI:=Bp t;exact(nQ [_] [.g Y<|.n 7,.l Y fh] U (hZ.mp e) this))<|
    R 0 (by rw [if_neg c])
theorem Br(S:KT H k e)(d:s7 e t)(q:∀a K' v,Nx k H e a K'->At K' v t->Q v a):aa (n+6) 2 [.j k,dM e t] H Q:=by
 by_cases c:t∈e;·exact Wg (n:=n+5) S c<|q H e _ (NX.i S) ⟨c,rfl⟩
 exact Wm S c d λa N=>q a _ _ N ⟨dT _<|.head _,rfl⟩
end
set_option backward.match.sparseCases false
def bB(e:List Ty)(d:List V)(c:List Ty):Prop:=d=c.map (cP e)/\∀a∈c,a∈e
theorem bB.b(h:bB w p q)(a:NX k X H w v K'):bB K' p q:=by refine oE a.t λr e=>?_;rw [e];exact⟨h.1.trans<|mL λt m=>(lF<|h.2 t m).symm,λt m=>dI _<|h.2 t m⟩
theorem bB.f:bB a [] []:=⟨rfl,λ_ h=>(c_ h).elim⟩
theorem bB.n(h:At q v t)(g:bB q m p):bB q (v::m) (t::p):=
 ⟨by rw [h.2,g.1];rfl,λa e=>by rcases dA.mp e with rfl|e;exact h.1;exact g.2 _ e⟩
theorem bB.j(h:bB q m p){i:Nat}{a:Ty}(e:p[i]?=J a):∃v,m[i]?=J v/\At q v a:=
 ⟨cP q a,by rw [h.1,jJ,e];rfl,h.2 a<|dU e,rfl⟩
theorem bB.c(h:bB m a e):a.length=e.length:=by rw [h.1,ai]
theorem bB.l(h:bB t e m)(g:bB t p bs):bB t (e++p) (m++bs):=
 ⟨by rw [h.1,g.1,cL],λa q=>(eO.mp q).elim (h.2 a)<|g.2 a⟩
theorem bB.d(h:At a v t):bB a [v] [t]:=bB.n h bB.f
theorem Bs{t:Ty}(h:t.k d=true)(hd:d<=8):t.A=true/\t≠.l 0/\t≠.l 14:=by
 haveI a:∀{e d:Nat}{t:Ty},t.k d=true->d<=e->t.k e=true:=by
  intro e;induction e with
  |zero=>intro d t h hd;obtain rfl:d=0:=Nat.le_zero.mp hd;exact h
  |succ e l=>
   intro d t h hd;induction t using Ty.casesOn with
   |l n=>induction d<;>exact h|j n=>induction d<;>exact h|r t=>induction d using iJ with|zero=>exact ft h|succ d=>exact l (d:=d) h<|aG6 hd
   |_=>induction d<;>exact ft h
 haveI c:=a h hd;induction t using Ty.casesOn with
 |l n=>haveI h:(n==7||n==13)=true:=c;rw [xw,beq_iff_eq,beq_iff_eq]at h;clear c;rcases h with rfl|rfl<;>exact⟨rfl,(by intro e;cases e),(by intro e;cases e)⟩
 |j n=>exact⟨c,λe=>(nomatch e),λe=>(nomatch e)⟩|r n=>exact⟨c,λe=>(nomatch e),λe=>(nomatch e)⟩|_=>exact ft c
theorem LW{t u:Ty}(h:t.A=true)(e:u∈t.z):∃d,d<=8/\u.k d=true:=by
 induction t using Ty.casesOn with
 |l n=>exact bR e|j n=>exact bR e|u n=>exact bR e|r t=>rcases bg.mp e with rfl;exact⟨7,by decide,h⟩
 |m c a=>rcases bg.mp e with rfl;exact⟨8,by decide,(bi.mp h).2⟩
 |o c a b=>
  obtain⟨m,p⟩:=bi.mp h;haveI e:u∈[a,b]:=e;refine aU (dA.mp e) ?_ ?_;·intro l;rw [l];exact⟨8,by decide,(bi.mp m).2⟩
  intro e;clear h;rcases bg.mp e with rfl;exact⟨8,by decide,p⟩
theorem Bt{t:Ty}(h:t.A=true)(l:∀u∈t.z,u∈K) (np:∀i,t≠.l i):s7 K t where
 b:=np
 a:=λu a=>by refine aG (LW h a) λd hd e=>⟨l u a,(Bs e hd).2⟩
 d:=λc m e=>by
  cases t<;>cases e;·have h:=bi.mp (show(aJ (66<=_)&&aJ (_<80))=true from h);exact⟨dN (by decide)<|of_decide_eq_true h.1,of_decide_eq_true h.2⟩
  ·have h:=vm.mp (bi.mp (show((_==64||_==65)&&_)=true from h)).1;rcases h with h|h<;>rw [oT h]<;>decide
  have h:=bi.mp (bi.mp (bi.mp (show(aJ (66<=_)&&aJ (_<80)&&_&&_)=true from h)).1).1;exact⟨dN (by decide)<|of_decide_eq_true h.1,of_decide_eq_true h.2⟩
 e:=h
section
theorem xD(S:KT H k A)(h:bB A vs as)(a:t.F=J (c,as))(d:t.A=true)(q:∀l K' v,Nx k H A l K'->At K' v t->Q v l):
  aa (n+7) 10 [.j k,.d c,V.m vs] H Q:=by
 refine fk (LO (K:=A) a) λp m w=>?_;have f:=Bt (K:=A) d (m▸h.2) λi e=>by clear w m d;subst e;exact aX a
 haveI x:=(f.d c as a).1;haveI z:=(f.d c as a).2;refine gG (fn:=PD) [J _,J _,J _] rfl rfl rfl ?_;refine bK (FE x z)<|aL S.b ?_;haveI:=Br (n:=n) S f q;rw [p,<-h.1]at this;exact this
theorem Wp(S:KT H k l)(h:At l v t)(a:(Ty.r t).A=true)(q:∀c K' v,Nx k H l c K'->At K' v (.r t)->Q v c):
  aa (n+7) 11 [.j k,v] H Q:=by
 haveI f:=Bt (K:=l) (t:=.r t) a (λu d=>by clear a;rcases bg.mp d with rfl;exact h.1) λi e=>nomatch e;refine gG (fn:=PE) [J _,J _] rfl rfl rfl ?_;refine aL S.b ?_;haveI:=Br (n:=n) S f q;rw [h.2];exact this
theorem xE(S:KT H k m)(c:i<2)(q:∀a K' v,Nx k H m a K'->At K' v (.j i)->Q v a):
  aa (n+7) 12 [.j k,.d i] H Q:=by
 have d:(Ty.j i).A=true:=by clear q;rcases VH c with rfl|rfl<;>rfl
 have f:=Bt (K:=m) d (λu l=>(c_ l).elim) λi e=>nomatch e;refine gG (fn:=PF) [J _,J _] rfl rfl rfl ?_;refine aL S.b<|Br (n:=n) S f q
theorem FI(S:KT H k a)(h:At a v t)(q:Q (.d t.B) H):aa (n+2) 13 [.j k,v] H Q:=by refine gG (fn:=PG) [J _,J _] rfl rfl rfl ?_;refine aL S.b ?_;rw [h.2];refine xA S h.1<|bS (jP t) q
noncomputable def Ty.s:Ty->Nat|.u c=>c|.m c _=>c|.o c _ _=>c|.l i=>if i=12 then 1 else 0|_=>0
noncomputable def Ty.p:Ty->List Ty|.m _ a=>[a]|.o _ a b=>[a,b]|_=>[]
theorem Wq(S:KT H k c)(h:At c v t)(a:t=.l 12\/∃x,t.F=J x) (q:Q (.d t.s) H):aa (n+2) 14 [.j k,v] H Q:=by
 refine gG (fn:=PH) [J _,J _,aA] rfl rfl rfl ?_;refine aL S.b ?_;rw [h.2];refine xA S h.1<|bS (jP t) ?_;clear h;rcases a with rfl|⟨x,e⟩
 ·refine bS (jP _)<|
   bS (jP _)<|
   bK (x:=DK.i) rfl ?_
  refine dE rfl ?_;haveI e:c.idxOf (.l 12)=12:=xB S.a<|by decide
  haveI q:Q (V.d 1) H:=q;refine bK (x:=V.d 1) ?_ q;refine(?_:J (((mE (bW.a 66) ((c.idxOf (.l 12):Nat):Int)).map V.d).getD<|.d 0)=_);rw [e];rfl
 cases t<;>cases e<;>exact bS rfl q
theorem xF(S:KT H k e)(h:At e v t)(q:∀d,bB e d t.p->Q (V.m d) H):aa (n+2) 15 [.j k,v] H Q:=by
 refine gG (fn:=PI) [J _,J _,aA] rfl rfl rfl ?_;refine aL S.b ?_;rw [h.2];refine xA S h.1<|bS (jP t) ?_;have c:=S.a.c t h.1;clear h;induction t using Ty.casesOn with
 |l i=>exact bS (jP _)<|q [] bB.f|j i=>exact bS (jP _)<|q [] bB.f|r a=>exact bS (jP _)<|q [] bB.f|u c=>exact bS rfl (q [] bB.f)|m _ a=>exact bS rfl (q [cP e a] ⟨rfl,c⟩)|o _ a b=>exact bS rfl (q [cP e a,cP e b] ⟨rfl,c⟩)
theorem Ws(e:a[i]?=J v)(d:i<1000000)(q:K' v):mj (V.m a) (.d<|ip i) H K':=by
 induction a using bk with
 |nil=>induction i<;>exact aX e
 |cons x a=>
  refine bS (x:=v) ?_ q
  haveI c:(0:Int)<=ip i/\ip i<1000000:=⟨j1 _,fT.mpr d⟩
  exact aCF.trans ((aCD c).trans (by
   refine(?_:((V.m<|x::a).z.bind λa=>a[(ip i).toNat]?)=_)
   rw [zG];exact e))
theorem Wu{i:Nat}{v z:V}(e:a[i]?=J v)(l:a.length<1000000)(q:Q v H):aa (n+1) 19 [V.m a,.d i,z] H Q:=by
 refine gG (fn:=PM) [J _,J _,J _] rfl rfl rfl ?_;refine qG l ?_;haveI c:i<a.length:=by
  refine aU (fV i a.length) ?_ ?_;·intro h;exact h
  intro h;rw [ey h]at e;exact aX e
 refine jC (show(i:Int)<a.length from(fT.mpr<|be Y Z [.t Y Z] U c))<|Ws e (ae c l) q
end
noncomputable def Ty.e(d:List Ty):Ty->Ty|.j i=>(d[i]?).getD<|.j i|.r t=>.r<|t.e d|.m c a=>.m c<|a.e d|.o c a b=>.o c (a.e d)<|b.e d|t=>t
noncomputable def Ty.w(n:Nat):Ty->Bool|.j i=>aJ<|i<n|.r t=>t.w n|.m _ a=>a.w n|.o _ a b=>a.w n&&b.w n|_=>true
noncomputable def Ty.v:Ty->Nat|.r t=>t.v+1|.m _ a=>a.v+1|.o _ a b=>a.v+b.v+1|_=>0
theorem s8:∀{t:Ty},t.D=false->t.e d=t|.l _,_=>rfl|.u _,_=>rfl|.j i,h=>by exact tf h|.r t,h=>congrArg Ty.r<|s8 (t:=t) h|.m c a,h=>congrArg (Ty.m c)<|s8 (t:=a) h|.o c a b,h=>by haveI h:(a.D||b.D)=false:=h;rw [Bool.or_eq_false_iff]at h;refine(?_:Ty.o c (a.e d) (b.e d)=_);rw [s8 h.1,s8 h.2]
theorem Wv(t:Ty)(h:t.z≠[]):t.v=(t.z.map Ty.v).sum+1:=by
 induction t<;>first|exact absurd rfl h|skip
 ·refine(?_:_=(_+0)+1);rfl
 ·refine(?_:_=(_+0)+1);rfl
 refine(?_:_+_+1=(_+(_+0))+1);rfl
theorem LX(t:Ty)(a:List Ty)(h:t.z≠[]):(t.e a).z=t.z.map (Ty.e a):=by induction t<;>first|exact absurd rfl h|rfl
theorem LY(t:Ty):t.z.length<=2:=by induction t<;>first|exact(by decide:0<=2)|exact(by decide:1<=2)|exact(by decide:2<=2)
theorem At.i(h:At a v t):∃i:Nat,v=.d i:=⟨_,h.2⟩
def xG(c:List Ty)(es:List<|Int×V)(a:List Ty):Prop:=∀i w,d9 es i=J w->∃u,At c (.d i) u/\At c w (u.e a)
theorem xG.b(h:xG n es c)(a:NX k X H n m K'):xG K' es c:=
 λi w e=>let ⟨u,d,l⟩:=h i w e;⟨u,d.b a,l.b a⟩
theorem Bu:d9 (fR es i v) j=if i=j then J v else d9 es j:=by
 haveI d:∀(l:List<|Int×V),d9 (l.map λe=>if e.1=i then(e.1,v)else e) j=if i=j then(if(d9 l i).isSome then J v else aA)else d9 l j:=by
  intro l;induction l with
  |nil=>by_cases e:i=j<;>simp [d9,e]|cons p l c=>
   unfold d9 at c⊢;rw [g9,gA];by_cases a:p.1=i
   ·subst a;by_cases b:p.1=j;·clear c;subst b;simp
    simp [b]at c⊢;exact c
   by_cases b:p.1=j;·rw [<-b];have:¬i=p.1:=λe=>a e.symm;simp [a,this]
   simp only [a,b,if_false,decide_false,gA];exact c
 unfold fR;split;·rename_i h;rw [d,h];rfl
 rename_i h;haveI h:d9 es i=none:=by simpa using h
 unfold d9 at h⊢;rw [DR];by_cases e:i=j;·rw [<-e];rw [Hx]at h;rw [h];simp
 induction q:es.find? λe=>aJ (e.1=j)with
 |none=>simp [e]|some p=>simp [e]
theorem LZ:(fR es i v).length<=es.length+1:=by
 unfold fR;split;·rw [ai];exact(dF _<|aK _)
 rw [b9];exact aK _
section
theorem Ww(S:KT H k B)(l:t.z≠[])(h:bB B z<|t.z.map<|Ty.e m)(p:(t.e m).A=true)(q:∀w K' v,Nx k H B w K'->At K' v (t.e m)->Q v w):
  aa (n+8) 18 [.j k,dM x t,V.m z] H Q:=by
 refine ce (fn:=PL) rfl rfl ?_;intro rr;refine bS (jP t) ?_;have f:s7 B (t.e m):=Bt p (λu A=>h.2 u<|LX t m l▸A) λi e=>by cases t<;>first|exact l rfl|exact Mine.Ty.noConfusion e
 have P:=Br (n:=n+1) S f q;clear f q p;cases t with
 |l i=>exact absurd rfl l|j i=>exact absurd rfl l|u i=>exact absurd rfl l|r a=>haveI d:=h.1;subst d;refine aL S.b<|bS rfl ?_;exact P|m c a=>refine on h λd _=>?_;subst d;refine aL S.b<|bS rfl ?_;exact P|o c a b=>obtain⟨rfl,_⟩:=h;refine aL S.b<|bS rfl ?_;exact P
def FJ(t:Ty):Prop:=∀{n k l:Nat}{H:Hp}{m:List Ty}{Q:V->Hp->Prop}{v:V}{e:List V}{a:List Ty}{es:List<|Int×V},KT H k m->At m v t->bB m e a->t.w a.length=true->(t.e a).A=true->a.length<1000->H[l]?=J (.d es)->(l<k\/k+6<=l)->xG m es a->es.length+t.v<=1000->
 (∀d K' w c,NX k [l] H m d K'->d[l]?=J (.d c)->xG K' c a->c.length<=es.length+t.v->At K' w (t.e a)->Q w d)->aa (n+t.v+9) 17 [.j k,v,V.m e,V.m [],.j l] H Q
theorem Wx{l:List Nat}{x:Nat}(h:x∈l):x<=l.sum:=by
 induction l with
 |nil=>exact bR h|cons y l a=>
  rw [RT];rcases dA.mp h with rfl|h;·exact(aV Y (.a Y Z) [] U)
  haveI:=a h;exact(bb Y (.a Z aB) [.l Y aB] U this)
theorem Wy{t u:Ty}{m:Nat}(h:t.w m=true)(d:u∈t.z):u.w m=true:=by
 induction t using Ty.casesOn with
 |r a=>rcases bg.mp d with rfl;exact h
 |m c a=>rcases bg.mp d with rfl;exact h
 |o c a b=>
  obtain⟨e,l⟩:=bi.mp (show(a.w m&&b.w m)=true from h);have d:u∈[a,b]:=d;clear h;rcases dA.mp d with rfl|d
  ·exact e
  rcases bg.mp d with rfl;exact l
 |_=>exact bR d
def Wz(t:Ty)(k l:Nat)(H:Hp)(P:List Ty)(p:List V)(e:List Ty)(es:List<|Int×V)(d:List V)(G:aS)(h:Hp):Prop:=∀a:Prop,(∀(bs m:List Ty)(n:List V)(K':List Ty)(c:List<|Int×V)(x:Option V)(q:d=bs.map (cP P))(v:t.z=m++bs)(w:NX k [l] H P h K')(z:h[l]?=J (.d c))(A:xG K' c e)(B:c.length+(bs.map Ty.v).sum+1<=es.length+t.v)(C:h[H.length]?=J (.a n))(D:bB K' n<|m.map<|Ty.e e)(I:G=[J<|.j k,J<|cP P t,J<|V.m p,J<|V.m [],J<|.j l,J<|dM P t,J<|.j H.length,x]),a)->a
theorem xH{t:Ty}(ih:∀u∈t.z,FJ u):FJ t:=by
 intro n k l H K Q v vs W es S p ha hs hg Dp hd hl he hn q;refine gG (fn:=PK) [J _,J _,J _,J _,J _,aA,aA,aA] rfl rfl rfl ?_;haveI kl:=sZ S.a;haveI ko:=bw S.d;have it:K.idxOf t<1000000:=lW (AN.mpr p.1) kl;rw [p.2];refine aL S.b<|du S.d (s5 p.1 _) it ?_;induction ho:t.D with
 |false=>haveI:=q H K (cP K t) es (NX.i S) hd he (jZ _ _) ⟨(s8 ho).symm▸p.1,by rw [s8 ho]⟩;exact this|true=>
  haveI ci:eK bW H .b (cP K t) (.j l)=J (d9 es (K.idxOf t:Nat)).isSome:=by exact f0 (f:=mG<|.d (K.idxOf t:Nat)) hd
  refine bK ci ?_;induction hi:d9 es ((K.idxOf t:Nat):Int)with
  |some w=>refine aG (he _ _ hi) λu h1 h2=>?_;obtain rfl:u=t:=(h1.c p).mp p.2.symm;refine iO rfl ?_;refine uv hd hi<|q H K w es (NX.i S) hd he (jZ _ _) h2
  |none=>
   refine hM rfl ?_;refine aL S.b<|du S.e (s5 p.1 _) it<|bS (jP t) ?_;by_cases hp:t.z=[]
   ·clear hi ci it;clear hn hg p ih;induction t using Ty.casesOn with
    |l i=>exact ft ho|u i=>exact ft ho|r a=>exact hI hp|m c a=>exact hI hp|o c a b=>exact hI hp|j i=>
     haveI r7:i<W.length:=of_decide_eq_true hs;have e:W[i]?=J W[i]:=f7 r7;refine aG (ha.j e) λw D e2=>bS rfl ?_;refine Wu D (by rw [ha.c];exact(ae Dp))<|q H K w es (NX.i S) hd he (jZ _ _)<|(?_:At K w<|(W[i]?).getD<|.j i)
     rw [e];exact e2
   haveI hh:=Wv t hp;refine dt (λe:((t.B:Nat):Int)=6=>hp<|by induction t<;>first|rfl|exact absurd e (sV (Nat.ne_of_beq_eq_false rfl)))<|bS (jP t)<|dt (λe:((t.B:Nat):Int)=7=>by haveI:=Bp t;exact(nQ [_] [.g Y<|.n 7,.l Y fh] U (hZ.mp e) this))<|bX λh0 u0=>FC<|zH ?_;haveI tt:=bw hd;haveI h0:NX k [l] H K h0 K:=(NX.i S).q u0;refine fp (Wz t k l H K vs W es) ?_ (λ_ _ _ _=>trivial) ?_ ?_;·exact λ_ k=>k t.z ([]) ([]) K es aA rfl rfl h0 (u0.a _ _ hd) he (bb (.a (.a Y Z) au) (.a Y aB) [.g aB aY] U hh) u0.b bB.f rfl
   ·intro G h q0;refine q0 _ λbs ds ws K' A x e D N tu q9 B hw C I=>?_;apply cQ I;intro rr;obtain rfl:bs=[]:=by induction bs using bk with|nil=>rfl|cons _ _=>exact iN e
    rw [cI]at D;haveI wB:ws.length<1000:=by haveI:=LY t;rw [C.c,ai,<-D];exact(cN this)
    refine CE hw (ae wB) ?_;haveI yH:n+t.v+8=(n+t.v)+8:=rfl;refine Ww (n:=n+t.v) N.g hp (D▸C) hg ?_;intro H2 K2 w N2 P;have R:=N2.b tu hl;haveI aIV:A.length<1000000:=by have:es.length+t.v<=1000:=hn;exact(jA Y eX [.l (.a Z aB) dz,.l (.a (.a Y aI) au)<|.a Z aB] U hn B)
    refine jS R (o':=.d<|fR A (K.idxOf t:Nat) w) (if_pos aIV) ?_;have u:=am.d (o:=.d<|fR A (K.idxOf t:Nat) w) R;revert u;generalize H2.set l _=H3;intro u;refine uv u.b (x:=w) (by rw [Bu,if_pos rfl]) ?_;haveI N3:NX k [l] H K H3 K2:=(N.f<|NX.v N2).s u hl<|.inl<|.head _;refine q H3 K2 w _ N3 u.b ?_ ?_ P
    ·intro i z e;rw [Bu]at e;split at e
     ·rename_i ie
      (replace e:=ao e;clear u;subst e)
      exact bU t (show At K2 (.d i) t from ie▸(p.2▸p.b N3:At K2 (cP K t) t)) P
     exact(q9.b<|NX.v (X:=[l]) N2) i z e
    haveI:=LZ (es:=A) (i:=(K.idxOf t:Nat)) (v:=w);exact(jt Y (.a Z aB) [.l (.a (.a aI bF) au)<|.a Z aB,.l Y fM] U B this)
   intro v' bo G h q0;refine q0 _ λbs ds ws K' A x e D N tu q9 B hw C I=>?_;intro K1 kn _;apply cQ I;intro rr;induction bs using bk with
   |nil=>exact hI e|cons u bs=>
    haveI cG:=(dP e).1;haveI bT:=(dP e).2;rw [cG];clear cG I h0 hi ci it kl q he;clear q0;subst bT;have hu:u∈t.z:=D▸dT _ (.head _);haveI wB:ws.length<1000:=by
     have w:ds.length<=t.z.length:=by rw [D,b9];exact jZ _ _
     rw [C.c,ai];exact lV w<|lV (LY t)<|by decide
    refine dE (dj hw) ?_;haveI tw:u.v<=(t.z.map Ty.v).sum:=Wx<|bc.mpr ⟨u,hu,rfl⟩;haveI yH:n+t.v+8=(n+(t.v-1-u.v))+u.v+9:=by
     have a3:t.v-1+1=t.v:=by rw [hh];rfl
     have a2:t.v-1-u.v+u.v=t.v-1:=bY<|by rw [hh];exact tw
     exact bj (jt (.a (.a Y Z) iG) (.a (.a (.a Y aB) aI)<|.n 9) [.g (.a aB aI) bF,.g dq Z] U a2 a3)<|jt (.a (.a (.a Y aB) aI)<|.n 9) (.a (.a Y Z) iG) [.e (.a aB aI) bF,.e dq Z] U a2 a3
    haveI X:((u::bs).map Ty.v).sum=u.v+(bs.map Ty.v).sum:=by rw [g9,RT]
    haveI hgu:(u.e W).A=true:=by
     obtain⟨d,hd8,e⟩:=LW hg (u:=u.e W)<|by rw [LX t W hp];exact bc.mpr ⟨u,hu,rfl⟩
     exact(Bs e hd8).1
    haveI aIY:At K (cP K u) u:=⟨S.a.c t p.1 u hu,rfl⟩
    haveI hvu:=aIY.b N;rw [yH];refine ih u hu (n:=n+(t.v-1-u.v)) N.g hvu (ha.b N) (Wy hs hu) hgu Dp tu hl q9 (mY (.a Y Z) dz [.l (.a aB aI) dz,.l (.a (.a Y bF) au)<|.a aB aI,.g bF<|.a Z bO] U hn B X) ?_;intro H2 K2 w es2 N2 R he2 Ix P;haveI ne:H.length≠l:=(a9 tt)
    haveI o1:=N2.n _ _ hw (.inr<|aV cJ Z [.t bu Z] U ko)<|by intro m;exact ne<|bg.mp m
    refine eB o1 (ae wB) ?_;have up:=am.d (o:=.a<|ws++[w]) o1;revert up;generalize H2.set H.length _=H3;intro up;refine(kn _ _ λ_ k=>k bs (ds++[u]) (ws++[w]) K2 es2 (J<|cP K u) rfl (by rw [D,d6];rfl) ((N.f N2).s up (.inr<|aV cJ Z [.t bu Z] U ko)<|.inr<|aK _) (up.a _ _ R<|iX ne) he2 (ye (.a (.a Y Z) au) (.a aB aI) [.l (.a (.a bF bO) au)<|.a aB aI,.g bO<|.a cR Z,.l Y<|.a bF cR] U B X Ix) up.b ?_ ?_).1;·rw [cL];exact(C.b N2).l<|bB.d P
    rfl
theorem W_(t:Ty):FJ t:=by
 induction t with
 |r a h=>exact xH λu d=>by rcases bg.mp d with rfl;exact h
 |m c a h=>exact xH λu d=>by rcases bg.mp d with rfl;exact h
 |o c a b h e=>
  refine xH λu d=>?_;have d:u∈[a,b]:=d;rcases dA.mp d with rfl|d;·exact @h
  rcases bg.mp d with rfl;exact @e
 |l i=>exact xH λu d=>by exact bR d|j i=>exact xH λu d=>by exact bR d|u i=>exact xH λu d=>by exact bR d
theorem zB(S:KT H k K)(a:At K v t)(A:bB K B c)(C:t.w c.length=true)(D:(t.e c).A=true)(p:c.length<1000)(I:t.v<=1000)
  (q:∀d K' w,Nx k H K d K'->At K' w (t.e c)->Q w d):aa (n+t.v+10) 16 [.j k,v,V.m B,V.m []] H Q:=by
 refine gG (fn:=PJ) [J _,J _,J _,J _] rfl rfl rfl ?_;haveI P:K.idxOf t<1000000:=lW (AN.mpr a.1)<|sZ S.a;haveI R:=bw S.d;refine aL S.b ?_;haveI W:=a;rw [a.2];refine xA S a.1<|aL S.b<|du S.d (s5 a.1 _) P ?_;induction z:t.D with
 |false=>haveI:=q H K (cP K t) (NX.i S) ⟨(s8 z).symm▸a.1,by rw [s8 z]⟩;exact this|true=>refine bX λX x=>W_ t (n:=n) (l:=H.length) (es:=[]) (S.m x) ⟨a.1,rfl⟩ A C D p x.b (.inr<|aV cJ Z [.t bu Z] U R) (λi w e=>by exact aX e) (by refine(?_:0+t.v<=1000);exact(cA (.a bQ Y) dz [.l Y dz] U I)) ?_;intro d K' w wC N _ _ _ hw;refine q d K' w ?_ hw;haveI N':NX k [H.length] H K X K:=(NX.i S).q x;exact(N'.f N).y λl m=>by rw [bg.mp m];exact aK _
def XA(k:Nat)(H:Hp)(B:List Ty)(m:List V)(n p:List Ty)(c:V)(d:List V)(G:aS)(h:Hp):Prop:=∀a:Prop,(∀(bs e:List Ty)(l:List V)(K':List Ty)(x:Option V)(q:bB B d bs)(t:n=e++bs)(v:Nx k H B h K')(w:h[H.length]?=J (.a l))(z:bB K' l<|e.map<|Ty.e p)(A:G=[J<|.j k,J c,J<|V.m m,J<|V.m [],J<|.j H.length,x]),a)->a
theorem L0(S:KT H k K)(hx:bB K xs ts)(W:bB K vs B)(hs:∀t∈ts,t.w B.length=true/\(t.e B).A=true/\t.v<=20) (X:B.length<1000) (hl:ts.length<1000)
  (C:(∀(h:Hp)(K:List V->Option Nat->Prop),(∀l o,H[l]?=J o->(l<k\/k+6<=l)->h[l]?=J o)->(∀g,(∀h',(∀l o,H[l]?=J o->(l<k\/k+6<=l)->h'[l]?=J o)->fS h' g xs)->K xs g)->qE D h K))
  (q:∀H' K' p,Nx k H K H' K'->bB K' p (ts.map<|Ty.e B)->Q (V.m p) H'):aa (n+32) 20 [.j k,D,V.m vs,V.m []] H Q:=by
 refine ce (fn:=PN) rfl rfl ?_;intro rr;haveI ko:=bw S.d;refine bX λh0 u0=>?_;haveI N0:Nx k H K h0 K:=(NX.i S).q u0;refine C _ _ (λl o h c=>u0.a _ _ h) ?_;intro g hg;refine fp (XA k H K vs ts B D) ?_ ?_ ?_ ?_;·exact λ_ k=>k ts ([]) ([]) K aA hx rfl N0 u0.b bB.f rfl
 ·intro eC G h I;refine I _ λbs P p K' x _ _ N _ _ _=>?_;exact hg h λl o e c=>N.b e c
 ·intro G h I;refine I _ λbs P p K' x e z N R d A=>?_;apply cQ A;intro rr;obtain rfl:bs=[]:=by
   haveI:=e.c;clear z e;induction bs using bk with
   |nil=>rfl|cons _ _=>cases this
  rw [cI]at z;clear hs hx;subst z;refine CE R (by rw [d.c,ai];exact(ae hl))<|q h K' p N d
 intro v bo G h I;refine I _ λbs P p K' x e z N R d A=>?_;intro K1 kn _;apply cQ A;intro rr;induction bs using bk with
 |nil=>cases e.c|cons u bs=>
  have hv:At K v u/\bB K bo bs:=by refine on e λe m=>?_;haveI cG:=(dP e).1;haveI bT:=(dP e).2;rw [cG];rw [bT];exact⟨⟨m u<|.head _,rfl⟩,rfl,λa W=>m a<|.tail _ W⟩
  haveI wB:p.length<1000:=by
   rw [d.c,ai];have:ts.length=P.length+(bs.length+1):=by rw [z,b9];rfl
   exact(dg Y dz [.t Z dz,.g Z<|.a Y bN] U hl this)
  obtain⟨h1,h2,h3⟩:=hs u<|by rw [z];exact dT _<|.head _
  refine dE (dj R) ?_;haveI yH:n+31=(n+(21-u.v))+u.v+10:=(bj (bb (.p 0 31) (.a (.a (.a Y Z) aB) iF) [.g (.a Z aB) lq] U<|bY<|cA Y lq [.l Y js] U h3)<|bb (.a (.a (.a Y Z) aB) iF) (.p 0 31) [.e (.a Z aB) lq] U<|bY<|cA Y lq [.l Y js] U h3)
  rw [yH];refine zB N.g (hv.1.b N) (W.b N) h1 h2 X (cY h3) ?_;intro H2 K2 w N2 Dq;haveI o1:=N2.b R<|.inr<|aV cJ Z [.t bu Z] U ko;refine eB o1 (ae wB) ?_;haveI up:=am.d (o:=.a<|p++[w]) o1;revert up;generalize H2.set H.length _=H3;intro up;refine(kn _ _ λ_ k=>k bs (P++[u]) (p++[w]) K2 (J v) hv.2 (by rw [z,d6];rfl) ((N.f N2).s up (.inr<|aV cJ Z [.t bu Z] U ko)<|.inr<|aK _) up.b ?_ ?_).1;·rw [cL];exact(d.b N2).l<|bB.d Dq
  rfl
end
set_option backward.match.sparseCases true
set_option genInjectivity false
structure dh where
 d:Nat
 f:Nat
 e:Option Ty
 g:Nat
 c:List Ty
 a:List Nat
 b:List<|Nat×Ty×Nat
structure kR where
 d:Nat
 b:List Nat
 c:Nat
 a:Ty
structure az where
 g:List<|Option dh
 a:List<|Option kR
noncomputable def az.b(σ:az)(i:Nat):Option dh:=(σ.g[i]?).bind id
noncomputable def az.d(σ:az)(j:Nat):Option kR:=(σ.a[j]?).bind id
structure eW where
 s:Nat
 e:Nat
 k:Nat
 f:Nat
 d:Nat
 l:Nat
 a:Nat->Nat
 b:Nat->Nat
 c:Nat
noncomputable def aP(n:Nat):V:=.d n
def xI(a:List Ty)(v:V)(e:Nat×Ty×Nat):Prop:=∃w,v=V.m [aP e.1,w,aP e.2.2]/\At a w e.2.1
inductive jb{α β:Type}(R:α->β->Prop):List α->List β->Prop where
 |d:jb R [] []
 |c {a b as bs}:R a b->jb R as bs->jb R (a::as) (b::bs)
structure TD(H:Hp)(K:List Ty)(p i:Nat)(c:dh):Prop where
 b:X5 λnm bs iL cc fi=>A3 (H[p]?=J (.b 287 [(7,.d i),(8,nm),(9,.d c.d),(10,.d c.f),(11,bs),(12,.j<|p+1),(13,.j<|p+2),(14,.j<|p+3),(15,.j<|p+4),(16,.j<|p+5),(17,.j<|p+6),(18,iL),(19,cc),(20,.d<|-1),(21,.j<|p+7),(22,.j<|p+8),(23,.j<|p+9),(24,fi),(25,.d 0)])) (iL=.d 0) (match c.e with|none=>bs=.d (-1)|some t=>At K bs t)
 q:∃vs,H[p+1]?=J (.a vs)/\bB K vs c.c
 s:∃vs,H[p+2]?=J (.a vs)/\vs.length=c.g
 f:H[p+6]?=J (.a<|c.a.map aP)
 j:∃vs,H[p+7]?=J (.a vs)/\jb (xI K) vs c.b
structure MD(H:Hp)(K:List Ty)(p j:Nat)(m:kR):Prop where
 d:(V.k m.b).p=true
 f:m.c=2\/m.c=6\/m.c=14
 b:X3 λv pn pf=>A2 (H[p]?=J (.b 308 [(26,.d j),(27,.d m.d),(8,.k m.b),(28,.d 6),(10,.d m.c),(29,.d 0),(30,.j<|p+1),(31,.j<|p+2),(32,.d 0),(13,V.m [v]),(33,pn),(34,pf),(35,.o),(36,.d 0)]))<|At K v m.a
structure St(H:Hp)(k:Nat)(K:List Ty)(σ:az)(A:eW):Prop where
 b:H[A.s]?=J (.b 329 [(37,.j k),(38,.j A.e),(39,.j A.k),(17,.j A.f),(40,.j A.d),(41,.j A.l),(42,.d 0)])
 q:∃ts,H[A.e]?=J (.a ts)/\ts.length=σ.g.length/\∀i c,σ.b i=J c->ts[i]?=J (.j<|A.a i)
 s:∃ts,H[A.f]?=J (.a ts)/\ts.length=σ.a.length/\∀j m,σ.d j=J m->ts[j]?=J (.j<|A.b j)
 d:∀i c,σ.b i=J c->TD H K (A.a i) i c
 f:∀j m,σ.d j=J m->MD H K (A.b j) j m
 g:σ.g.length<1000/\σ.a.length<1000
 u:∃es,H[A.d]?=J (.e es)/\es.length<=σ.g.length
 r:A.s<k
 o:k+6<=A.e/\k+6<=A.f/\k+6<=A.d/\(∀i c,σ.b i=J c->k+6<=A.a i)/\∀j m,σ.d j=J m->k+6<=A.b j
 p:A.e<A.c/\A.f<A.c/\A.d<A.c/\(∀i c,σ.b i=J c->A.a i+9<A.c)/\(∀j m,σ.d j=J m->A.b j+2<A.c)/\A.c<=H.length/\k+6<=A.c
theorem jb.i(h:jb R a l):a.length=l.length:=by
 induction h with
 |d=>rfl|c _ _ m=>exact congrArg (· +1) m
theorem jb.e{R S:n->p->Prop}{l:List n}{m:List p}(h:jb R l m)(f:∀a b,R a b->S a b):jb S l m:=by
 induction h with
 |d=>exact .d|c a _ q=>exact .c (f _ _ a) q
theorem jb.j(h:jb R n p)(g:jb R l m):jb R (n++l) (p++m):=by
 induction h with
 |d=>exact g|c a _ q=>exact .c a q
section
theorem TD.u{p i:Nat}{c:dh}(T:TD H R p i c)(a:NX k X H R A K')(C:k+6<=p)(D:∀l∈X,p+9<l):TD A K' p i c:=by
 have g:∀d o,d<=9->H[p+d]?=J o->A[p+d]?=J o:=λd o hd e=>a.n _ _ e (.inr<|bb cJ (.a Z aB) [.l cJ Z] U C) λm=>by haveI:=D _ m;exact(nQ [_,_] [.l Y<|.n 9,.t (.p 1 9)<|.a Z Y] U hd this)
 refine⟨?_,?_,?_,g 6 _ (by decide) T.f,?_⟩
 ·refine sL T.b λnm bs z I P e Q x=>
   ⟨nm,bs,z,I,P,g 0 _ (by decide) e,Q,?_⟩
  induction B:c.e with
  |none=>rw [B]at x;exact x|some t=>rw [B]at x;exact At.b x a
 ·refine aG T.q λv e h=>bU v (g 1 _ (by decide) e)<|h.b a
 ·refine aG T.s λv e h=>bU v (g 2 _ (by decide) e) h
 refine aG T.j λv e h=>?_;exact bU v (g 7 _ (by decide) e)<|h.e λ_ _ ⟨w,e,h⟩=>⟨w,e,h.b a⟩
theorem MD.i(T:MD H z p j m)(a:NX k X H z n K')(q:k+6<=p)(t:∀l∈X,p<l):MD n K' p j m:=by refine cp T.b λv w x e h=>⟨T.d,T.f,v,w,x,a.n _ _ e (.inr q) λm=>vd _<|t _ m,h.b a⟩
theorem St.v(S:St H k K σ A)(a:NX k X H K P K')(t:∀l∈X,A.c<=l):St P k K' σ A:=by
 refine uT S.p λx z B C D Q I=>pB S.o λR W h3 h4 h5=>?_;have n:∀l,l<A.c->l∉X:=λl h m=>vd _<|kE h<|t l m;refine⟨?_,?_,?_,?_,?_,S.g,?_,S.r,S.o,x,z,B,C,D,dN Q a.j,I⟩;·exact a.n _ _ S.b (.inl S.r)<|n _<|kE S.r<|dN (jZ _ _) I
 ·refine aG S.q λw e h=>bU w (a.n _ _ e (.inr R)<|n _ x) h
 ·refine aG S.s λw e h=>bU w (a.n _ _ e (.inr W)<|n _ z) h
 ·exact λi c e=>(S.d i c e).u a (h4 i c e) λl m=>kE (C i c e)<|t l m
 ·exact λj m e=>(S.f j m e).i a (h5 j m e) λl m'=>kE (lV (jZ _ _)<|D j m e)<|t l m'
 refine aG S.u λes e h=>?_;exact bU es (a.n _ _ e (.inr h3)<|n _ B) h
end
structure Wo(k:Nat)(σ:az)(A:eW)(H:Hp)(K:List Ty):Prop where
 c:KT H k K
 b:St H k K σ A
theorem Wo.d(W:Wo k σ A H p)(a:NX k X H p e K')(m:∀l∈X,A.c<=l):Wo k σ A e K':=⟨a.g,W.b.v a m⟩
theorem Wo.n(W:Wo k σ A H l)(a:Nx k H l e K'):Wo k σ A e K':=W.d a λ_ m=>(c_ m).elim
def jQ(a:List Ty)(u:Ty):Prop:=u.w a.length=true/\(u.e a).A=true/\u.v<=20
structure eZ(σ:az)(t:Ty)(c:dh):Prop where
 a:σ.b t.s=J c
 b:t=.l 12\/∃x,t.F=J x
 d:∀u,c.e=J u->jQ t.p u
 f:∀u∈c.c,jQ t.p u
 g:∀e∈c.b,jQ t.p e.2.1
 h:c.c.length<1000
section
variable{σ:az}{t:Ty}
theorem XB(a:t=.l 12\/∃x,t.F=J x) (c:t.A=true):0<t.s:=by
 rcases a with rfl|⟨x,e⟩;·exact Nat.one_pos
 cases t<;>cases e;·exact kE (by decide)<|of_decide_eq_true (bi.mp (show(aJ (66<=_)&&aJ (_<80))=true from c)).1
 ·exact(vm.mp (bi.mp (show((_==64||_==65)&&_)=true from c)).1).elim (λh=>DS (by decide:0<64) (oT h).symm) λh=>DS (by decide:0<65) (oT h).symm
 exact kE (by decide)<|of_decide_eq_true (bi.mp (bi.mp (bi.mp (show(aJ (66<=_)&&aJ (_<80)&&_&&_)=true from c)).1).1).1
theorem qp(h:σ.b i=J c):i<σ.g.length:=by
 unfold az.b at h;refine aU (fV i σ.g.length) ?_ ?_;·intro q;exact q
 intro q;rw [ey q]at h;exact aX h
theorem lH(W:Wo k σ A H x)(h:At x v t)(o:eZ σ t c)(q:Q (.j<|A.a t.s) H):aa (n+3) 36 [.j A.s,v] H Q:=by refine ce (fn:=P5) rfl rfl ?_;intro rr;refine aL W.b.b<|Wq W.c h o.b ?_;haveI p:=XB o.b<|W.c.a.d t h.1;haveI l:=qp o.a;refine hJ W.b.q λm e a w=>dt (λe:((t.s:Nat):Int)<=0=>(nQ [_] [.t bQ Y,.l Y bQ] U p<|AI.mp e))<|aL W.b.b ?_;haveI d:=W.b.g.1;refine gR e rfl (ae<|yh a d) ?_;refine dt (λe:((t.s:Nat):Int)≥((m.length:Nat):Int)=>Ks (DS l a.symm) e)<|aL W.b.b<|du e (w _ _ o.a) (ae<|ae l d) q
theorem XC(S:KT H k a)(q:Q (.d<|-1) H)(s:V):aa (n+1) 38 [s,.d 12] H Q:=by refine ce (fn:=P7) rfl rfl ?_;intro rr;exact q
noncomputable def az.n(σ:az)(t:Ty):Option Ty:=((σ.b t.s).bind dh.e).map<|Ty.e t.p
noncomputable def az.f(σ:az)(t:Ty):List Ty:=(((σ.b t.s).map dh.c).getD []).map<|Ty.e t.p
theorem uo(t:Ty):t.p.length<1000:=by induction t<;>first|exact(by decide:0<1000)|exact(by decide:1<1000)|exact(by decide:2<1000)
theorem XD(S:KT H k c)(h:t∈c)(a:∀i,t≠.l i):16<=c.idxOf t:=by
 refine aU (fV (c.idxOf t) 16) ?_ ?_;·intro q;exfalso;exact a _ (FA (LK S.a q)<|xB S.a q).symm
 intro q;exact q
theorem L5(W:Wo k σ A H K)(h:At K v t)(o:eZ σ t c)(l:t=.l 12\/(c.d=1/\c.e.isSome=true))
  (q:(t=.l 12->Q (.d<|-1) H)/\∀u d K' w,t≠.l 12->c.e=J u->Nx k H K d K'->At K' w (u.e t.p)->Q w d):aa (n+32) 37 [.j A.s,v] H Q:=by
 refine gG (fn:=P6) [J _,J _,aA,aA,aA] rfl rfl rfl ?_;refine aL W.b.b ?_;haveI hv:=h;rw [h.2];rcases o.b with rfl|⟨x,e⟩
 ·have e:K.idxOf (.l 12)=12:=xB W.c.a<|by decide
  refine jC (show((K.idxOf (.l 12):Nat):Int)<16 by rw [e];decide) ?_;have m:cP K (.l 12)=.d 12:=by unfold cP;rw [e];rfl
  rw [m];exact XC W.c (q.1 rfl) _
 have p:∀i,t≠.l i:=λi m=>by clear hv;subst m;exact aX e
 haveI ix:=XD W.c h.1 p;refine dt (λe:((K.idxOf t:Nat):Int)<16=>(nQ [_] [.l (.n 16) Y,.t Y<|.n 16] U ix<|fT.mp e))<|FI W.c ⟨h.1,rfl⟩ ?_;haveI hs:t.B=2:=by cases t<;>cases e<;>rfl
 rw [hs];refine lH W ⟨h.1,rfl⟩ o<|sL ((W.b.d _ _ o.a).b) λnm bs iL cc fi z _ a=>aU l ?_ ?_;·intro l;exact absurd l<|p 12
 refine λqz=>on qz λB C=>oE (pc.mp C) λu D=>?_;rw [D]at a;have a:At K bs u:=a;refine aL z ?_;haveI X:=a;refine oE a.i λi hi=>?_;rw [hi];refine aL z ?_;rw [B];refine aL z<|xF W.c ⟨h.1,rfl⟩ λvs I=>fk (o.d u D) λc1 c2 P=>?_;haveI R:n+31=(n+(21-u.v))+u.v+10:=(bj (bb (.p 0 31) (.a (.a (.a Y Z) aB) iF) [.g (.a Z aB) lq] U<|bY<|cA Y lq [.l Y js] U P)<|bb (.a (.a (.a Y Z) aB) iF) (.p 0 31) [.e (.a Z aB) lq] U<|bY<|cA Y lq [.l Y js] U P)
 rw [R];exact zB W.c a I c1 c2 (uo t) (cY P) λd K' w N hw=>q.2 u d K' w (p 12) D N hw
end
set_option genInjectivity true
section
variable{H:Hp}
theorem XE(e:H[l]?=J (.a d))(c:l<k\/k+6<=l):∀(h:Hp)(n:List V->Option Nat->Prop),(∀l o,H[l]?=J o->(l<k\/k+6<=l)->h[l]?=J o)->(∀g,(∀a,(∀l o,H[l]?=J o->(l<k\/k+6<=l)->a[l]?=J o)->fS a g d)->n d g)->qE (.j l) h n:=
 λh n f q=>fq (f _ _ e c)<|q (J l) λa m=>.inl<|m _ _ e c
theorem XF:∀(h:Hp)(d:List V->Option Nat->Prop),(∀l o,H[l]?=J o->(l<k\/k+6<=l)->h[l]?=J o)->(∀g,(∀a,(∀l o,H[l]?=J o->(l<k\/k+6<=l)->a[l]?=J o)->fS a g c)->d c g)->qE (V.m c) h d:=
 λh d f q=>zH<|q aA λ_ _=>trivial
theorem L9(W:Wo k p A H K)(h:At K v t)(o:eZ p t c)(q:∀a K' d,Nx k H K a K'->bB K' d (p.f t)->Q (V.m d) a):aa (n+33) 39 [.j A.s,v] H Q:=by
 refine ce (fn:=P9) rfl rfl ?_;intro rr;refine aL W.b.b<|FI W.c h ?_;haveI w:¬((t.B:Nat):Int)=8:=sV<|j0<|lV (Bp t) (by decide:6<8);haveI l:¬((t.B:Nat):Int)=4:=λe=>by
  clear w q h;rcases o.b with rfl|⟨x,z⟩
  ·cases e
  cases t<;>cases z<;>cases e
 refine dt w<|dt l<|lH W h o ?_;obtain⟨nm,bs,B,R,X,C,-⟩:=(W.b.d _ _ o.a).b;refine aG ((W.b.d _ _ o.a).q) λvs e D=>?_;haveI I:=W.b.o.2.2.2.1 _ _ o.a;refine aL C<|xF W.c h λas m=>L0 W.c D m o.f (uo t) o.h (XE e<|.inr<|dF _ I) ?_;intro a K' d N P;refine q a K' d N ?_;unfold az.f;rw [o.a];exact P
theorem lI(W:Wo k a A H n)(hm:a.d j=J m)(q:K'<|.j<|A.b j):mj (.j A.f) (.d<|ip j) H K':=by
 refine hJ W.b.s λd e c l=>?_;haveI:=W.b.g.2;have:j<d.length:=by
  rw [c];unfold az.d at hm;refine aU (fV j a.a.length) ?_ ?_;·intro q;exact q
  intro q;rw [ey q]at hm;exact aX hm
 exact du e (l _ _ hm) (lW (DS this c)<|lW W.b.g.2<|by decide) q
theorem At.e(S:KT H k a):At a (.d 0) (.l 0):=At.d S.a (i:=0)<|by decide
theorem La(W:Wo k R A H K)(h:At K v t)(hm:R.d j=J m)(X:0<j)(hc:jQ t.p m.a)(q:∀C K' w,Nx k H K C K'->At K' w (m.a.e t.p)->Q (V.m [.d 0,V.m [w]]) C):
  aa (n+33) 40 [.j A.s,V.m [v,.d j,V.m []]] H Q:=by
 refine ce (fn:=Pa) rfl rfl ?_;intro rr;refine bS rfl ?_;refine dt (show ¬(j:Int)=0 from(mt hZ.mp<|a9<|bA bQ Y [.t bQ Y] U X))<|aL W.b.b<|bS rfl ?_;refine lI W hm<|cp ((W.b.f _ _ hm).b) λw pn pf D hw=>aL W.b.b<|bS rfl ?_;refine xF W.c h λas c=>aL W.b.b<|aL D<|bS rfl ?_;refine zB (n:=n+22) (t:=.l 0) W.c (At.e W.c) c rfl rfl (uo t) (by decide) ?_;intro H1 K1 z a hz;haveI l:z=.d 0:=(hz.c<|(At.e W.c).b a).mpr rfl;rw [l];haveI I:=W.n a;haveI p:=a.b D<|.inr<|W.b.o.2.2.2.2 _ _ hm;refine aL I.b.b<|aL p<|bS rfl ?_;refine L0 (ts:=[m.a]) I.c (bB.d<|hw.b a) (c.b a) (λu hu=>by rcases bg.mp hu with rfl;exact hc) (uo t) (show 1<1000 by decide) XF ?_;intro H2 P ws N2 d;have:∃x,ws=[x]/\At P x (m.a.e t.p):=by haveI e:=d.1;haveI mm:=d.2;exact⟨_,e,mm _<|.head _,rfl⟩
 refine aG this λx B hx=>?_;rw [B];exact q H2 P x (a.f N2) hx
noncomputable def ng(a:Bool)(x:kR)(t:Ty)(y:kR)(s:Ty):Bool:=(!a||aJ (x.b=y.b))&&aJ (x.a.e t.p=y.a.e s.p)
theorem XG(i j:Int):eK bW H .c (V.m [.d 0,V.m [.d i]]) (V.m [.d 0,V.m [.d j]])=J (aJ<|i=j):=by refine(?_:J (aJ<|V.m [.d 0,V.m [.d i]]=V.m [.d 0,V.m [.d j]])=_);exact congrArg J<|decide_eq_decide.mpr ⟨λh=>V.d.inj (V.r.inj (V.r.inj (V.r.inj h).2).1).1,λe=>by rw [e]⟩
theorem XH(c:(V.k a).p=true)(d:(V.k b).p=true):eK bW H .d (.k a) (.k b)=J (!aJ (a=b)):=by
 refine(?_:(oK H (.k a)<|.k b).map (!·)=_);have:oK H (.k a) (.k b)=J (aJ<|V.k a=V.k b):=by refine(?_:(if(V.k a).p&&(V.k b).p then _ else _)=_);rw [c,d];rfl
 rw [this];refine(?_:J (!aJ (V.k a=V.k b))=_);have:aJ (V.k a=V.k b)=aJ (a=b):=by
  by_cases e:a=b;·rw [e];rw [decide_eq_true rfl,decide_eq_true rfl]
  rw [decide_eq_false e,decide_eq_false λh=>e<|V.k.inj h]
 rw [this]
theorem FK(W:Wo k X A H K)(h:At K v t)(h':At K u s)(C:X.d j=J x)(D:X.d i=J y)(hj:0<j)(hi:0<i)(hc:jQ t.p x.a)(I:jQ s.p y.a)
  (q:∀H' K',Nx k H K H' K'->Q (.n<|ng m x t y s) H'):aa (n+34) 58 [.j A.s,v,.d j,u,.d i,.n m] H Q:=by
 refine ce (fn:=QR) rfl rfl ?_;intro rr;refine aL W.b.b<|lI W C<|aL W.b.b<|lI W D<|cp ((W.b.f _ _ C).b) λw pn pf P hw=>cp ((W.b.f _ _ D).b) λw' pn' pf' d Iy=>?_;haveI bo:(!m||aJ (x.b=y.b))=true->dC (aa<|n+33) (Ps.a 3) [J<|.j A.s,J v,J<|.d j,J u,J<|.d i,J<|.n m,J<|.j<|A.b j,J<|.j<|A.b i] H (gX Q):=by
  intro hn;refine aL P<|aL d<|aL P<|qG (vs:=[w]) (show 1<1000000 by decide)<|aL d<|qG (vs:=[w']) (show 1<1000000 by decide)<|La W h C hj hc ?_;intro H1 K1 w1 R p;refine La (W.n R) (h'.b R) D hi I ?_;intro H2 K2 w2 N2 B;refine oE p.i λa l=>?_;subst l;refine oE B.i λb l=>?_;subst l;refine bK (XG _ _) ?_;have e:aJ ((a:Int)=b)=ng m x t y s:=by
   unfold ng;rw [hn,Hy];haveI:=(p.b N2).c B;rw [V.d.injEq]at this;by_cases c:(a:Int)=b;·rw [decide_eq_true c,decide_eq_true<|this.mp c]
   rw [decide_eq_false c,decide_eq_false λz=>c<|this.mpr z]
  rw [e];exact q H2 K2<|R.f N2
 induction m with
 |false=>exact bo rfl|true=>
  refine aL P<|aL d<|bK (XH (W.b.f _ _ C).d (W.b.f _ _ D).d) ?_;by_cases e:x.b=y.b;·refine hM (by rw [decide_eq_true e];rfl)<|bo (by rw [decide_eq_true e];rfl)
  refine iO (by rw [decide_eq_false e];rfl) ?_;have:ng true x t y s=false:=by unfold ng;rw [decide_eq_false e];rfl
  haveI r:=q H K<|NX.i W.c;rw [this]at r;exact r
theorem XI(W:Wo k c A H t)(hm:c.d j=J m)(q:Q (.n true) H):aa (n+1) 56 [.j A.s,.d j] H Q:=by refine ce (fn:=Pq) rfl rfl ?_;intro rr;refine aL W.b.b<|lI W hm<|cp ((W.b.f _ _ hm).b) λw d l a p=>?_;rcases(W.b.f _ _ hm).f with e|e|e<;>(rw [e]at a;refine aL a ?_;refine aL a ?_;refine aL a ?_;exact q)
theorem XJ(W:Wo k c A H v)(hm:c.d j=J m)(d:m.c=2\/m.c=6)(q:Q (.n true) H):aa (n+1) 54 [.j A.s,.d j] H Q:=by refine ce (fn:=Po) rfl rfl ?_;intro rr;refine aL W.b.b<|lI W hm<|cp ((W.b.f _ _ hm).b) λw l p a t=>?_;rcases d with e|e<;>(rw [e]at a;refine aL a ?_;exact q)
theorem Ld(W:Wo k e A H I)(c:e.d j=J x)(l:e.d i=J y)(q:Q (.n true) H):aa (n+1) 57 [.j A.s,a,.d j,b,.d i] H Q:=by
 refine ce (fn:=Pr) rfl rfl ?_;intro rr;refine cp ((W.b.f _ _ c).b) λw z B m C=>cp ((W.b.f _ _ l).b) λD p t d v=>aL W.b.b<|lI W c<|aL m<|aL W.b.b<|lI W l<|aL d<|aL W.b.b<|lI W c<|aL m<|⟨0,rfl,by decide,?_⟩
 exact⟨trivial,q⟩
theorem XK(W:Wo k d A H K)(C:d.d j=J x)(D:d.d i=J y)(l:d.b x.d=J cx)(m:d.b y.d=J cy)(q:Q (.n false) H):aa (n+1) 59 [.j A.s,.j<|A.b j,.j<|A.b i] H Q:=by refine ce (fn:=Pt) rfl rfl ?_;intro rr;refine cp ((W.b.f _ _ C).b) λw pn pf t hw=>cp ((W.b.f _ _ D).b) λw' I P c R=>sL ((W.b.d _ _ l).b) λnm bs X cc fi hc a _=>?_;subst a;refine sL ((W.b.d _ _ m).b) λTF bs' v cc' fi' p a _=>?_;subst a;refine hJ W.b.q λts e e1 z=>?_;haveI B:=W.b.g.1;haveI l1:=qp l;haveI l2:=qp m;refine bK (x:=DK.i) rfl ?_;refine aL c<|dE rfl (bK (x:=V.d 15) rfl ?_);refine aL W.b.b<|aL t<|du e (z _ _ l) (ae<|ae l1 B)<|aL hc<|aL W.b.b<|aL c<|du e (z _ _ m) (ae<|ae l2 B)<|aL p<|bK (x:=DK.i) rfl ?_;refine aL t<|dE rfl (bK (x:=V.d 15) rfl ?_);exact q
end
noncomputable def FL(a:az):List Ty->Prop|[]=>False|[t]=>t=.l 12|t::u::r=>t≠.l 12/\a.n t=J u/\FL a (u::r)
structure jc(σ:az)(ts:List Ty):Prop where
 a:FL σ ts
 e:ts.Nodup
 d:∀t∈ts,∃c,eZ σ t c/\(t=.l 12\/(c.d=1/\c.e.isSome=true))
 b:ts.length<=10
theorem jc.f(h:jc c<|t::u::l):jc c (u::l):=
 ⟨h.a.2.2,(gN.mp h.e).2,λx m=>h.d x<|.tail _ m,dN (vo _) h.b⟩
section
theorem XM(W:Wo k p A H K)(a:p.b i=J c)(d:c.d=1\/c.d=3)(h:bB K x z)(B:t.F=J (i,z))(C:t.A=true)(q:∀m K' v,Nx k H K m K'->At K' v t->Q v m):
  aa (n+8) 35 [.j A.s,.d i,V.m x] H Q:=by
 refine ce (fn:=P3) rfl rfl ?_;intro rr;refine hJ W.b.q λts e e1 D=>?_;haveI I:=W.b.g.1;haveI l:=qp a;obtain⟨nm,bs,P,cc,fi,R,-⟩:=(W.b.d _ _ a).b;refine aL W.b.b<|du e (D _ _ a) (ae<|ae l I)<|aL R ?_;haveI X:¬((c.d:Nat):Int)=2:=sV λe=>d.elim (λw=>absurd (w.symm.trans e)<|by decide) λw=>absurd (w.symm.trans e)<|by decide
 haveI n5:¬((c.d:Nat):Int)=5:=sV λe=>d.elim (λw=>absurd (w.symm.trans e)<|by decide) λw=>absurd (w.symm.trans e)<|by decide
 refine dt X<|dt n5<|aL W.b.b<|xD W.c h B C q
theorem XN(W:Wo k σ A H K)(a:σ.b i=J c)(hs:c.d=1)(d:66<=i/\i<80)(C:c.g=2)(q:∀D K' v,Nx k H K D K'->At K' v (.o i (.j 0)<|.j 1)->Q v D):
  aa (n+9) 34 [.j A.s,.d i] H Q:=by
 refine ce (fn:=P1) rfl rfl ?_;intro rr;refine hJ W.b.q λts e e1 e2=>?_;haveI sm:=W.b.g.1;haveI l:=qp a;obtain⟨nm,bs,iL,cc,fi,ho,-⟩:=(W.b.d _ _ a).b;refine aG ((W.b.d _ _ a).s) λps z m=>?_;have p:=bw W.c.d;refine bK (FE (VG (by decide) d.1) d.2)<|aL W.b.b<|du e (e2 _ _ a) (ae d.2)<|bX λh0 I=>?_;have w:Nx k H K h0 K:=(NX.i W.c).q I;haveI P:=I.b;refine aL (w.b ho<|.inr<|W.b.o.2.2.2.1 _ _ a)<|gR (w.b z<|.inr<|dN (W.b.o.2.2.2.1 _ _ a)<|jZ _ _) rfl (cN<|VB m C) ?_;rw [m,C];refine⟨2,rfl,by decide,?_⟩;haveI R:=W.n w;refine⟨trivial,?_⟩;refine dE (dj P)<|aL R.b.b<|xE (i:=0) R.c (by decide) ?_;intro h1 K1 X N1 a1;haveI o1:=N1.b P<|.inr<|aV cJ Z [.t bu Z] U p;refine eB o1 (by refine(?_:0<1000000);decide) ?_;have u:=am.d (o:=.a<|[]++[X]) o1;revert u;generalize h1.set H.length _=h2;intro u;have N2:Nx k H K h2 K1:=(w.f N1).s u (.inr<|aV cJ Z [.t bu Z] U p)<|.inr<|aK _;haveI W2:=W.n N2;refine⟨trivial,?_⟩;refine dE (dj u.b)<|aL W2.b.b<|xE (i:=1) W2.c (by decide) ?_;intro h3 K3 v3 B a3;haveI o3:=B.b u.b<|.inr<|aV cJ Z [.t bu Z] U p;refine eB o3 (by refine(?_:1<1000000);decide) ?_;have x:=am.d (o:=.a<|[]++[X]++[v3]) o3;revert x;generalize h3.set H.length _=h4;intro x;have N4:Nx k H K h4 K3:=(N2.f B).s x (.inr<|aV cJ Z [.t bu Z] U p)<|.inr<|aK _;refine⟨trivial,?_⟩;refine CE x.b (by refine(?_:2<1000000);decide) ?_;refine XM (t:=.o i (.j 0)<|.j 1) (W.n N4) a (.inl hs) (bB.n (a1.b B)<|bB.d a3) rfl ?_ ?_;·refine(?_:(aJ (66<=i)&&aJ (i<80)&&true&&true)=true);rw [decide_eq_true d.1,decide_eq_true d.2];rfl
 intro H5 K5 v5 N5 a5;exact q H5 K5 v5 (N4.f N5) a5
theorem Le(o:eZ a t c)(h:a.n t=J u):∃b,c.e=J b/\b.e t.p=u:=by unfold az.n at h;rw [o.a]at h;haveI h:(c.e).map (Ty.e t.p)=J u:=h;exact kF.mp h
theorem FM(e:H[l]?=J (.d es)):eK bW H .b (.d i) (.j l)=J (d9 es i).isSome:=f0 (f:=mG<|.d i) e
def iP(c:List Ty)(es:List<|Int×V)(a:List Ty):Prop:=es.length<=a.length/\(∀i w,d9 es i=J w->∃d∈a,At c (.d i) d)/\∀d∈a,∀i,At c (.d i) d->(d9 es i).isSome=true
theorem iP.b(h:iP z es n)(hd:∀d∈n,d∈z) (a:NX k X H z x K'):iP K' es n:=by
 refine⟨h.1,λi w e=>let ⟨d,p,q⟩:=h.2.1 i w e;⟨d,p,q.b a⟩,λd m i e=>?_⟩;haveI t:At z (cP z d) d:=⟨hd d m,rfl⟩
 haveI v:=(e.c<|t.b a).mpr rfl;exact h.2.2 d m i ⟨hd d m,v⟩
theorem iP.f(h:iP x es n)(a:At x (.d i) t):iP x (fR es i w) (n++[t]):=by
 refine⟨dN LZ<|by rw [b9];exact iW h.1,λj z e=>?_,λd m j e=>?_⟩
 ·rw [Bu]at e;split at e;·rename_i q;subst q;exact bU t (dT _<|.head _) a
  refine aG (h.2.1 j z e) λd p v=>bU d (dI _ p) v
 rw [Bu];by_cases q:(i:Int)=j;·rw [if_pos q];rfl
 rw [if_neg q];refine aU (eO.mp m) ?_ ?_;·intro m;exact h.2.2 d m j e
 intro m;obtain rfl:=bg.mp m;exact absurd (V.d.inj<|a.2.trans e.2.symm) q
theorem iP.c:iP a [] []:=⟨aK _,(λi w e=>by exact aX e),(λd m=>by exact bR m)⟩
theorem iP.g(h:iP v es a)(n:At v (.d i) t)(m:t∉a):(d9 es i).isSome=false:=by
 induction e:d9 es i with
 |none=>rfl|some w=>refine aG (h.2.1 i w e) λd p q=>absurd ((n.c q).mp rfl▸p) m
def XO(k:Nat)(H:Hp)(R:List Ty)(n:az)(A:eW)(t:Ty)(p:List Ty)(e:Hp)(m:Nat)(G:aS)(h:Hp):Prop:=∀c:Prop,(∀(d a:List Ty)(l:List V)(K':List Ty)(es:List<|Int×V)(x:V)(q:p=d++a)(v:m=a.length)(w:Nx k H R h K')(z:h[H.length]?=J (.a l))(B:bB K' l d)(C:h[e.length]?=J (.d es))(D:iP K' es d)(I:a=[]->x=.d (-1))(P:∀t r,a=t::r->At K' x t/\jc n a) (Q:G=[J<|.j A.s,J x,J<|.j H.length,J<|.j e.length]),c)->c
theorem XQ(W:Wo k σ A H K)(h:At K v t)(w:jc σ R)(X:R.head?=J t)(q:∀H' K' l D,Nx k H K H' K'->H'[l]?=J (.a D)->H.length<=l->bB K' D R.reverse->Q (.j l) H'):
  aa (n+33) 47 [.j A.s,v] H Q:=by
 refine ce (fn:=Ph) rfl rfl ?_;intro rr;have ko:=bw W.c.d;refine bX λh0 u0=>?_;haveI N0:Nx k H K h0 K:=(NX.i W.c).q u0;have l0:=bw u0.b;refine bX λh1 u1=>?_;haveI N1:Nx k H K h1 K:=N0.q u1;haveI o1:=u1.a _ _ u0.b;haveI d1:=u1.b;haveI z:∃m:Nat,m=R.length:=⟨_,rfl⟩
 refine oE z λm hm=>?_;refine zJ (XO k H K σ A t R h0) (m:=m)
  (λ_ k=>k ([]) R ([]) K ([]) v rfl hm N1 o1 bB.f d1 iP.c (λe=>by clear hm z;clear q;subst e;exact aX X) (λt' r e=>⟨(by clear hm z;clear q;subst e;(replace X:=ao X;subst X);exact h.b N1),w⟩) rfl) ?_
 intro m G h q0;refine q0 _ λds eC D K' es x B e2 N hw d hd hk Ds A0 C=>?_;rw [C];intro K1 kn _;have dl:ds.length<=10:=by haveI:=w.b;rw [B,b9]at this;exact(aV Y iF [.l (.a Y Z) iF] U this)
 induction eC using bk with
 |nil=>rw [Ds rfl];rw [cI]at B;clear hm z X;clear kn hk w;clear q0;subst B;refine zI hw (by rw [d.c];exact(cN dl))<|bX λh' u'=>q _ K' _ _ (N.q u') u'.b N.j ⟨by rw [d.1,RU],λa ha=>d.2 a<|xx.mp ha⟩|cons t r=>
  refine on (A0 t r rfl) λhx I=>oE hx.i λi bT=>?_;clear A0 Ds;clear C;subst bT;haveI tn:t∉ds:=λm=>(iu.mp<|B▸w.e).2.2 t m t (.head _) rfl;refine bK (FM hd)<|hM (hk.g hx tn) ?_;haveI el:es.length<1000000:=by haveI:=hk.1;exact(cN<|aH this dl)
  refine jS hd (if_pos el) ?_;have u:=am.d (o:=.d<|fR es i<|.d 1) hd;revert u;generalize h.set h0.length _=h2;intro u;haveI ne:H.length≠h0.length:=j0 l0;haveI w2:=u.a _ _ hw ne;refine dE (dj w2)<|eB w2 (by rw [d.c];exact(cN dl)) ?_;have P:=am.d (o:=.a<|D++[.d i]) w2;revert P;generalize h2.set H.length _=h3;intro P;have N3:Nx k H K h3 K':=(N.s u (.inr<|bb cJ Z [.t bu aB,.t aB Z] U ko l0)<|.inr<|jB l0).s P (.inr<|aV cJ Z [.t bu Z] U ko)<|.inr<|aK _;haveI d3:=P.a _ _ u.b<|iX ne;have p:=d.l<|bB.d hx;haveI oZ:=hk.f (w:=.d 1) hx;refine aG (I.d t<|.head _) λc ok hb=>L5 (W.n N3) hx ok hb ⟨?_,?_⟩
  ·rintro rfl;haveI hr:r=[]:=by
    clear e2 B;induction r using bk with
    |nil=>rfl|cons _ _=>exact absurd rfl I.a.1
   clear I;subst hr;exact(kn 0 _ _ e2 λ_ k=>k (ds++[.l 12]) ([]) (D++[.d i]) K' (fR es i<|.d 1) (.d<|-1) (by rw [B,cI]) rfl N3 P.b p d3 oZ (λ_=>rfl) (λ_ _ e=>by exact iN e) rfl).1
  intro u' H4 K4 w4 nt hu N4 a4;induction r using bk with
  |nil=>exact absurd I.a nt|cons s r=>
   refine aG (Le ok I.a.2.1) λb wE Dt=>?_;rw [wE]at hu;(replace hu:=ao hu;clear wE;subst hu);rw [Dt]at a4;haveI o4:=N4.b P.b<|.inr<|aV cJ Z [.t bu Z] U ko;haveI d4:=N4.b d3<|.inr<|bb cJ Z [.t bu aB,.t aB Z] U ko l0;refine(kn _ _ _ e2 λ_ k=>k (ds++[t]) (s::r) (D++[.d i]) K4 (fR es i<|.d 1) w4 (by rw [B,d6];rfl) rfl (N3.f N4) o4 (p.b N4) d4 (oZ.b p.2 N4) (λe=>(nomatch e)) (λt' r' e=>?_) rfl).1
   (injection e with e;clear Dt e2 B;subst e)
   exact⟨a4,I.f⟩
def XR(k:Nat)(H:Hp)(D:List Ty)(A:eW)(v:V)(m c:List Ty)(l1:Nat)(n d:List V)(G:aS)(h:Hp):Prop:=∀a:Prop,(∀(e bs:List Ty)(l:List V)(x:Option V)(p:m.reverse=e++bs)(q:bB c d bs)(t:Nx k H D h c)(w:h[H.length]?=J (.a l))(z:h[l1]?=J (.a n))(B:bB c l e)(C:G=[J<|.j A.s,J v,J<|.j H.length,x]),a)->a
theorem FN(W:Wo k σ A H K)(h:At K v t)(B:jc σ I)(hh:I.head?=J t)(q:∀H' K' l p,Nx k H K H' K'->H'[l]?=J (.a p)->H.length<=l->bB K' p I.reverse->Q (.j l) H'):
  aa (n+34) 49 [.j A.s,v] H Q:=by
 refine ce (fn:=Pj) rfl rfl ?_;intro rr;have ko:=bw W.c.d;refine bX λh0 u0=>?_;have N0:Nx k H K h0 K:=(NX.i W.c).q u0;haveI l0:=bw u0.b;refine XQ (W.n N0) (h.b N0) B hh ?_;intro h1 K1 l1 xs N1 P ll1 hxs;haveI N01:=N0.f N1;haveI ne:H.length≠l1:=by haveI:=u0.c;exact(aj<|bz l0 ll1)
 refine fq P<|fp (XR k H K A v I K1 l1 xs) ?_ ?_ ?_ ?_;·exact λ_ k=>k ([]) I.reverse ([]) aA rfl hxs N01 (N1.b u0.b<|.inr<|aV cJ Z [.t bu Z] U ko) P bB.f rfl
 ·intro eC G h R;refine R _ λds bs p x _ _ _ _ e _ _=>?_;exact .inl e
 ·intro G h R;refine R _ λds bs p x z C N X _ d D=>?_;apply cQ D;intro rr;obtain rfl:bs=[]:=by
   haveI:=C.c;clear C z;induction bs using bk with
   |nil=>rfl|cons _ _=>cases this
  rw [cI]at z;exact q h K1 _ p N X (aK _)<|z▸d
 intro w bo G h R;refine R _ λds bs p x z C N X hl d D=>?_;intro K2 kn _;apply cQ D;intro rr;induction bs using bk with
 |nil=>cases C.c|cons u bs=>
  have hv:At K1 w u/\bB K1 bo bs:=by haveI e:=C.1;haveI m:=C.2;haveI cG:=(dP e).1;haveI bT:=(dP e).2;rw [cG];rw [bT];exact⟨⟨m u<|.head _,rfl⟩,rfl,λa ha=>m a<|.tail _ ha⟩
  have mu:u∈I:=xx.mp<|by rw [z];exact dT _<|.head _
  refine aG (B.d u mu) λc ok Iw=>?_;haveI Wn:=W.n N;refine aL Wn.b.b<|FI Wn.c hv.1 ?_;haveI hs4:¬((u.B:Nat):Int)=4:=λe=>by
   clear Iw mu hv C z;rcases ok.b with rfl|⟨x,e'⟩
   ·cases e
   cases u<;>cases e'<;>cases e
  refine iO (by rw [decide_eq_false hs4];rfl)<|lH Wn hv.1 ok ?_;haveI dl:ds.length<=10:=by haveI:=B.b;haveI e2:=congrArg gB z;rw [h_,b9]at e2;exact(bb Y iF [.l Z iF,.g Z<|.a Y aB] U this e2)
  refine dE (dj X)<|eB X (by rw [d.c];exact(cN dl)) ?_;have up:=am.d (o:=.a<|p++[w]) X;revert up;generalize h.set H.length _=h3;intro up;exact(kn _ _ λ_ k=>k (ds++[u]) bs (p++[w]) (J w) (by rw [z,d6];rfl) hv.2 (N.s up (.inr<|aV cJ Z [.t bu Z] U ko)<|.inr<|aK _) up.b (up.a _ _ hl<|iX ne) (d.l<|bB.d hv.1) rfl).1
theorem Lg(W:Wo k σ A H K)(R:H[l]?=J (.a ws))(hl:l<k\/k+6<=l)(w:bB K ws D)(d:D.length<1000)(X:D[p]?=J t)
  (o:eZ σ t c) (hc:c.d=1/\(t.p=[]\/(66<=t.s/\t.s<80/\c.g=2)))
  (z:t.p=[]\/(jc σ ts/\ts.head?=J (.o t.s (.j 0)<|.j 1)))
  (q:∀H' K' l' I,Nx k H K H' K'->H'[l']?=J (.a I)->H.length<=l'->bB K' I (if t.p=[]then D.take (p+1)else ts.reverse)->Q (.j l') H'):
  aa (n+35) 50 [.j A.s,.j l,.d p] H Q:=by
 refine ce (fn:=Pk) rfl rfl ?_;intro rr;have B:p<D.length:=by
  refine aU (fV p D.length) ?_ ?_;·intro h;exact h
  intro h;rw [ey h]at X;exact aX X
 refine aG (w.j X) λv e1 e2=>aL W.b.b<|du R e1 (ae<|ae B d)<|xF W.c e2 λas x=>qG (by haveI:=uo t;rw [x.c];exact(ae this)) ?_;by_cases C:t.p=[];·rw [if_pos C]at q;rw [C]at x;haveI cG:=x.1;rw [cG];refine MS R (by rw [w.c];exact(ae d))<|qB (p+1) rfl (be aR eX [.t Z dz,.t Y Z] U d B) (bX λh0 u0=>?_);exact q h0 K _ _ ((NX.i W.c).q u0) u0.b (aK _) ⟨by rw [w.1,aG7],λa m=>w.2 a<|RV m⟩
 rw [if_neg C]at q;haveI Dp:¬((as.length:Nat):Int)=0:=λe=>by haveI:=x.c;exact C<|vq.mp<|bj (aV Y bQ [.e Z bQ,.g Z Y] U (hZ.mp e) this)<|cA bQ Y [] U
 refine dt Dp<|du R e1 (ae<|ae B d)<|lH W e2 o ?_;obtain⟨nm,bs,iL,cc,fi,ho,-⟩:=(W.b.d _ _ o.a).b;refine aL ho ?_;rcases hc.2 with h|⟨h1,h2,h3⟩;·exact absurd h C
 rcases z with h|⟨z,hh⟩;·exact absurd h C
 refine XN (n:=n+25) W o.a hc.1 ⟨h1,h2⟩ h3 ?_;intro H1 K1 v1 N1 a1;refine FN (W.n N1) a1 z hh ?_;intro H2 K2 l2 ws2 N2 qc ll2 P;exact q H2 K2 l2 ws2 (N1.f N2) qc (dN N1.j ll2) P
end
set_option backward.match.sparseCases false
set_option genInjectivity false
noncomputable def dG(f:List Ty)(t:Ty):List Ty:=if t∈f then f else f++[t]
noncomputable def cB(f a:List Ty):List Ty:=a.foldl dG f
noncomputable def cq:Ty->List Ty|.m c a=>if c=65 then [.m 65 a,.m 64 a]else [.m c a]|t=>[t]
theorem Li(c:Nat)(a:Ty):cq (.m c a)=[.m 65 a,.m 64 a]\/cq (.m c a)=[.m c a]:=by
 by_cases h:c=65;·exact .inl<|if_pos h
 exact .inr<|if_neg h
def dY(f:Ty):Prop:=∃a:Ty,a.k 8=true/\(f=.m 64 a\/f=.m 65 a)
structure jR(σ:az):Prop where
 i:∃c,σ.b 64=J c/\c.e=aA/\c.c=[]/\c.b=[]/\c.a=[1]/\c.d=3
 j:∃c,σ.b 65=J c/\c.e=aA/\c.c=[.m 64<|.j 0]/\c.b=[]/\c.a=[2]/\c.d=3
theorem dY.b(F:jR t)(h:dY f):∃c,eZ t f c/\c.d=3:=by
 obtain⟨a,v,rfl|rfl⟩:=h;·refine yl F.i λc m n l p w q=>⟨c,⟨m,.inr ⟨_,rfl⟩,(λu e=>by rw [n]at e;exact aX e),(λu e=>by rw [l]at e;exact bR e),(λu e=>by rw [p]at e;exact bR e),by rw [l];decide⟩,q⟩
 refine yl F.j λc m n l p w q=>⟨c,⟨m,.inr ⟨_,rfl⟩,(λu e=>by rw [n]at e;exact aX e),(λu e=>?_),(λu e=>by rw [p]at e;exact bR e),by rw [l];decide⟩,q⟩
 rw [l]at e;rw [bg.mp e];exact⟨rfl,v,by decide⟩
theorem dY.d(F:jR e)(h:dY f):cq f=f::e.f f/\∀g∈e.f f,dY g/\cq g=[g]:=by
 obtain⟨a,p,rfl|rfl⟩:=h
 ·refine sQ F.i λc l q n _=>?_;have:e.f (.m 64 a)=[]:=by unfold az.f;rw [show(Ty.m 64 a).s=64 from rfl,l];refine(?_:c.c.map _=_);rw [n];rfl
  rw [this];exact⟨rfl,λg m=>by exact bR m⟩
 refine sQ F.j λc l q n _=>?_;have:e.f (.m 65 a)=[.m 64 a]:=by unfold az.f;rw [show(Ty.m 65 a).s=65 from rfl,l];refine(?_:c.c.map _=_);rw [n];rfl
 rw [this];exact⟨rfl,λg m=>by rw [bg.mp m];exact⟨⟨a,p,.inl rfl⟩,rfl⟩⟩
theorem Lj(h:f.Nodup):(dG f t).Nodup:=by
 unfold dG;split;·exact h
 rename_i m;exact iu.mpr ⟨h,gN.mpr ⟨c_,fU⟩,λa c b d=>by rw [bg.mp d];exact λe=>m<|e▸c⟩
theorem FO:u∈dG f t↔u∈f\/u=t:=by
 unfold dG;split;·rename_i m;exact⟨.inl,λh=>h.elim id λe=>e▸m⟩
 rw [eO,bg]
section
def qq(H:Hp)(k s a:Nat):Prop:=X2 λb g=>H[a]?=J (.b 532 [(37,.j k),(44,.j s),(15,b),(45,g)])
theorem XS(W:Wo k d A H x)(l:qq H k A.s m)(h:At x v t)(o:eZ d t c)(p:t=.l 12\/(c.d=1/\c.e.isSome=true))
  (q:(t=.l 12->Q (.d<|-1) H)/\∀u a K' w,t≠.l 12->c.e=J u->Nx k H x a K'->At K' w (u.e t.p)->Q w a):aa (n+33) 45 [.j m,v] H Q:=by
 refine gG (fn:=Pf) [J _,J _] rfl rfl rfl ?_;refine p_ l λb g e=>aL e<|L5 W h o p q
theorem Lk(W:Wo k a A H w)(m:qq H k A.s p)(h:At w v t)(o:eZ a t c)(q:∀d K' l,Nx k H w d K'->bB K' l (a.f t)->Q (V.m l) d):aa (n+34) 46 [.j p,v] H Q:=by refine gG (fn:=Pg) [J _,J _] rfl rfl rfl ?_;refine p_ m λb g e=>aL e<|L9 W h o q
theorem XT(e:H[l]?=J (.d es)):eK bW H .a (.d i) (.j l)=J (!(d9 es i).isSome):=congrArg (oV (!·))<|f0 (f:=mG<|.d i) e
def XU(k:Nat)(H:Hp)(R:List Ty)(n:az)(t:Ty)(p:Nat)(q:List Ty)(e:Hp)(m:Nat)(G:aS)(h:Hp):Prop:=∀c:Prop,(∀(d a:List Ty)(l:List V)(K':List Ty)(es:List<|Int×V)(x:V)(v:q=d++a)(w:m=a.length)(z:Nx k H R h K')(A:h[H.length]?=J (.a l))(B:bB K' l d)(C:h[e.length]?=J (.d es))(D:iP K' es d)(I:a=[]->x=.d (-1))(P:∀t r,a=t::r->At K' x t/\jc n a) (Q:G=[J<|.j p,J x,J<|.j H.length,J<|.j e.length]),c)->c
theorem XV(W:Wo k σ A H K)(hH:qq H k A.s hh)(Iz:hh<k\/k+6<=hh)(h:At K v t)(p:jc σ R)(a:R.head?=J t)(q:∀H' K' l D,Nx k H K H' K'->H'[l]?=J (.a D)->H.length<=l->bB K' D R->Q (.j l) H'):
  aa (n+34) 41 [.j hh,v] H Q:=by
 refine gG (fn:=Pb) [J _,J _,aA,aA] rfl rfl rfl ?_;have ko:=bw W.c.d;refine bX λh0 u0=>?_;haveI N0:Nx k H K h0 K:=(NX.i W.c).q u0;have l0:=bw u0.b;refine bX λh1 u1=>?_;have N1:Nx k H K h1 K:=N0.q u1;haveI o1:=u1.a _ _ u0.b;haveI d1:=u1.b;haveI w:∃m:Nat,m=R.length:=⟨_,rfl⟩
 refine oE w λm hm=>?_;refine zJ (XU k H K σ t hh R h0) (m:=m)
  (λ_ k=>k ([]) R ([]) K ([]) v rfl hm N1 o1 bB.f d1 iP.c (λe=>by clear hm w;clear q;subst e;exact aX a) (λt' r e=>⟨(by clear hm w;clear q;subst e;(replace a:=ao a;subst a);exact h.b N1),p⟩) rfl) ?_
 intro m G h q0;refine q0 _ λds eC D K' es x B e2 N hw C hd hk X A0 z=>?_;rw [z];intro K1 kn _;have dl:ds.length<=10:=by haveI:=p.b;rw [B,b9]at this;exact(aV Y iF [.l (.a Y Z) iF] U this)
 induction eC using bk with
 |nil=>rw [X rfl];rw [cI]at B;clear hm w a;clear dl kn hk p;clear q0;subst B;exact q h K' _ _ N hw (aK _) C|cons t r=>
  refine on (A0 t r rfl) λhx I=>oE hx.i λi bT=>?_;clear A0 X;clear z;subst bT;haveI tn:t∉ds:=λm=>(iu.mp<|B▸p.e).2.2 t m t (.head _) rfl;refine bK (XT hd)<|iO (by rw [hk.g hx tn];rfl) ?_;haveI el:es.length<1000000:=by haveI:=hk.1;exact(cN<|aH this dl)
  refine jS hd (if_pos el) ?_;have u:=am.d (o:=.d<|fR es i<|.d 1) hd;revert u;generalize h.set h0.length _=h2;intro u;haveI ne:H.length≠h0.length:=j0 l0;haveI w2:=u.a _ _ hw ne;refine dE (dj w2)<|eB w2 (by rw [C.c];exact(cN dl)) ?_;have P:=am.d (o:=.a<|D++[.d i]) w2;revert P;generalize h2.set H.length _=h3;intro P;have N3:Nx k H K h3 K':=(N.s u (.inr<|bb cJ Z [.t bu aB,.t aB Z] U ko l0)<|.inr<|jB l0).s P (.inr<|aV cJ Z [.t bu Z] U ko)<|.inr<|aK _;haveI d3:=P.a _ _ u.b<|iX ne;haveI d:=C.l<|bB.d hx;haveI oZ:=hk.f (w:=.d 1) hx;refine aG (I.d t<|.head _) λc ok hb=>p_ hH λb g eh=>?_;haveI TG:=N3.b eh Iz;refine aL TG<|XS (W.n N3) ⟨b,g,TG⟩ hx ok hb ⟨?_,?_⟩
  ·rintro rfl;haveI hr:r=[]:=by
    clear e2 B;induction r using bk with
    |nil=>rfl|cons _ _=>exact absurd rfl I.a.1
   clear I;subst hr;exact(kn 0 _ _ e2 λ_ k=>k (ds++[.l 12]) ([]) (D++[.d i]) K' (fR es i<|.d 1) (.d<|-1) (by rw [B,cI]) rfl N3 P.b d d3 oZ (λ_=>rfl) (λ_ _ e=>by exact iN e) rfl).1
  intro u' H4 K4 w4 nt hu N4 a4;induction r using bk with
  |nil=>exact absurd I.a nt|cons s r=>
   refine aG (Le ok I.a.2.1) λb wE Dt=>?_;rw [wE]at hu;(replace hu:=ao hu;clear wE;subst hu);rw [Dt]at a4;haveI o4:=N4.b P.b<|.inr<|aV cJ Z [.t bu Z] U ko;haveI d4:=N4.b d3<|.inr<|bb cJ Z [.t bu aB,.t aB Z] U ko l0;refine(kn _ _ _ e2 λ_ k=>k (ds++[t]) (s::r) (D++[.d i]) K4 (fR es i<|.d 1) w4 (by rw [B,d6];rfl) rfl (N3.f N4) o4 (d.b N4) d4 (oZ.b d.2 N4) (λe=>(nomatch e)) (λt' r' e=>?_) rfl).1
   (injection e with e;rw [<-e])
   exact⟨a4,I.f⟩
noncomputable def wt(a:List Ty):Nat:=(a.map λt=>(cq t).length).sum
theorem XW(e:H[l]?=J (.a a))(c:a.length<1000000):oL H (.j l)=J (!a.isEmpty):=by exact(f0 (f:=Nu) e).trans<|if_pos c
theorem XX{d:V->Hp->Prop}(e:h[l]?=J (.a<|a++[y]))(c:a.length<1000000)(k:d y<|h.set l<|.a a):MJ (.j l) h d:=⟨a,y,e,c,k⟩
theorem XY(t:Ty):0<(cq t).length:=by
 induction t using Ty.casesOn with
 |m c a=>exact(Li c a).elim (λe=>e▸(by decide:0<2)) λe=>e▸(by decide:0<1)|_=>exact(by decide:0<1)
def uq(c d:List Ty):Prop:=∀a,Ty.m 65 a∈c->Ty.m 64 a∈c\/∃r,d=Ty.m 64 a::r
theorem Ll(F:jR d)(A:dY t)(e:uq c<|t::r):cB c ((t::r).flatMap cq)=(if t∈c then cB c (r.flatMap cq)else cB (c++[t])<|(d.f t++r).flatMap cq)/\
  (if t∈c then uq c r/\wt r<wt (t::r)else uq (c++[t]) (d.f t++r)/\wt (d.f t++r)<wt (t::r)):=by
 refine on (A.d F) λp v=>?_;have fl:(d.f t).flatMap cq=d.f t:=by
  have:∀l:List Ty,(∀g∈l,cq g=[g])->l.flatMap cq=l:=by
   intro l;induction l with
   |nil=>intro _;rfl|cons x l B=>intro h;rw [kc,h x<|.head _,B λg m=>h g<|.tail _ m];rfl
  exact this _ λg m=>(v g m).2
 have w:wt (d.f t)=(d.f t).length:=by
  have:∀l:List Ty,(∀g∈l,cq g=[g])->wt l=l.length:=by
   intro l;induction l with
   |nil=>intro _;rfl|cons x l B=>intro h;refine(?_:(cq x).length+wt l=l.length+1);rw [h x<|.head _,B λg m=>h g<|.tail _ m];exact RH _ _
  exact this _ λg m=>(v g m).2
 have z:wt (t::r)=(d.f t).length+1+wt r:=by refine(?_:(cq t).length+wt r=_);rw [p];rfl
 have C:wt (d.f t++r)=(d.f t).length+wt r:=by unfold wt at w⊢;rw [cL,List.sum_append,w]
 rw [kc,p];by_cases m:t∈c
 ·rw [if_pos m,if_pos m];refine⟨?_,?_,(dg Y Z [.g Z<|.a bN Y] U z)⟩
  ·refine(?_:cB (dG c t) (d.f t++r.flatMap cq)=_);rw [show dG c t=c from if_pos m];clear C z w fl v;obtain⟨a,I,rfl|rfl⟩:=A;·have:d.f (.m 64 a)=[]:=(dP p.symm).2;rw [this];rfl
   have:d.f (.m 65 a)=[.m 64 a]:=(dP p.symm).2;rw [this];haveI H:Ty.m 64 a∈c:=by
    refine aU (e a m) ?_ ?_;·intro h;exact h
    refine λq=>oE q λD h=>?_;cases h
   refine(?_:cB (dG c<|.m 64 a) (r.flatMap cq)=_);rw [show dG c (.m 64 a)=c from if_pos H]
  intro b n;refine aU (e b n) ?_ ?_;·intro h;exact .inl h
  refine λq=>oE q λD h=>?_;(injection h with h;rw [<-h]);exact .inl m
 rw [if_neg m,if_neg m];refine⟨?_,?_,(jA Y Z [.g Z<|.a bN aI,.e Y<|.a aB aI] U z C)⟩;·refine(?_:cB (dG c t) (d.f t++r.flatMap cq)=_);rw [show dG c t=c++[t]from if_neg m,nD,fl]
 intro b n;refine aU (eO.mp n) ?_ ?_
 ·intro n;refine aU (e b n) ?_ ?_
  ·intro h;exact .inl<|dI _ h
  refine λq=>oE q λD h=>?_;(injection h with h;rw [h]);exact .inl<|dT _<|.head _
 intro n;have:t=.m 65 b:=(bg.mp n).symm;clear n m C z w fl v e A;clear n;subst this;have:d.f (.m 65 b)=[.m 64 b]:=(dP p.symm).2;exact .inr ⟨r,by rw [this];rfl⟩
end
set_option genInjectivity true
theorem bB.o(h:bB A (v::w)<|t::x):At A v t/\bB A w x:=by refine on h λe m=>?_;haveI p:=(dP e).1;haveI q:=(dP e).2;rw [p];rw [q];exact⟨⟨m t<|.head _,rfl⟩,rfl,λa z=>m a<|.tail _ z⟩
theorem iP.l(h:iP e es a)(d:At e (.d i) t)(m:t∈a):(d9 es i).isSome=true:=h.2.2 t m i d
theorem FP(t:Ty):(cq t).length<=2:=by
 induction t using Ty.casesOn with
 |m c a=>exact(Li c a).elim (λe=>e▸(by decide:2<=2)) λe=>e▸(by decide:1<=2)|_=>exact(by decide:1<=2)
theorem XZ(a:List Ty):wt a<=2*a.length:=by
 unfold wt;induction a with
 |nil=>exact aK _|cons f a c=>rw [g9,RT,rV];haveI:=FP f;exact(bb (.a Y Z) (.m 2 bN) [.l Z<|.m 2 aB,.l Y dB] U c this)
section
theorem X0(F:jR a)(c:dY t):(a.f t).length<=1:=by haveI:=(c.d F).1;haveI e:=congrArg gB this;haveI:=FP t;haveI e:(cq t).length=(a.f t).length+1:=e;exact(aV Y au [.l Z dB,.g Z aR] U this e)
def FQ(v:V)(h:Hp)(c:V->Hp->Prop):Prop:=match v with|.j l=>uu (.j l) h λa=>je (.a a) h λl h=>c (.j l) h|v=>ee v.z λa=>a.length<1000000/\je (.a a) h λl h=>c (.j l) h
theorem Lm(a:xs.length<1000000)(c:∀d,nz H (.a xs) d->K' (.j H.length) d):FQ (V.m xs) H K':=by
 induction xs using bk with
 |nil=>exact⟨a,bX c⟩|cons x xs=>exact ny (zG<|x::xs) ⟨a,bX c⟩
def X1(k:Nat)(H:Hp)(K:List Ty)(w p q:Nat)(z:List V)(A c:List Ty)(t:Hp)(m:Nat)(G:aS)(h:Hp):Prop:=∀a:Prop,(∀(d:List Ty)(v:List V)(K':List Ty)(e:List V)(l:List<|Int×V)(n:List Ty)(x y:Option V)(P:wt d<=m)(Q:d.length+wt d<400)(R:NX k [p,q] H K h K')(W:h[t.length]?=J (.a v.reverse))(X:bB K' v d)(w5:∀f∈d,dY f) (w6:h[p]?=J (.a e)) (w7:bB K' e n) (w8:n.Nodup) (w9:h[q]?=J (.d l)) (B:iP K' l n) (C:uq n d) (D:cB n (d.flatMap cq)=cB c (A.flatMap cq)) (I:G=[J<|.j w,J<|V.m z,J<|.j p,J<|.j q,J<|.j t.length,x,y]),a)->a
theorem Ln(F:jR σ)(W:Wo k σ A H K)(hH:qq H k A.s hh)(Iz:k+6<=hh)(tx:k+6<=D/\A.c<=D)(I_:k+6<=I/\A.c<=I)(ne:D≠I)(nhf:hh≠D)(nhs:hh≠I)
  (hx:bB K xs fs) (Aa:∀f∈fs,dY f) (jp:fs.length<100)
  (hw:H[D]?=J (.a ws)) (iy:bB K ws p) (Du:p.Nodup) (hd:H[I]?=J (.d es)) (hk:iP K es p) (sC:uq p fs)
  (q:∀H' K' P C d,d=cB p (fs.flatMap cq)->d.Nodup->NX k [D,I] H K H' K'->H'[D]?=J (.a P)->bB K' P d->H'[I]?=J (.d C)->iP K' C d->uq d []->Q .o H'):
  aa (n+35) 43 [.j hh,V.m xs,.j D,.j I] H Q:=by
 refine ce (fn:=Pd) rfl rfl ?_;intro rr
 haveI ko:=bw W.c.d
 have lw:=bw hw
 haveI ld:=bw hd
 refine(Lm (K':=λv h=>xK v h _) (by rw [hx.c];exact(ae jp)) λh0 u0=>?_:FQ _ _ _)
 haveI N0:NX k [D,I] H K h0 K:=(NX.i W.c).q u0
 refine zI u0.b (by rw [hx.c];exact(ae jp))<|
   bX λh1 u1=>?_
 haveI N1:=N0.q u1
 have R:h0.length=H.length+1:=u0.c
 obtain⟨m,hm⟩:∃m:Nat,m=wt fs:=⟨_,rfl⟩
 refine zJ (X1 k H K hh D I xs fs p h0) (m:=m) ?_ ?_
 ·have:=XZ fs
  exact λ_ k=>k fs xs K ws es p aA aA (VD hm) (be (.a Y Z) (.n 400) [.t Y lj,.t Y lj,.t Y lj,.l Z<|.m 2 Y] U jp jp jp this) N1 u1.b hx Aa (u1.a _ _<|u0.a _ _ hw) iy Du (u1.a _ _<|u0.a _ _ hd) hk sC rfl rfl
 intro m G h q0;refine q0 _ λtd pv K' P C fd x y wm tl N hp Ad JA Iy B X tu oZ J' JB fB=>?_;intro K1 kn _
 apply cQ fB;intro rr
 have TH:fd.length<1000000:=lV (sY fd K' X B.2)<|sZ N.g.a
 have pl:pv.length<1000:=by rw [Ad.c];exact(be Y dz [.t (.a Y Z)<|.n 400] U tl)
 refine bK (XW hp<|by rw [h_];exact(ae pl)) ?_
 induction td using bk with
 |nil=>
  have:pv=[]:=vq.mp Ad.c
  rw [this]
  exact q h K' P C fd JB X N Iy B tu oZ λa ha=>J' a ha
 |cons t r=>
  induction pv using bk with
  |nil=>cases Ad.c
  |cons w pv=>
   haveI hv:=Ad.o.1;haveI Dv:=Ad.o.2
   haveI pl:pv.length<1000:=Nat.lt_of_succ_lt pl
   rw [jn]at hp⊢
   refine iO (by cases pv.reverse<;>rfl)<|
     XX hp (by rw [h_];exact(ae pl)) ?_
   have u:=am.d (o:=.a pv.reverse) hp
   revert u
   generalize h.set h0.length _=h2
   intro u
   have n1:D≠h0.length:=(aj<|eV lw R)
   have n2:I≠h0.length:=(aj<|eV ld R)
   have N2:=N.s u (.inr<|cM (cY tx.1 lw) R)<|.inr<|ql R
   haveI w2:=u.a _ _ Iy n1
   haveI d2:=u.a _ _ tu n2
   refine oE hv.i λi bT=>?_;subst bT
   refine bK (FM d2) ?_
   have hf:=JA t<|.head _
   haveI s1:=(Ll F hf J').1;haveI s2:=(Ll F hf J').2
   haveI hm:∃m',m=m'+1:=by
    have:0<wt (t::r):=by
     have:=XY t;exact(be bQ (.a Y Z) [.t bQ Y] U this)
    exact⟨m-1,(bj (aV Y aY [.g aY Y] U<|bY<|aV au Y [.l Z Y,.t bQ Z] U wm this)<|aV aR Z [.e aR Z] U<|bY<|aV au Y [.l Z Y,.t bQ Z] U wm this)⟩
   refine oE hm λm' bT=>?_;subst bT
   haveI rl:(t::r).length=r.length+1:=rfl
   by_cases tz:t∈fd
   ·rw [if_pos tz]at s1 s2
    refine iO (oZ.l hv tz)<|
      (kn m' _ _ rfl (λ_ k=>k r pv K' P C fd (J<|.d i) y (bb Y Z [.t Y aB,.l aB aY] U s2.2 wm) (jA (.a Y Z) (.n 400) [.t (.a aB aI)<|.n 400,.t Z aI,.g aB aR] U tl s2.2 rl) N2 u.b Dv (λf m=>JA f<|.tail _ m) w2 B X d2 oZ s2.1 (s1.symm.trans JB) rfl)).2
   ·rw [if_neg tz]at s1 s2
    refine hM (oZ.g hv tz) ?_
    haveI el:C.length<1000000:=lV oZ.1 TH
    refine jS d2 (if_pos el) ?_
    have u3:=am.d (o:=.d<|fR C i<|.d 1) d2
    revert u3
    generalize h2.set I _=h3
    intro u3
    haveI w3:=u3.a _ _ w2 ne
    haveI p3:=u3.a _ _ u.b<|iX n2
    haveI N3:=N2.s u3 (.inr I_.1)<|.inl<|.tail _<|.head _
    refine dE (dj w3)<|
      eB w3 (by rw [B.c];exact TH) ?_
    have u4:=am.d (o:=.a<|P++[.d i]) w3
    revert u4
    generalize h3.set D _=h4
    intro u4
    haveI d4:=u4.a _ _ u3.b<|iX ne
    haveI p4:=u4.a _ _ p3<|iX n1
    have N4:=N3.s u4 (.inr tx.1)<|.inl<|.head _
    haveI W4:Wo k σ A h4 K':=W.d N4 (λl m=>by
     rcases dA.mp m with rfl|m
     ·exact tx.2
     ·rw [bg.mp m];exact I_.2)
    refine p_ hH λb g eh=>?_
    haveI TI:h4[hh]?=J (.b 532 [(37,.j k),(44,.j A.s),(15,b),(45,g)]):=N4.n _ _ eh (.inr Iz) (λm=>by
     refine aU (dA.mp m) ?_ ?_
     ·intro e;exact nhf e
     ·intro m;exact nhs (bg.mp m))
    refine aG (hf.b F) λc ok _=>
      aL TI<|
      Lk W4 ⟨b,g,TI⟩ hv ok ?_
    intro H5 K5 zs N5 wF
    haveI zl:=X0 F hf
    have JC:=wF.c
    refine(Lm (xs:=zs) (K':=λv h=>xK v h _) (cN<|mZ JC zl) λh6 u6=>?_:FQ _ _ _)
    refine zI (vs:=zs) u6.b (cN<|mZ JC zl)<|
      bX λh7 u7=>?_
    haveI N5':NX k [D,I] h4 K' H5 K5:=NX.v N5
    haveI N7:=((N4.f N5').q u6).q u7
    haveI w7:=u7.a _ _<|u6.a _ _<|N5.b u4.b<|.inr tx.1
    haveI d7:=u7.a _ _<|u6.a _ _<|N5.b d4<|.inr I_.1
    have p7:=u7.a _ _<|u6.a _ _<|N5.b p4<|.inr<|cM (cY tx.1 lw) R
    haveI hk5:=(oZ.f (w:=.d 1) hv).b (B.l<|bB.d hv).2 N5
    haveI Dw:=(B.l<|bB.d hv).b N5
    haveI aJc:=Dv.b N5
    haveI TJ:(fd++[t]).Nodup:=by haveI:=Lj (t:=t) X;unfold dG at this;rw [if_neg tz]at this;exact this
    haveI aJd:∀f∈σ.f t++r,dY f:=λf m=>(eO.mp m).elim (λm=>((hf.d F).2 f m).1) λm=>JA f<|.tail _ m
    haveI aJe:(σ.f t++r).length<=r.length+1:=by rw [b9];exact(aV (.a Y Z) aY [.l Y au] U zl)
    haveI fC:∀h8 y,NX k [D,I] H K h8 K5->h8[h0.length]?=J (.a (zs++pv).reverse)->h8[D]?=J (.a<|P++[.d i])->h8[I]?=J (.d<|fR C i<|.d 1)->
      K1 .a [J<|.j hh,J<|V.m xs,J<|.j D,J<|.j I,J<|.j h0.length,J<|.d i,y] h8:=λh8 y N8 p8 w8 d8=>
     (kn m' _ _ rfl (λ_ k=>k (σ.f t++r) (zs++pv) K5 _ _ (fd++[t]) (J<|.d i) y (bb Y Z [.t Y aB,.l aB aY] U s2.2 wm) (fe [_,_,_,_,_] (.a Y Z) (.n 400) [.t (.a aB aI)<|.n 400,.t Z aI,.g aB dq,.l Y dq] U tl s2.2 rl aJe) N8 p8 (wF.l aJc) aJd w8 Dw TJ d8 hk5 s2.1 (s1.symm.trans JB) rfl)).1
    haveI l6:h6.length=H5.length+1:=u6.c
    haveI l4:h4.length<=H5.length:=N5.j
    haveI l04:=bw p4
    haveI nn:h0.length≠h6.length:=(aj<|eV (bz l04 l4) l6)
    induction zs using bk with
    |nil=>
     refine fq u7.b<|
       ⟨.inl u7.b,fC h7 y N7 p7 w7 d7⟩
    |cons z zs=>
     obtain rfl:zs=[]:=by
      have:zs.length+1=(σ.f t).length:=JC
      exact vq.mp<|bj (aV Y bQ [.l Z au,.e aR Z] U zl this)<|cA bQ Y [] U
     refine fq u7.b<|
       ⟨.inl u7.b,?_⟩
     refine dE (dj p7)<|
       eB p7 (by rw [h_];omega) ?_
     have u8:=am.d (o:=.a<|pv.reverse++[z]) p7
     revert u8
     generalize h7.set h0.length _=h8
     intro u8
     refine⟨.inl<|u8.a _ _ u7.b<|iX nn,?_⟩
     exact fC h8 (J z) (N7.s u8 (.inr<|cM (cY tx.1 lw) R)<|.inr<|ql R) (by refine(?_:h8[h0.length]?=J (.a (z::pv).reverse));rw [jn];exact u8.b) (u8.a _ _ w7 n1)<|u8.a _ _ d7 n2
end
set_option backward.match.sparseCases true
noncomputable def cT(a:az)(c:List Ty):List Ty:=cB []<|c.flatMap λt=>(a.f t).flatMap cq
theorem nj(f a b:List Ty):cB f (a++b)=cB (cB f a) b:=oW
section
def X7(k:Nat)(H:Hp)(K:List Ty)(p:az)(v:V)(q:Nat)(t:List Ty)(e:Hp)(w:Nat)(bs d:List V)(G:aS)(h:Hp):Prop:=∀a:Prop,(∀(l m:List Ty)(n:List V)(K':List Ty)(es:List<|Int×V)(c:List Ty)(x:Option V)(B:t=l++m)(C:bB K' d m)(D:Nx k H K h K')(I:h[H.length]?=J (.a n))(P:bB K' n c)(Q:c.Nodup)(R:h[e.length]?=J (.d es))(W:iP K' es c)(X:uq c [])(w9:h[w]?=J (.a bs))(z:c=cT p l)(A:G=[J<|.j q,J v,J<|.j H.length,J<|.j e.length,x]),a)->a
theorem Lo(F:jR P)(W:Wo k P A H K)(hH:qq H k A.s hh)(d:k+6<=hh)(h:At K v t)(rc:jc P ts)(hh0:ts.head?=J t)
  (hf:∀t∈ts,(∀f∈P.f t,dY f)/\(P.f t).length<100)
  (q:∀H' K' l ws,Nx k H K H' K'->H'[l]?=J (.a ws)->H.length<=l->bB K' ws (cT P ts)->(cT P ts).Nodup->Q (.j l) H'):
  aa (n+36) 42 [.j hh,v] H Q:=by
 refine ce (fn:=Pc) rfl rfl ?_;intro rr
 haveI ko:=bw W.c.d
 haveI tp:=W.b.p.2.2.2.2.2.1
 refine bX λh0 u0=>?_
 haveI N0:Nx k H K h0 K:=(NX.i W.c).q u0
 have p:=u0.c
 refine bX λh1 u1=>?_
 have N1:Nx k H K h1 K:=N0.q u1
 haveI l1:=u1.c
 refine p_ hH λb g eh=>?_
 have z:=bw eh
 refine XV (W.n N1) ⟨b,g,N1.b eh<|.inr d⟩ (.inr d) (h.b N1) rc hh0 ?_
 intro h2 K2 lb bs N2 hb B hbs
 haveI kh:=N1.f N2
 haveI f2:=N2.b (u1.a _ _ u0.b)<|.inr<|cY d z
 haveI s2:=N2.b u1.b<|.inr<|cM (cY d z) p
 haveI ne:H.length≠h0.length:=(aj<|nW p)
 refine fq hb<|
   fp (X7 k H K P v hh ts h0 lb bs) ?_ ?_ ?_ ?_
 ·exact λ_ k=>k ([]) ts ([]) K2 ([]) ([]) aA rfl hbs kh f2 bB.f fU s2 iP.c (λa m=>by exact bR m) hb rfl rfl
 ·intro eC G h q0;refine q0 _ λ_ _ _ _ _ _ _ _ _ _ _ _ _ _ _ _ e _ _=>?_
  exact .inl e
 ·intro G h q0;refine q0 _ λds rs ws K' es fd x e1 R N hw C nd hd hk I hl e2 X=>?_
  apply cQ X;intro rr
  obtain rfl:rs=[]:=vq.mp R.c.symm
  rw [cI]at e1
  subst e1;subst e2
  exact q h K' _ ws N hw (aK _) C nd
 ·intro w bo G h q0;refine q0 _ λds rs ws K' es fd x e1 R N hw C nd hd hk I hl e2 X=>?_;intro K1 kn _
  apply cQ X;intro rr
  induction rs using bk with
  |nil=>cases R.c
  |cons u rs=>
   haveI hu:=R.o.1;haveI R:=R.o.2
   have mu:u∈ts:=e1▸dT _ (.head _)
   refine aG (rc.d u mu) λc ok _=>?_
   haveI Wn:=W.n N
   haveI JD:=N.b eh<|.inr d
   refine aL JD<|
     Lk Wn ⟨b,g,JD⟩ hu ok ?_
   intro h3 K3 zs D wF
   haveI W3:=Wn.n D
   haveI w3:=D.b hw<|.inr<|cY d z
   haveI d3:=D.b hd<|.inr<|cM (cY d z) p
   refine Ln (n:=n) F W3 ⟨b,g,D.b JD<|.inr d⟩ d ⟨(cY d z),tp⟩ ⟨(cM (cY d z) p),(cM tp p)⟩ ne (aj z) (aj<|eV z p) wF (hf u mu).1 (hf u mu).2 w3 (C.b D) nd d3 (hk.b C.2 D) (λa m=>.inl<|(I a m).elim id λ⟨r,e⟩=>nomatch e) ?_
   intro h4 K4 ws' wC mQ e4 nd4 N4 w4 aJk d4 hk4 J4
   haveI Nn:NX k [H.length,h0.length] H K h4 K4:=(NX.v<|N.f D).f N4
   haveI Nn':Nx k H K h4 K4:=Nn.y λl m=>by
    refine aU (dA.mp m) ?_ ?_
    ·intro fX;rw [fX];exact aK _
    ·intro m;rw [bg.mp m];exact(ql p)
   haveI l4:=N4.n _ _ (D.b hl (.inr (aH (cM (cM (cY d z) p) l1) B))) (.inr (aH (cM (cM (cY d z) p) l1) B)) (λm=>by
    refine aU (dA.mp m) ?_ ?_
    ·intro e;exact(nU<|nY (bz (wn p l1) B) e)
    ·intro m;haveI:=bg.mp m;exact(nU (nY (nX l1 B) this)))
   refine(kn _ _ λ_ k=>k (ds++[u]) rs ws' K4 wC mQ (J w) (by rw [e1,d6];rfl) ((R.b D).b N4) Nn' w4 aJk nd4 d4 hk4 J4 l4 ?_ rfl).1
   rw [e4,e2]
   unfold cT
   rw [nD,nj]
   congr 1
   exact(cI _).symm
end
noncomputable def az.e(c:az)(t:Ty):List Nat:=((c.b t.s).map dh.a).getD []
def sd(a:az)(s:Ty)(o:Nat):Prop:=0<o/\∃y,A4 (a.d o=J y) (jQ s.p y.a) ((a.b y.d).isSome=true)<|y.c=2\/y.c=6
structure ur(σ:az)(s:Ty):Prop where
 b:∃c,eZ σ s c/\c.d=1
 a:∀o∈σ.e s,sd σ s o
 d:(σ.e s).length<1000
noncomputable def mB(a:az)(x:kR)(t s:Ty)(o:Nat):Bool:=match a.d o with|some y=>ng true x t y s|none=>false
noncomputable def kS(a:az)(x:kR)(t:Ty):List Ty->Option (Nat×Nat)|[]=>aA|s::r=>match(a.e s).find? (mB a x t s)with|some o=>J (o,r.length)|none=>kS a x t r
noncomputable def FR:Option (Nat×Nat)->V|some (o,p)=>V.m [aP o,aP p]|none=>V.m [.d 0,.d<|-1]
section
theorem FS(o:eZ a s c):a.e s=c.a:=by unfold az.e;rw [o.a];rfl
theorem Lp(W:Wo k a A H d)(o:eZ a s c):H[A.a s.s+6]?=J (.a<|(a.e s).map aP):=by rw [FS o];exact(W.b.d _ _ o.a).f
def X9(k:Nat)(H:Hp)(C:List Ty)(l:az)(A:eW)(t:Ty)(ll e:Nat)(c:List Ty)(x:kR)(m:Nat)(G:aS)(h:Hp):Prop:=∀a:Prop,(∀(d n K':List Ty)(p:Option V)(q:c=n++d)(v:m=d.length)(w:Nx k H C h K')(z:kS l x t c=kS l x t d)(B:G=[J<|.j A.s,J<|.j ll,J<|.d e,J<|.d (c.length:Nat),J<|.d<|(d.length:Int)-1,p]),a)->a
def Xa(k:Nat)(H:Hp)(C:List Ty)(l:az)(A:eW)(t:Ty)(ll c:Nat)(d:List Ty)(x:kR)(s:Ty)(r:List Ty)(e:List V)(G:aS)(h:Hp):Prop:=∀a:Prop,(∀(m n:List Nat)(K':List Ty)(p:Option V)(q:e=m.map aP)(v:l.e s=n++m)(w:Nx k H C h K')(z:∀o∈n,mB l x t s o=false) (B:G=[J<|.j A.s,J<|.j ll,J<|.d c,J<|.d (d.length:Nat),J<|.d (r.length:Nat),p]),a)->a
theorem Xb{ll d:Nat}{D:List V}{a:List Ty}{x:kR}(W:Wo k c A H K)(hl:H[ll]?=J (.a D))(t_:ll<k\/k+6<=ll)(I:bB K D<|a.reverse++[t])(hx:c.d d=J x)(hm:0<d)(hc:jQ t.p x.a)
  (j5:∀s∈a,ur c s) (P:a.length<100) (q:∀H' K',Nx k H K H' K'->Q (FR<|kS c x t a) H'):
  aa (n+35) 55 [.j A.s,.j ll,.d d] H Q:=by
 refine ce (fn:=Pp) rfl rfl ?_;intro rr;haveI ko:=bw W.c.d;haveI Ae:D.length=a.length+1:=by rw [I.c,b9,h_];rfl
 refine gR hl rfl (be Y eX [.t Z lj,.e Y aY] U P Ae) ?_;rw [Ae];refine zJ (X9 k H K c A t ll d a x) (m:=a.length) ?_ ?_;·refine λ_ k=>k a ([]) K aA rfl rfl (NX.i W.c) rfl ?_;have e:((a.length+1:Nat):Int)-1=(a.length:Nat):=uZ _;refine(?_:[J<|V.j A.s,J<|V.j ll,J<|V.d d,J<|V.d<|((a.length+1:Nat):Int)-1,J<|V.d<|((a.length+1:Nat):Int)-1-1,aA]=_);rw [e]
 intro m G h z;refine z _ λrs ds K' x5 e1 e2 N e3 TK=>?_;rw [TK];intro K1 kn kr;clear TK;induction rs using bk with
 |nil=>have:=q h K' N;rw [e3]at this;exact this|cons s r=>
  refine jC (show(((s::r).length:Nat):Int)-1≥0 from(uZ r.length).symm▸j1 _) ?_;haveI ix:(((s::r).length:Nat):Int)-1=(r.length:Nat):=uZ _;haveI Wn:=W.n N;haveI wG:=N.b hl t_;haveI B:=I.b N;have gs:(a.reverse++[t])[r.length]?=J s:=by
   haveI Dx:a.reverse=r.reverse++(s::ds.reverse):=by rw [e1,RW,jn,d6];rfl
   rw [Dx,d6,kf<|by rw [h_];exact aK _,h_,lX];rfl
  have gt:(a.reverse++[t])[a.length]?=J t:=by rw [kf<|by rw [h_];exact aK _,h_,lX];rfl
  refine aG (B.j gs) λsv g1 g2=>aG (B.j gt) λtv t1 t2=>?_;have rl:r.length<100:=by haveI:=congrArg gB e1;rw [b9,rV]at this;exact(dg Y lj [.t Z lj,.g Z<|.a aB aR] U P this)
  obtain⟨⟨cs,ok,-⟩,JE,msl⟩:=j5 s<|e1▸dT _ (.head _);rw [ix];refine du wG g1 (ae rl)<|lH Wn g2 ok ?_;obtain⟨nm,bs,iL,cc,fi,ho,-⟩:=(Wn.b.d _ _ ok.a).b;refine aL ho ?_;haveI uB:=Lp Wn ok;haveI yI:=W.b.o.2.2.2.1 _ _ ok.a;refine fq uB<|fp (Xa k H K c A t ll d a x s r) ?_ ?_ ?_ ?_;·exact λ_ k=>k (c.e s) ([]) K' x5 rfl rfl N (λo m=>by exact bR m) rfl
  ·intro eC G h z;refine z _ λ_ _ _ _ _ _ l _ _=>?_;exact .inl<|Lp (W.n l) ok
  ·intro G h2 z;refine z _ λR ps K2 x5 e X l v fB=>?_;apply cQ fB;intro rr;obtain rfl:R=[]:=by induction R using bk with|nil=>rfl|cons _ _=>exact iN e
   rw [cI]at X;haveI hf:(c.e s).find? (mB c x t s)=none:=xz.mpr λo m=>by rw [v o<|X▸m];decide
   refine bK (x:=V.d<|(r.length:Int)-1) rfl ?_;refine(kn r.length _ _ e2 λ_ k=>k r (ds++[s]) K2 x5 (by rw [e1,d6];rfl) rfl l ?_ rfl).1;rw [e3];refine(?_:(match(c.e s).find? (mB c x t s)with|some o=>J (o,r.length)|none=>kS c x t r)=_);rw [hf]
  intro w bo G h2 z;refine z _ λR ps K2 x5 e X l v fB=>?_;intro K3 kn3 TL;apply cQ fB;intro rr;induction R using bk with
  |nil=>exact hI e|cons o R=>
   haveI cG:=(dP e).1;haveI bT:=(dP e).2;rw [cG];clear e;clear z;subst bT;haveI mo:o∈c.e s:=X▸dT _ (.head _);refine ym (JE o mo) λo0 y hy uD _ jp=>?_;haveI W2:=W.n l;haveI qc:=l.b hl t_;haveI C:=I.b l;refine aG (C.j gs) λsv2 g12 g22=>aG (C.j gt) λtv2 t12 uj=>XI W2 hy<|du qc t12 (ae P)<|du qc g12 (ae rl)<|FK W2 uj g22 hx hy hm o0 hc uD ?_;intro H3 K4 N3;haveI hh:mB c x t s o=ng true x t y s:=by unfold mB;rw [hy]
   induction hb:ng true x t y s with
   |true=>
    rw [hb]at hh;refine TL _ _ _<|kr _ _ _ ?_;haveI:=q H3 K4<|l.f N3;haveI hf:(c.e s).find? (mB c x t s)=J o:=by rw [X,DR,xz.mpr λo m=>by rw [v o m];decide];refine(?_:(o::R).find? _=_);rw [gA,hh]
    haveI e5:kS c x t a=J (o,r.length):=by rw [e3];refine(?_:(match(c.e s).find? (mB c x t s)with|some o=>J (o,r.length)|none=>kS c x t r)=_);rw [hf]
    rw [e5]at this;exact this
   |false=>rw [hb]at hh;exact(kn3 _ _ λ_ k=>k R (ps++[o]) K4 (J<|aP o) rfl (by rw [X,d6];rfl) (l.f N3) (λp m=>(eO.mp m).elim (v p) λm=>by clear hy o0 mo cG X;obtain rfl:=bg.mp m;exact hh) rfl).1
end
noncomputable abbrev kT:=List (Nat×Nat)×List (Ty×Nat)
noncomputable def cZ(a:List Ty)(r:Ty×Nat):V:=V.m [cP a r.1,aP r.2]
noncomputable def iQ(p:Nat×Nat):Int×V:=((p.1:Int),aP p.2)
structure VT(H:Hp)(K:List Ty)(va:Nat)(kv:V)(s:kT):Prop where
 b:H[va]?=J (.b 568 [(46,kv),(0,.j<|va+1),(47,.j<|va+2)])
 e:H[va+1]?=J (.a<|s.2.map<|cZ K)
 f:∀r∈s.2,r.1∈K
 c:H[va+2]?=J (.d<|s.1.map iQ)
structure pC(s:kT):Prop where
 c:∀o i,s.1.lookup o=J i->i<s.2.length
 d:s.2.length<=s.1.length
 f:(s.1.map bI).Nodup
noncomputable def qr(c:Option<|Nat×Nat)(t:Ty)(a:Nat)(s:kT):kT:=match c with|none=>(s.1++[(a,s.2.length)],s.2++[(t,a)])|some (o,_)=>let i:=(s.1.lookup o).getD 0;(s.1++[(a,i)],s.2.set i (t,a))
noncomputable def qt(c:az)(x:kR)(t:Ty)(a:List Ty):Option (Nat×Nat):=if x.c=2 then kS c x t a else aA
theorem Lq{s:List<|Nat×Nat}{m:Nat}(h:m∉s.map bI):s.lookup m=none:=by
 induction s with
 |nil=>rfl|cons p s c=>obtain⟨a,b⟩:=p;rw [g9]at h;haveI e:(m==a)=false:=beq_eq_false_iff_ne.mpr λe=>h<|e▸.head _;rw [kG,e];exact c λm=>h<|.tail _ m
theorem sh{s:List<|Nat×Nat}{m:Nat}(h:m∈s.map bI):∃i,s.lookup m=J i:=by
 induction s with
 |nil=>exact bR h|cons p s c=>
  obtain⟨a,b⟩:=p;by_cases e:m=a;·rw [e];exact⟨b,by rw [kG,beq_self_eq_true]⟩
  rw [kG,beq_eq_false_iff_ne.mpr e];exact c<|(dA.mp h).resolve_left e
theorem ut{s:List<|Nat×Nat}{m:Nat}:d9 (s.map iQ) (m:Nat)=(s.lookup m).map aP:=by
 induction s with
 |nil=>rfl|cons p s c=>
  obtain⟨a,b⟩:=p;unfold d9 at c⊢;rw [g9,gA,kG];by_cases e:m=a;·subst e;rw [beq_self_eq_true];rw [decide_eq_true rfl];rfl
  rw [beq_eq_false_iff_ne.mpr e];rw [decide_eq_false λz=>e<|bj (aV Y Z [.g Z Y] U<|hZ.mp z)<|aV Y Z [.e Y Z] U<|hZ.mp z];exact c
theorem FT(h:m∉s.map bI):fR (s.map iQ) (m:Nat) (aP i)=(s++[(m,i)]).map iQ:=by unfold fR;rw [ut,Lq h,cL];rfl
theorem zC{s:List<|Nat×Nat}{m i o:Nat}(h:m∉s.map bI):(s++[(m,i)]).lookup o=if o=m then J i else s.lookup o:=by
 rw [List.lookup_append];by_cases e:o=m;·subst e;rw [Lq h,if_pos rfl];refine(?_:([(o,i)]:List<|Nat×Nat).lookup o=_);rw [kG,beq_self_eq_true]
 rw [if_neg e];have:([(m,i)]:List<|Nat×Nat).lookup o=none:=by rw [kG,beq_eq_false_iff_ne.mpr e];rfl
 rw [this];cases s.lookup o<;>rfl
theorem Bv(h:i<1000000)(c:i<a.length):qL (.a a) (.d (i:Nat)) v=J (.a<|a.set i v):=by
 haveI e:(0:Int)<=(i:Nat)/\((i:Nat):Int)<1000000/\((i:Nat):Int)<(a.length:Nat):=⟨(j1 _),(fT.mpr<|bA Y eX [.t Y eX] U h),(fT.mpr<|be Y Z [.t Y Z] U c)⟩
 exact aCG e
theorem pC.g{t:Ty}{l:Option<|Nat×Nat}(h:pC s)(hm:m∉s.1.map bI)(v:∀o p,l=J (o,p)->o∈s.1.map bI):pC (qr l t m s):=by
 have n:∀i,((s.1++[(m,i)]).map bI).Nodup:=λi=>by rw [cL];exact iu.mpr ⟨h.f,gN.mpr ⟨c_,fU⟩,λa w b x=>by obtain rfl:=bg.mp x;exact λe=>hm<|e▸w⟩
 induction l with
 |none=>
  refine⟨λo i e=>?_,?_,n _⟩
  ·rw [show(qr aA t m s).1=s.1++[(m,s.2.length)]from rfl,zC hm]at e;rw [b9];split at e
   ·(replace e:=ao e;rw [<-e]);exact tc _
   ·exact x_<|h.c _ _ e
  refine(?_:(s.2++[(t,m)]).length<=(s.1++[(m,_)]).length);rw [b9,b9];exact iW h.d
 |some z=>
  obtain⟨o,p⟩:=z;refine oE (sh<|v o p rfl) λi q=>⟨λA j e=>?_,?_,n _⟩
  ·have e:(s.1++[(m,(s.1.lookup o).getD 0)]).lookup A=J j:=e;rw [vh];rw [zC hm,q]at e;split at e
   ·(replace e:=ao e;rw [<-e]);exact h.c _ _ q
   ·exact h.c _ _ e
  refine(?_:(s.2.set _ _).length<=(s.1++[(m,_)]).length);rw [vh,b9];exact tY h.d
theorem Xc:((qr a t m s).1.map bI)=s.1.map bI++[m]:=by unfold qr;split<;>(rw [cL];rfl)
section
theorem Bw{c:List<|Ty×Nat}(hm:∀r∈c,r.1∈m) (a:NX k X H m l K'):c.map (cZ K')=c.map (cZ m):=by refine oE a.t λr d=>?_;rw [d];exact mL λp e=>by unfold cZ;rw [lF<|hm p e]
theorem VT.d{s:kT}(T:VT H K n v s)(a:NX k X H K w K')(p:k+6<=n)(q:∀l∈X,l≠n/\l≠n+1/\l≠n+2):VT w K' n v s:=by
 refine⟨a.n _ _ T.b (.inr p) λm=>(q _ m).1 rfl,?_,λr m=>?_,a.n _ _ T.c (.inr<|dF _ p) λm=>(q _ m).2.2 rfl⟩;·rw [Bw T.f a];exact a.n _ _ T.e (.inr<|dF _ p) λm=>(q _ m).2.1 rfl
 refine oE a.t λx t=>?_;rw [t];exact dI _<|T.f r m
theorem Ls(h:kS a x t c=J (o,p)):∃s,A4 (s∈c) (o∈a.e s) (p<c.length) (mB a x t s o=true):=by
 induction c with
 |nil=>exact aX h|cons s r e=>
  have h:(match(a.e s).find? (mB a x t s)with|some o=>J (o,r.length)|none=>kS a x t r)=J (o,p):=h;induction d:(a.e s).find? (mB a x t s)with
  |some w=>rw [d]at h;cases h;exact Bk s (.head _) (oX d) (tc _)<|vr d|none=>rw [d]at h;refine qm (e h) λl m n q v=>Bk l (.tail _ m) n (x_ q) v
theorem Xd{s:kT}{a:Ty}(W:Wo k σ A H K)(T:VT H K l kv s)(ok:pC s)(D:k+6<=l/\A.c<=l)(hl:H[ll]?=J (.a re))(t_:ll<k\/k+6<=ll)(nL:bB K re<|d.reverse++[t])
  (hx:σ.d c=J x) (hm:0<c) (hc:jQ t.p x.a) (Dy:(σ.b x.d).isSome=true) (JF:x.c=2\/x.c=6) (ha:At K av a)
  (j5:∀s∈d,ur σ s) (P:d.length<100) (R:c∉s.1.map bI) (yJ:∀u∈d,∀o∈σ.e u,o∈s.1.map bI) (I:s.1.length<1000)
  (q:∀H' K',NX k [l+1,l+2] H K H' K'->VT H' K' l kv (qr (qt σ x t d) a c s)->Q .o H'):
  aa (n+36) 53 [.j A.s,.j l,av,.j ll,.d c] H Q:=by
 refine ce (fn:=QQ) rfl rfl ?_;intro rr;haveI Ae:re.length=d.length+1:=by rw [nL.c,b9,h_];rfl
 haveI JG:=ok.d;have bo:∀(ov:Option<|Nat×Nat) h C,Nx k H K h C->(∀o p,ov=J (o,p)->kS σ x t d=J (o,p))->ov=qt σ x t d->
   dC (aa<|n+35) (HN.a 3) [J<|.j A.s,J<|.j l,J av,J<|.j ll,J<|.d c,J<|.j<|A.b c,J<|FR ov,aA,aA] h (gX Q):=by
  intro ov h C N aJs TM;have W1:=W.n N;have v:=T.d N D.1 λ_ m=>by exact bR m
  have X:=ha.b N;induction ov with
  |none=>
   refine bS rfl ?_;refine aL v.b<|gR v.e rfl (by rw [ai];exact(ae<|cN JG I)) ?_;rw [ai];refine aL v.b<|jS v.c (if_pos<|by rw [ai];exact(ae I)) ?_;have u:=am.d (o:=.d<|fR (s.1.map iQ) (c:Nat)<|aP s.2.length) v.c;have u:am h (l+2) (.d<|fR (s.1.map iQ) (c:Nat)<|aP s.2.length) (h.set (l+2)<|.d<|fR (s.1.map iQ) (c:Nat)<|aP s.2.length):=u;revert u;refine(?_:_->dC _ _ _ (h.set (l+2)<|.d<|fR (s.1.map iQ) (c:Nat)<|aP s.2.length) _);generalize h.set (l+2) _=h2;intro u;rw [FT R]at u;have o2:=u.a _ _ v.b<|aj<|bP _<|aK _;have r2:=u.a _ _ v.e<|aj<|bA aR cm [] U;refine aL o2<|dE (dj r2)<|eB r2 (by rw [ai];exact(ae<|cN JG I)) ?_;have B:=am.d (o:=.a<|s.2.map (cZ C)++[V.m [av,.d c]]) r2;revert B;generalize h2.set (l+1) _=h3;intro B;haveI nn:l+1≠l+2:=(aj<|bA aR cm [] U)
   haveI N3:NX k [l+1,l+2] H K h3 C:=((NX.v N).s u (.inr<|dF _ D.1)<|.inl<|.tail _<|.head _).s B (.inr<|dF _ D.1)<|.inl<|.head _;refine q h3 C N3 ?_;rw [<-TM];refine⟨B.a _ _ o2<|aj<|bP _<|aK _,?_,?_,B.a _ _ u.b<|a9<|bA aR cm [] U⟩;·refine(?_:h3[l+1]?=J (.a<|(s.2++[(a,c)]).map<|cZ C));rw [cL,B.b,X.2];rfl
   intro r m;refine aU (eO.mp m) ?_ ?_;·intro m;exact v.f r m
   intro m;rw [bg.mp m];exact X.1
  |some op=>
   obtain⟨o,p⟩:=op;refine qm (Ls<|aJs o p rfl) λw TN Dq JH TO=>?_;obtain⟨⟨cw,okw,-⟩,JE,msl⟩:=j5 w TN;refine ym (JE o Dq) λo0 y hy uD JI jp=>?_;haveI om:=yJ w TN o Dq;refine oE (sh om) λi hi=>?_;haveI il:=ok.c _ _ hi;refine bS rfl ?_;refine dt (show ¬((o:Nat):Int)=0 from(mt hZ.mp<|a9<|bA bQ Y [.t bQ Y] U o0))<|aL W1.b.b<|lI W1 hy<|cp ((W1.b.f _ _ hy).b) λw1 pn pf ho _=>oE (pc.mp Dy) λcx ox=>oE (pc.mp JI) λcy oy=>?_;haveI nar:dC (aa<|n+35) (HN.a 7) [J<|.j A.s,J<|.j l,J av,J<|.j ll,J<|.d c,J<|.j<|A.b c,J<|FR<|J (o,p),J<|.d (o:Nat),J<|.j<|A.b o] h (gX Q):=by
    haveI rh:=N.b hl t_;haveI TP:=nL.b N;refine gR rh rfl (be Y eX [.t Z lj,.e Y aY] U P Ae) ?_;rw [Ae];haveI gt:(d.reverse++[t])[d.length]?=J t:=by rw [kf<|by rw [h_];exact aK _,h_,lX];rfl
    haveI gp:∃z,(d.reverse++[t])[p]?=J z:=by rw [jL<|by rw [h_];exact JH];exact⟨_,f7<|by rw [h_];exact JH⟩
    refine oE gp λz gp=>aG (TP.j gt) λtv t1 _=>aG (TP.j gp) λzv z1 _=>?_;have e:((d.length+1:Nat):Int)-1=ip d.length:=uZ _;refine(?_:mj (.j ll) (.d<|((d.length+1:Nat):Int)-1) h _);rw [e];refine du rh t1 (ae P)<|bS rfl ?_;refine du rh z1 (ae<|ae JH P)<|Ld W1 hx hy<|aL v.b<|uv v.c (ut.trans<|congrArg _ hi)<|aL v.b<|jS v.c (if_pos<|by rw [ai];exact(ae I)) ?_;have u:am h (l+2) (.d<|fR (s.1.map iQ) (c:Nat)<|aP i) (h.set (l+2)<|.d<|fR (s.1.map iQ) (c:Nat)<|aP i):=am.d v.c;revert u;generalize h.set (l+2) _=h2;intro u;rw [FT R]at u;haveI o2:=u.a _ _ v.b<|aj<|bP _<|aK _;haveI r2:=u.a _ _ v.e<|aj<|bA aR cm [] U;haveI hi2:(s.1++[(c,i)]).lookup o=J i:=by rw [zC R,if_neg λe:o=c=>R<|e▸om];exact hi
    refine aL o2<|aL o2<|uv u.b (ut.trans<|congrArg _ hi2)<|jS r2 (Bv (ae<|ae (bz il JG) I)<|by rw [ai];exact il) ?_;have B:am h2 (l+1) (.a<|(s.2.map<|cZ C).set i<|V.m [av,.d c]) (h2.set (l+1)<|.a<|(s.2.map<|cZ C).set i<|V.m [av,.d c]):=am.d r2;revert B;generalize h2.set (l+1) _=h3;intro B;haveI N3:NX k [l+1,l+2] H K h3 C:=((NX.v N).s u (.inr<|dF _ D.1)<|.inl<|.tail _<|.head _).s B (.inr<|dF _ D.1)<|.inl<|.head _;refine q h3 C N3 ?_;rw [<-TM];haveI e3:qr (J (o,p)) a c s=(s.1++[(c,i)],s.2.set i (a,c)):=by refine(?_:(s.1++[(c,(s.1.lookup o).getD 0)],s.2.set ((s.1.lookup o).getD 0) (a,c))=_);rw [hi];rfl
    rw [e3];refine⟨B.a _ _ o2<|aj<|bP _<|aK _,?_,?_,B.a _ _ u.b<|a9<|bA aR cm [] U⟩;·rw [Hz,B.b,X.2];rfl
    intro r m;refine aU (aG8 m) ?_ ?_;·intro m;exact v.f r m
    intro m;rw [m];exact X.1
   rcases jp with e|e<;>(rw [e]at ho;refine aL ho<|bK (x:=V.d 0) rfl ?_;refine XK W1 hx hy ox oy<|nar)
 refine aL W.b.b<|lI W hx<|cp ((W.b.f _ _ hx).b) λw pn pf ho _=>aU JF ?_ ?_;·intro e;rw [e]at ho;refine aL ho<|bK (x:=V.d 0) rfl ?_;refine Xb W hl t_ nL hx hm hc j5 P ?_;intro H1 C N1;exact bo (kS σ x t d) H1 C N1 (λo p e=>e)<|by unfold qt;rw [if_pos e]
 intro e;rw [e]at ho;refine aL ho<|bK (x:=V.d 4) rfl ?_;exact bo aA H K (NX.i W.c) (λo p e=>by exact aX e)<|by unfold qt;rw [if_neg<|by rw [e];decide]
end
noncomputable def jd(d:az)(t:Ty)(c:List Ty)(a:Ty)(e:List Nat)(s:kT):kT:=e.foldl (λs m=>match d.d m with|some x=>qr (qt d x t c) a m s|none=>s) s
section
theorem Xe(h:qt c x t a=J (o,p)):kS c x t a=J (o,p):=by
 unfold qt at h;split at h;·exact h
 exact aX h
def Xf(k:Nat)(H:Hp)(X:List Ty)(q:az)(A:eW)(t:Ty)(c:dh)(l ll:Nat)(e:List Ty)(w av:V)(s:kT)(a:Ty)(n:List V)(G:aS)(h:Hp):Prop:=∀d:Prop,(∀(p v:List Nat)(K':List Ty)(m:kT)(x z:Option V)(B:n=p.map aP)(C:c.a=v++p)(D:NX k [l+1,l+2] H X h K')(I:VT h K' l w m)(P:pC m)(Q:m.1.map bI=s.1.map bI++v)(R:jd q t e a p m=jd q t e a c.a s)(W:G=[J<|.j A.s,J<|.j l,J av,J<|.j ll,J<|.j<|A.a a.s,x,z,aA,aA]),d)->d
set_option tactic.hygienic true in
theorem Xg(F:jR P)(W:Wo k P A H K)(T:VT H K v kv s)(ok:pC s)(C:k+6<=v/\A.c<=v)(hl:H[ll]?=J (.a re))(D:(ll<k\/k+6<=ll)/\ll≠v+1/\ll≠v+2)(nL:bB K re<|x.reverse++[t])
  (ha:At K av a) (R:eZ P a c) (uB:∀o∈c.a,sd P t o) (Du:c.a.Nodup) (JJ:∀e∈c.b,dY e.2.1)
  (Dx:c.a≠[]->(∀s∈x,ur P s)/\x.length<100/\∀u∈x,∀o∈P.e u,o∈s.1.map bI) (Af:∀o∈c.a,o∉s.1.map bI) (yK:s.1.length+c.a.length<1000)
  (q:∀H' K' B,B=jd P t x a c.a s->NX k [v+1,v+2] H K H' K'->VT H' K' v kv B->pC B->B.1.map bI=s.1.map bI++c.a->Q .o H'):
  aa (n+37) 52 [.j A.s,.j v,av,.j ll] H Q:=by
 refine ce (fn:=Pn) rfl rfl ?_;intro rr
 haveI ko:=bw W.c.d
 refine lH W ha R ?_
 obtain⟨nm,bs,iL,cc,fi,ho,-⟩:=(W.b.d _ _ R.a).b
 have hX:∀l∈[v+1,v+2],A.c<=l:=λl m=>by
  refine aU (dA.mp m) ?_ ?_
  ·intro fX;rw [fX];exact(dF _ C.2)
  ·intro m;rw [bg.mp m];exact(dF _ C.2)
 haveI aN:A.a a.s+9<A.c:=W.b.p.2.2.2.1 _ _ R.a
 haveI yI:=W.b.o.2.2.2.1 _ _ R.a
 refine aL ho<|
   fq (W.b.d _ _ R.a).f<|
   fp (Xf k H K P A t c v ll x kv av s a) ?_ ?_ ?_ ?_
 ·exact λ_ k=>k c.a ([]) K s aA aA rfl rfl (NX.i W.c) T ok ((cI _).symm) rfl rfl
 ·intro eC G h q0;refine q0 _ λ_ _ K' _ _ _ _ _ N _ _ _ _ _=>?_
  exact .inl ((W.d N hX).b.d _ _ R.a).f
 ·intro G h q0;refine q0 _ λqs ps K' B x5 x6 e e2 N T' I e3 e4 d=>?_
  apply cQ d;intro rr
  obtain rfl:qs=[]:=by induction qs using bk with|nil=>rfl|cons _ _=>exact iN e
  rw [cI]at e2;clear q0 ho yK Af Dx Du uB;subst e2
  haveI fC:=q
  have W':=W.d N hX
  refine bX λh1 u1=>?_
  have N1:=N.q u1
  have W1:=W.d N1 hX
  obtain⟨nm1,bs1,aMQ,cc1,fi1,JK,-⟩:=(W1.b.d _ _ R.a).b
  refine aL JK<|
    aG ((W1.b.d _ _ R.a).j) λvs TQ hi=>
    fq TQ<|
    fp (λeC G h'=>h'=h1/\X2 λ(es:List<|Nat×Ty×Nat)(x8:Option V)=>A3 (jb (xI K') eC es) (∀e∈es,dY e.2.1)<|G=[J<|.j A.s,J<|.j v,J av,J<|.j ll,J<|.j<|A.a a.s,x5,x6,J<|.j h.length,x8]) ?_ ?_ ?_ ?_
  ·exact⟨rfl,c.b,aA,hi,JJ,rfl⟩
  ·rintro eC G h' ⟨rfl,_⟩;exact .inl TQ
  ·rintro G h' ⟨rfl,es,x8,_,_,d⟩
   apply cQ d;intro rr
   refine fC _ K' B e4 N1 ?_ I e3
   exact T'.d (X:=[]) ((NX.i N.g).q u1) C.1 λ_ m=>by exact bR m
  ·rintro w bo G h' ⟨rfl,es,x8,JL,hf,d⟩ K2 kn kr
   apply cQ d;intro rr
   clear N1 hi W' T' N;cases JL with
   |c hw JL=>
    rename_i e es
    refine aG hw λz bT hz=>?_;rw [bT]
    haveI JM:=hf e<|.head _
    refine aG (JM.b F) λcf of hs=>?_
    haveI hN:At K' z e.2.1:=hz
    refine bS rfl ?_
    refine lH W1 hN of<|
      bS rfl ?_
    refine lH W1 hN of ?_
    obtain⟨nm2,bs2,aJx,cc2,fi2,wH,-⟩:=(W1.b.d _ _ of.a).b
    refine aL wH ?_
    rw [hs]
    exact(kn _ _ ⟨rfl,es,J _,JL,λe m=>hf e<|.tail _ m,rfl⟩).1
 ·intro w bo G h q0;refine q0 _ λqs ps K' B x5 x6 e e2 N T' I e3 e4 d=>?_;intro K2 kn kr
  apply cQ d;intro rr
  induction qs using bk with
  |nil=>exact hI e
  |cons o qs=>
   haveI cG:=(dP e).1;haveI bT:=(dP e).2;rw [cG];clear q0;subst bT
   have mo:o∈c.a:=e2▸dT _ (.head _)
   refine ym (uB o mo) λo0 y hy uD JI jp=>?_
   obtain⟨j5,tw,yJ⟩:=Dx λe=>by rw [e]at mo;exact bR mo
   have W':=W.d N hX
   refine cp ((W'.b.f _ _ hy).b) λw1 pn pf yL _=>
     aL W'.b.b<|
     lI W' hy ?_
   haveI wG:h[ll]?=J (.a re):=N.n _ _ hl D.1 (λm=>by
    refine aU (dA.mp m) ?_ ?_
    ·intro e;exact D.2.1 e
    ·intro m;exact D.2.2 (bg.mp m))
   haveI uE:=e2▸Du
   haveI TR:o∉ps:=λm=>(iu.mp uE).2.2 o m o (.head _) rfl
   have TS:o∉B.1.map Prod.fst:=by
    rw [e3];exact λm=>(eO.mp m).elim (Af o mo) TR
   have X:∀u∈x,∀o∈P.e u,o∈B.1.map Prod.fst:=λu hu o ho=>by rw [e3];exact dI _<|yJ u hu o ho
   haveI sl':B.1.length<1000:=by
    haveI h1:=congrArg gB e3
    haveI h2:=congrArg gB e2
    rw [ai,b9,ai]at h1
    rw [b9]at h2
    exact(fe [_,_,_,_,_] Y dz [.t (.a Z aB) dz,.e Y<|.a Z aI,.g aB<|.a aI bF] U yK h1 h2)
   haveI go:aa (n+36) 53 [.j A.s,.j v,av,.j ll,.d (o:Nat)] h λ_ h=>K2 .a [J<|.j A.s,J<|.j v,J av,J<|.j ll,J<|.j<|A.a a.s,J<|.d (o:Nat),J<|.j<|A.b o,aA,aA] h:=by
    refine Xd W' T' I C wG D.1 (nL.b N) hy o0 uD JI jp (ha.b N) j5 tw TS X sl' ?_
    intro H3 K3 N3 T3
    refine(kn _ _ λ_ k=>k qs (ps++[o]) K3 _ _ _ rfl (by rw [e2,d6];rfl) (N.f N3) T3 (I.g TS λo' p e=>?_) ?_ ?_ rfl).1
    ·obtain⟨u,hu,hm,-⟩:=Ls<|Xe e
     exact X u hu o' hm
    ·rw [Xc,e3,d6]
    ·rw [<-e4]
     unfold jd
     rw [H_,hy]
   rcases jp with e|e<;>(rw [e]at yL;refine aL yL ?_;refine bK (x:=V.d 2) rfl ?_;refine aL yL ?_;refine bK (x:=V.d 0) rfl ?_;exact go)
end
theorem qC(P:Nat->aS->Hp->Prop)(e:A=(cF n).map f)(C:P 0 G h)(D:∀G h,P n G h->R .a G h)
  (B:∀i G h,i<n->P i G h->∀K':Fl->aS->Hp->Prop,(∀a c,P (i+1) a c->K' .a a c/\K' .c a c)->(∀r a c,R (.b r) a c->K' (.b r) a c)->ee (t.b (f i) G) λa=>body a h K'):
  xL body t A aA A G h R:=by
 rw [e];refine fp (λm G h=>∃i,A3 (i<=n) (m=((cF n).map f).drop i)<|P i G h) ⟨0,jI _,rfl,C⟩ (λ_ _ _ _=>trivial) ?_ ?_;·rintro G h ⟨i,d,e,p⟩;haveI:=congrArg gB e;rw [aG9,ai,te]at this;have:i=n:=bj d<|Nat.sub_eq_zero_iff_le.mp this.symm;clear e d B;clear e;subst this;exact D _ _ p
 rintro v bo G h ⟨i,d,e,p⟩ K' H I;haveI l:=congrArg gB e;rw [aG9,ai,te,rV]at l;have q:i<n:=(jA Y Z [.e bN aI,.e (.a aI Y) Z] U l<|bY<|aV Y Z [.l Y Z] U d)
 have w:i<((cF n).map f).length:=by rw [ai,te];exact q
 rw [aHa w]at e;haveI x:=(dP e).1;haveI z:=(dP e).2;rw [x];clear e l;subst z;rw [List.getElem_map,aHb];exact B i G h q p K' (λa c Q=>H a c ⟨i+1,q,rfl,Q⟩) I
theorem si(n:Nat):iT (pM 0 (n:Nat))=(cF n).map λi=>aP i:=by delta iT pM;rw [iv];have:((n:Int)-0).toNat=n:=aHc n 0;rw [this];exact mL λi _=>congrArg V.d<|aHd _
noncomputable def cr(i:Nat):Ty:=.o i (.j 0)<|.j 1
structure FU(σ:az)(aW:Nat->List Ty)(i:Nat):Prop where
 a:jc σ<|cr i::aW i
 b:66<=i/\i<80
 d:∀s∈aW i,ur σ s
 c:∀o∈σ.e (cr i),sd σ (cr i) o
structure Bx(σ:az)(aW:Nat->List Ty)(us:List Ty):Prop where
 g:∀p a,us[p]?=J a->∃c,A4 (eZ σ a c) (c.d=1) (∀e∈c.b,dY e.2.1)<|(a.p=[]/\c.a=[])\/(FU σ aW a.s/\c.g=2/\a.p≠[]/\∀s∈aW a.s,∀o∈σ.e s,∃b∈us.take p,o∈σ.e b)
 d:(us.flatMap σ.e).Nodup
 f:(us.flatMap σ.e).length<1000
noncomputable def fP(d:az)(c:Nat->List Ty)(e:List Ty):kT:=e.foldl (λs a=>jd d (cr a.s) (c a.s) a (d.e a) s) ([],[])
section
theorem Xh(e:H[p]?=J (.b 568 []))(c:H.length=p+1)(q:∀d,(∀l o,H[l]?=J o->l≠p->d[l]?=J o)->d.length=H.length+2->d[p]?=J (.b 568 [(46,a),(0,.j<|p+1),(47,.j<|p+2)])->d[p+1]?=J (.a [])->d[p+2]?=J (.d [])->Q .o d):
  aa (n+1) 48 [.j p,a] H Q:=by
 refine ce (fn:=Pi) rfl rfl ?_;intro rr;refine aL e ?_;have u:am H p (.b 568 [(46,a)]) (H.set p<|.b 568 [(46,a)]):=am.d e;revert u;refine(?_:_->dC _ _ _ (H.set p<|.b 568 [(46,a)]) _);generalize H.set p _=P;intro B;refine bX λw x=>?_;have l1:P.length=p+1:=by rw [B.c,c]
 rw [l1];haveI D:=x.a _ _ B.b;refine aL D ?_;have u:am w p (.b 568 [(46,a),(0,.j<|p+1)]) (w.set p<|.b 568 [(46,a),(0,.j<|p+1)]):=am.d D;revert u;refine(?_:_->dC _ _ _ (w.set p<|.b 568 [(46,a),(0,.j<|p+1)]) _);generalize w.set p _=R;intro z;refine bX λA m=>?_;have t:R.length=p+2:=by rw [z.c,x.c,l1]
 rw [t];haveI I:=m.a _ _ z.b;refine aL I ?_;haveI u:am A p (.b 568 [(46,a),(0,.j<|p+1),(47,.j<|p+2)]) (A.set p<|.b 568 [(46,a),(0,.j<|p+1),(47,.j<|p+2)]):=am.d I;revert u;refine(?_:_->Q .o (A.set p<|.b 568 [(46,a),(0,.j<|p+1),(47,.j<|p+2)]));generalize A.set p _=W;intro v;refine q W (λl o h C=>v.a _ _ (m.a _ _<|z.a _ _ (x.a _ _<|B.a _ _ h C) C) C) (by rw [v.c,m.c,t,c]) v.b ?_ ?_;·refine v.a _ _ (m.a _ _<|z.a _ _ ?_<|a9<|gE c c)<|a9<|gE c c;haveI:=x.b;rw [l1]at this;exact this
 refine v.a _ _ ?_<|a9<|gE t t;haveI:=m.b;rw [t]at this;exact this
end
section
theorem Lu{c:List d}{p:Nat}{a:d}(h:c[p]?=J a):c.take (p+1)=c.take p++[a]:=by rw [aHe,h];rfl
theorem FV:fP d c (e++[a])=jd d (cr a.s) (c a.s) a (d.e a) (fP d c e):=oW
def Xi(k:Nat)(H:Hp)(D:List Ty)(e:az)(A:eW)(v:V)(a:Nat->List Ty)(l:Nat)(m:List V)(d:List Ty)(p:Nat)(G:aS)(h:Hp):Prop:=∀c:Prop,(∀(K':List Ty)(n:Option V)(q:NX k [H.length+1,H.length+2] H D h K')(t:VT h K' H.length v<|fP e a<|d.take p)(w:pC<|fP e a<|d.take p)(x:(fP e a<|d.take p).1.map bI=(d.take p).flatMap e.e)(z:h[l]?=J (.a m))(B:bB K' m d)(C:G=[J<|.j A.s,J v,J<|.j H.length,J<|.j l,n]),c)->c
theorem FW{P:List Ty}(F:jR x)(W:Wo k x A H K)(h:At K v t)(rc:jc x P)(hh:P.head?=J t)(ht2:2<=P.length)(hv:Bx x d P.reverse)
  (q:∀H' K' va,Nx k H K H' K'->H.length<=va->VT H' K' va v (fP x d P.reverse)->pC (fP x d P.reverse)->(fP x d P.reverse).1.map bI=P.reverse.flatMap x.e->Q (.j va) H'):
  aa (n+38) 51 [.j A.s,v] H Q:=by
 refine ce (fn:=Pm) rfl rfl ?_;intro rr;have ko:=bw W.c.d;have tp:=W.b.p.2.2.2.2.2.1;have tk:=W.b.p.2.2.2.2.2.2;refine bX λh0 u0=>?_;have N0:Nx k H K h0 K:=(NX.i W.c).q u0;refine Xh (n:=n+36) u0.b u0.c ?_;intro h1 f1 l1 o1 r1 s1;have N1:Nx k H K h1 K:=by
  haveI kt:KT h1 k K:=⟨W.c.a,f1 _ _ N0.g.b<|aj<|uR ko,f1 _ _ N0.g.e<|aj<|be aR Z [.t bu Z] U ko,f1 _ _ N0.g.f<|aj<|be cm Z [.t bu Z] U ko,f1 _ _ N0.g.h<|aj<|be fL Z [.t bu Z] U ko,f1 _ _ N0.g.j<|aj<|be fZ Z [.t bu Z] U ko,f1 _ _ N0.g.d<|aj ko⟩
  exact⟨kt,⟨[],(cI _).symm⟩,by rw [l1,u0.c];exact(dF _<|dF _<|aK _),λl o e _ _=>f1 _ _ (u0.a _ _ e) (by have:=bw e;exact(aj this))⟩
 refine⟨rfl,?_⟩;refine FN (n:=n+3) (W.n N1) (h.b N1) rc hh ?_;intro h2 K2 lv ws N2 j5 R iy;haveI kh:=N1.f N2;have X:h1.length=H.length+3:=by rw [l1,u0.c]
 have B:ws.length=P.length:=by rw [iy.c,h_]
 have tl:=rc.b;haveI ul:P.reverse.length=P.length:=h_;generalize eu:P.reverse=C at iy hv ul q;refine gR j5 rfl (cN<|mZ B tl) ?_;refine dt (show ¬((ws.length:Nat):Int)=1 from(mt hZ.mp<|a9<|be au Y [.l dB Z,.g Y Z] U ht2 B))<|gR j5 rfl (cN<|mZ B tl) ?_;refine qB ws.length rfl (cN<|mZ B tl) ?_;refine qC (Xi k H K x A v d lv ws C) (si _) ?_ ?_ ?_;·refine λ_ k=>k K2 aA (NX.v kh) ?_ ⟨λo i e=>(nomatch e),aK _,fU⟩ rfl j5 iy rfl;refine VT.d (H:=h1) (K:=K) (X:=[]) ⟨o1,r1,(λr m=>(nomatch m)),s1⟩ N2 (aH tk tp) λ_ m=>by exact bR m
 ·intro G h q0;refine q0 _ λK' x4 N T ok e1 _ _ fB=>?_;apply cQ fB;intro rr;have:C.take ws.length=C:=DT<|Kh ul B;rw [this]at T ok e1;refine q h K' _ (N.y λl m=>?_) (aK _) T ok e1;refine aU (dA.mp m) ?_ ?_;·intro fX;rw [fX];exact(dF _<|aK _)
  intro m;rw [bg.mp m];exact(dF _<|aK _)
 intro p G h hp q0;refine q0 _ λK' x4 N T ok e1 hl hw fB=>?_;intro K3 kn kr;apply cQ fB;intro rr;haveI hN:Nx k H K h K':=N.y λl m=>by
  refine aU (dA.mp m) ?_ ?_;·intro fX;rw [fX];exact(dF _<|aK _)
  intro m;rw [bg.mp m];exact(dF _<|aK _)
 have Wn:=W.n hN;obtain⟨a,ha⟩:∃a,C[p]?=J a:=⟨_,f7<|eY (nY hp B) ul⟩
 refine aG (hw.j ha) λav g1 g2=>qm (hv.g p a ha) λc oa hs him uF=>?_;have D:=FS oa;refine du hl g1 (ae<|bz (nY hp B) tl)<|Lg (n:=n+2) (ts:=cr a.s::d a.s) Wn hl (.inr<|aH (cM (aH tk tp) X) R) hw (cN<|mZ ul tl) ha oa ⟨hs,uF.elim (λe=>.inl e.1) λe=>.inr ⟨e.1.b.1,e.1.b.2,e.2.1⟩⟩ (uF.elim (λe=>.inl e.1) λe=>.inr ⟨e.1.a,rfl⟩) ?_;intro h4 K4 ll re N4 JN ll4 z;haveI W4:=Wn.n N4;haveI T4:=T.d N4 (aH tk tp) λ_ m=>by exact bR m
 haveI JO:=N4.b hl<|.inr<|aH (cM (aH tk tp) X) R;haveI TO:=hw.b N4;haveI hln:=N.j;haveI JP:H.length+2<ll:=by have:=bw T.c;exact(bz this ll4)
 haveI pl:C.take (p+1)=C.take p++[a]:=Lu ha;have fm:(C.take p).flatMap x.e++x.e a=(C.take<|p+1).flatMap x.e:=by rw [pl,nD];exact congrArg _ (cI _).symm
 haveI aJE:C.flatMap x.e=(C.take<|p+1).flatMap x.e++(C.drop<|p+1).flatMap x.e:=by rw [<-nD,aHf]
 haveI nd:=hv.d;haveI fl:=hv.f;rw [aJE,<-fm]at nd fl;have TU:=(iu.mp nd).1;rw [b9]at fl;haveI ksl:(fP x d<|C.take p).1.length+c.a.length<1000:=by have:=congrArg gB e1;rw [ai]at this;have w:=fl;rw [b9,D]at w;omega
 haveI fC:∀iz,bB K4 re (iz.reverse++[if a.p=[]then a else cr a.s])->(a.p=[]->c.a=[])->(a.p≠[]->iz=d a.s)->aa (n+37) 52 [.j A.s,.j H.length,av,.j ll] h4 λ_ h=>K3 .a [J<|.j A.s,J v,J<|.j H.length,J<|.j lv,J<|aP p] h:=by
  intro iz JQ hz hu;haveI JR:a.p=[]->c.a=[]:=hz;refine Xg (n:=n) F W4 T4 ok ⟨(aH tk tp),tp⟩ JN ⟨.inr<|nV (aH tk tp) JP,(a9<|be aR Z [.t cm Z] U JP),(a9 JP)⟩ JQ (g2.b N4) oa ?_ ?_ him ?_ ?_ ksl ?_
  ·intro o ho;by_cases e:a.p=[];·rw [JR e]at ho;exact bR ho
   rw [if_neg e];refine aU uF ?_ ?_;·intro I;exact absurd I.1 e
   intro I;have:=I.1.c o;rw [show x.e (cr a.s)=x.e a from rfl,D]at this;exact this ho
  ·rw [<-D];exact(iu.mp TU).2.1
  ·intro wI;rcases uF with I|I;·exact absurd I.2 wI
   haveI hae:a.p≠[]:=λe=>wI<|JR e;rw [hu hae];haveI:=I.1.a.b;refine⟨I.1.d,by rw [rV]at this;exact(wj this),λu hu o ho=>?_⟩;rw [e1];refine aG (I.2.2.2 u hu o ho) λb hb hbo=>rU.mpr ⟨b,hb,hbo⟩
  ·intro o ho;rw [e1];rw [<-D]at ho;exact λm=>(iu.mp TU).2.2 o m o ho rfl
  intro H5 K5 s' es N5 T5 ok5 e5;haveI JS:s'=fP x d (C.take<|p+1):=by
   rw [es,pl,FV,D];by_cases e:a.p=[];·rw [JR e];rfl
   rw [if_neg e,hu e]
  refine(kn _ _ λ_ k=>k K5 (J<|aP p) ((N.f<|NX.v N4).f N5) (JS▸T5) (JS▸ok5) ?_ ?_ (TO.b N5) rfl).1;·rw [<-JS,e5,e1,<-fm,D]
  exact N5.n _ _ JO (.inr<|aH (cM (aH tk tp) X) R) λm=>by
    refine aU (dA.mp m) ?_ ?_;·intro e;exact(nQ [_,_,_] [.l Y Z,.g Y<|.p 2 3,.e Z bN] U R X e)
    intro m;haveI:=bg.mp m;exact(nQ [_,_,_] [.l Y Z,.g Y<|.p 2 3,.e Z<|.p 2 2] U R X this)
 by_cases e:a.p=[]
 ·rw [if_pos e]at z;refine fC (C.take p).reverse ?_ (λ_=>?_) λh=>absurd e h;·rw [if_pos e,IA,<-pl];exact z
  refine aU uF ?_ ?_;·intro I;exact I.2
  intro I;exact absurd e I.2.2.1
 rw [if_neg e]at z;refine fC (d a.s) ?_ (λh=>absurd h e) λ_=>rfl;rw [if_neg e];rw [jn]at z;exact z
end
set_option backward.match.sparseCases false
noncomputable def a_(f:Ty):Nat:=if f.s=64 then 1 else 2
structure qD(σ:az):Prop where
 m:∃x,A4 (σ.d 1=J x) (x.c=14) (x.a=.j 0)<|x.d=64
 j:∃x,σ.d 2=J x/\x.c=14/\x.a=.j 0/\x.d=65
theorem Ly(F:jR l)(h:dY f)(o:eZ l f c):c.a=[a_ f]:=by
 obtain⟨a,-,rfl|rfl⟩:=h;·refine yl F.i λm d n p q e t=>?_;have:=o.a;rw [show(Ty.m 64 a).s=64 from rfl,d]at this;(replace this:=ao this;rw [<-this]);exact e
 refine yl F.j λm d n p q e t=>?_;have:=o.a;rw [show(Ty.m 65 a).s=65 from rfl,d]at this;(replace this:=ao this;rw [<-this]);exact e
theorem By(c:qD p)(h:dY f):∃x,A4 (p.d (a_ f)=J x) (x.c=14) (jQ f.p x.a) (x.a=.j 0):=by
 obtain⟨a,d,rfl|rfl⟩:=h;·refine qm c.m λx m n l q=>⟨x,m,n,l▸⟨rfl,by induction a<;>first|exact d|cases d|(rcases vm.mp (show(_==_||_==_)=true from d)with e|e<;>(obtain rfl:=oT e;rfl)),(by decide:0<=20)⟩,l⟩
 refine sQ c.j λx m n l q=>⟨x,m,n,l▸⟨rfl,by induction a<;>first|exact d|cases d|(rcases vm.mp (show(_==_||_==_)=true from d)with e|e<;>(obtain rfl:=oT e;rfl)),(by decide:0<=20)⟩,l⟩
theorem Lz(f:Ty):0<a_ f/\a_ f<3:=by unfold a_;split<;>decide
noncomputable def nr(t f:Ty)(d:Nat)(e:Nat×Ty×Nat):Bool:=aJ (e.2.2=d)&&aJ (e.2.1.e t.p=f)
noncomputable def d_(t f:Ty)(d:Nat)(a:List<|Nat×Ty×Nat):Nat:=match a.find? (nr t f d)with|some e=>e.1|none=>0
noncomputable def kU(a:az)(t f:Ty)(d o:Nat):Bool:=match a.d o,a.d d with|some x,J y=>ng true x t y f|_,_=>false
noncomputable def qu(a:az)(t f:Ty)(d:Nat)(c:List Nat):Nat:=match c.find? (kU a t f d)with|some o=>o|none=>0
noncomputable def mh(a:az)(t f:Ty)(d:Nat)(c:dh):Nat:=if d_ t f d c.b=0 then qu a t f d c.a else d_ t f d c.b
section
variable{Q:V->Hp->Prop}
theorem L_(F:jR D)(a:qD D)(W:Wo k D A H K)(h:At K v f)(p:dY f)(q:∀t,Nx k H K t K->t[H.length]?=J (.a [aP<|a_ f])->Q (.j H.length) t):
  aa (n+4) 62 [.j A.s,v] H Q:=by
 refine ce (fn:=Px) rfl rfl ?_;intro rr;refine aG (p.b F) λc o hs=>?_;haveI z:=Ly F p o;haveI X:=W.b.o.2.2.2.1 _ _ o.a;haveI ko:=bw W.c.d;refine lH W h o ?_;obtain⟨nm,bs,iL,cc,fi,ho,-⟩:=(W.b.d _ _ o.a).b;refine aL ho ?_;haveI l:=(W.b.d _ _ o.a).f;rw [z]at l;refine fq l<|bX λI m=>?_;have P:Nx k H K I K:=(NX.i W.c).q m;haveI d:=m.a _ _ l;haveI B:=W.n P;obtain⟨x,R,C,-⟩:=By a p;refine cp ((B.b.f _ _ R).b) λw pn pf e _=>?_;rw [C]at e;refine⟨⟨.inl d,?_⟩⟩;refine aL B.b.b<|lI B R<|aL e<|bK (x:=V.d 0) rfl ?_;refine Fb m.b (by decide) ?_;have u:=am.d (o:=.a<|[]++[aP<|a_ f]) m.b;revert u;generalize I.set H.length _=h1;intro u;exact⟨.inl<|u.a _ _ d (by haveI:=bw l;exact(aj this)),q h1 (P.s u (.inr<|aV cJ Z [.t bu Z] U ko)<|.inr<|aK _) u.b⟩
set_option tactic.hygienic true in
theorem MA(W:Wo k σ A H K)(h:At K v t)(o:eZ σ t c)(hf:At K fv f)(q:∀H' K',Nx k H K H' K'->Q (aP<|d_ t f d c.b) H'):
  aa (n+32) 65 [.j A.s,v,fv,.d d] H Q:=by
 refine ce (fn:=P_) rfl rfl ?_;intro rr;refine aL W.b.b<|xF W.c h λas ri=>lH W h o ?_;obtain⟨nm,bs,iL,cc,fi,ho,-⟩:=(W.b.d _ _ o.a).b;refine aL ho<|aG ((W.b.d _ _ o.a).j) λvs e hi=>?_;haveI yI:=W.b.o.2.2.2.1 _ _ o.a;refine fq e<|fp (λP G h=>X5 λ(es:List<|Nat×Ty×Nat)(K':List Ty)(x5 x6 x7:Option V)=>A5 (jb (xI K') P es) (Nx k H K h K') (∀e∈es,e∈c.b) (d_ t f d es=d_ t f d c.b)<|G=[J<|.j A.s,J v,J fv,J<|.d d,J<|V.m as,x5,x6,x7]) ?_ ?_ ?_ ?_;·exact⟨c.b,K,aA,aA,aA,hi,NX.i W.c,λ_ m=>m,rfl,rfl⟩
 ·rintro P G h ⟨_,_,_,_,_,_,N,_⟩;exact .inl<|N.b e<|.inr<|dF _ yI
 ·rintro G h ⟨es,K',x5,x6,x7,h1,N,-,h2,p⟩;apply cQ p;intro rr;cases h1;have:=q h K' N;rw [<-h2]at this;exact this
 rintro w bo G h1 ⟨es,K',x5,x6,x7,B,N,hm,h2,p⟩ K1 kn kr;apply cQ p;intro rr;cases B with
 |c hw B=>
  rename_i e es;refine aG hw λz a hz=>?_;rw [a];haveI W1:=W.n N;have C:nr t f d e=false->∀h3 D,Nx k H K h3 D->K'=K'->jb (xI D) bo es->K1 .a [J<|.j A.s,J v,J fv,J<|.d d,J<|V.m as,J<|aP e.1,J z,J<|aP e.2.2] h3:=by intro hb h3 D I _ R;refine(kn _ _ ⟨es,D,_,_,_,R,I,λe m=>hm e<|.tail _ m,?_,rfl⟩).1;rw [<-h2];unfold d_;rw [gA,hb]
  by_cases hd:e.2.2=d
  ·refine jC (show((e.2.2:Nat):Int)=(d:Nat)from(congrArg ip<|bj (aV Y Z [.e Y Z] U hd)<|aV Y Z [.g Z Y] U hd))<|
     aL W1.b.b<|
     fk (o.g e<|hm e<|.head _) λc1 c2 c3=>?_
   haveI yH:n+31=(n+(21-e.2.1.v))+e.2.1.v+10:=(bj (bb (.p 0 31) (.a (.a (.a Y Z) aB) iF) [.g (.a Z aB) lq] U<|bY<|cA Y lq [.l Y js] U c3)<|bb (.a (.a (.a Y Z) aB) iF) (.p 0 31) [.e (.a Z aB) lq] U<|bY<|cA Y lq [.l Y js] U c3)
   rw [yH];refine zB W1.c hz (ri.b N) c1 c2 (uo t) (cY c3) ?_;intro H3 D w3 I a3;have X:=(hf.b N).b I;refine oE a3.i λi a=>?_;subst a;refine oE X.i λj a=>?_;clear kn p hf;subst a;have l:=a3.c X;rw [V.d.injEq]at l;by_cases he:e.2.1.e t.p=f
   ·refine jC (show((i:Nat):Int)=(j:Nat)from l.mpr he)<|
      kr _ _ _ ?_
    haveI:=q H3 D<|N.f I;rw [<-h2]at this;haveI ex:d_ t f d (e::es)=e.1:=by
     unfold d_;have:nr t f d e=true:=by unfold nr;rw [decide_eq_true hd,decide_eq_true he];rfl
     rw [gA,this]
    rw [ex]at this;exact this
   refine dt (show ¬((i:Nat):Int)=(j:Nat)from λx=>he<|l.mp x)<|C (by unfold nr;rw [decide_eq_false he,IB]) _ _ (N.f I) rfl (B.e λ_ _ ⟨w,e,h⟩=>⟨w,e,h.b I⟩)
  refine dt (sV hd)<|C (by unfold nr;rw [decide_eq_false hd,DU]) _ _ N rfl B
end
set_option backward.match.sparseCases true
noncomputable def cH{α:Type}(es:List<|Ty×α)(k:Ty):Option α:=(es.find? λe=>aJ<|e.1=k).map (·.2)
noncomputable def gj{α:Type}(es:List<|Ty×α)(k:Ty)(v:α):List (Ty×α):=if(cH es k).isSome then es.map (λe=>if e.1=k then(e.1,v)else e)else es++[(k,v)]
noncomputable def cW(a:List Ty)(t:Ty):V:=V.m [cP a t,aP<|a_ t]
theorem nw:cH es k=aA↔k∉es.map Prod.fst:=by
 unfold cH;rw [Hx,xz];constructor;·intro h m;refine aG (bc.mp m) λe a c=>h e a (decide_eq_true c)
 intro h e m d;exact h<|bc.mpr ⟨e,m,of_decide_eq_true d⟩
theorem Bz{v:α}:(gj es k v).map bI=if k∈es.map bI then es.map bI else es.map bI++[k]:=by
 unfold gj;by_cases m:k∈es.map bI
 ·have:(cH es k).isSome=true:=by
   induction e:cH es k with
   |none=>exact absurd m<|nw.mp e|some _=>rfl
  rw [if_pos this,if_pos m,iv];refine mL λe _=>(?_:(if e.1=k then(e.1,v)else e).1=e.1)
  split<;>rfl
 rw [nw.mpr m,if_neg m,if_neg (show ¬(aA:Option α).isSome=true from nofun),cL];rfl
theorem MB(h:e∈gj es k v):e∈es\/e=(k,v):=by
 unfold gj at h;split at h
 ·refine aG (bc.mp h) λd c a=>?_;split at a;·rename_i q;rw [<-a];rw [q];exact .inr rfl
  rw [<-a];exact .inl c
 refine aU (eO.mp h) ?_ ?_;·intro m;exact .inl m
 intro m;exact .inr<|bg.mp m
theorem FX(a:s∈d)(c:t∈d):cW d s=cW d t↔s=t:=
 ⟨λh=>(uk a).mp (V.r.inj h).1,λh=>by rw [h]⟩
structure FD{α:Type}(g:List Ty->α->V)(H:Hp)(K:List Ty)(l:Nat)(fd:List (Ty×α)):Prop where
 c:H[l]?=J (.e<|fd.map λe=>(cW K e.1,g K e.2))
 i:∀e∈fd,e.1∈K
 j:∀e∈fd,∀r,g (K++r) e.2=g K e.2
 n:(fd.map bI).Nodup
section
variable{fd:List (Ty×α)}
theorem FD.h(D:FD g H x l fd)(a:NX k X H x q K')(t:k+6<=l)(w:l∉X):FD g q K' l fd:=by
 refine oE a.t λr d=>?_;rw [d];refine⟨?_,λe m=>dI _<|D.i e m,λe m s=>?_,D.n⟩
 ·have:(fd.map λe=>(cW (x++r) e.1,g (x++r) e.2))=fd.map λe=>(cW x e.1,g x e.2):=by
   refine mL λe m=>?_;unfold cW;rw [lF<|D.i e m,D.j e m r]
  rw [this];exact a.n _ _ D.c (.inr t) w
 rw [d6,D.j e m,D.j e m]
theorem FD.o(D:FD g H x l fd)(w:t∈x):gK (fd.map λe=>(cW x e.1,g x e.2)) (cW x t)=(cH fd t).map (g x):=by
 haveI a:=D.i;clear D;induction fd with
 |nil=>rfl|cons e fd d=>
  unfold gK cH at d⊢;rw [g9,gA,gA];by_cases q:e.1=t;·rw [decide_eq_true q];rw [decide_eq_true<|congrArg _ q];rfl
  rw [decide_eq_false q];rw [decide_eq_false λz=>q<|(FX (a e<|.head _) w).mp z];exact d λe m=>a e<|.tail _ m
theorem FD.A(D:FD g H w l fd)(q:mA w):fd.length<1000000:=by
 haveI:=sY (fd.map bI) w D.n λa m=>by refine aG (bc.mp m) λe t d=>?_;rw [<-d];exact D.i e t
 rw [ai]at this;exact lV this<|sZ q
theorem FD.p(D:FD g H W l fd)(C:t∈W)(I:∀r,g (W++r) x=g W x) (u:am H l (.e<|ik (fd.map λe=>(cW W e.1,g W e.2)) (cW W t)<|g W x) P):FD g P W l (gj fd t x):=by
 refine⟨?_,λe m=>?_,λe m=>?_,?_⟩
 ·rw [u.b];congr 2;delta ik gj;rw [D.o C,RX];by_cases q:(cH fd t).isSome=true
  ·rw [if_pos q,if_pos q,iv,iv];refine mL λe m=>(?_:(if cW W e.1=cW W t then(cW W e.1,g W x)else(cW W e.1,g W e.2))=(cW W (if e.1=t then(e.1,x)else e).1,g W (if e.1=t then(e.1,x)else e).2))
   by_cases z:e.1=t;·rw [if_pos z,if_pos<|congrArg _ z]
   rw [if_neg z,if_neg λw=>z<|(FX (D.i e m) C).mp w]
  rw [if_neg q,if_neg q,cL];rfl
 ·refine aU (MB m) ?_ ?_
  ·intro m;exact D.i e m
  intro d;rw [d];exact C
 ·refine aU (MB m) ?_ ?_
  ·intro m;exact D.j e m
  intro d;rw [d];exact I
 rw [Bz];split;·exact D.n
 rename_i q;exact iu.mpr ⟨D.n,gN.mpr ⟨c_,fU⟩,λa Q b R=>by rw [bg.mp R];exact λe=>q<|e▸Q⟩
theorem FD.v(D:FD g H d l fd)(a:mA d):qL (.e<|fd.map λe=>(cW d e.1,g d e.2)) (cW d t) x=J (.e<|ik (fd.map λe=>(cW d e.1,g d e.2)) (cW d t) x):=by refine(?_:(if(cW d t).B&&aJ ((fd.map _).length<1000000)then _ else _)=_);rw [decide_eq_true<|by rw [ai];exact D.A a];rfl
theorem FD.y(D:FD g H d l fd)(a:t∈d):eK bW H .b (cW d t) (.j l)=J (cH fd t).isSome:=by refine(f0 (f:=mG<|cW d t) D.c).trans<|(Nr rfl).trans ?_;rw [D.o a,RX]
theorem FY{c:List Ty}:(c.map<|cP d).all V.p=true:=by rw [eI];intro x m;refine aG (bc.mp m) λt _ a=>?_;rw [<-a];rfl
theorem Xj(e:H[l]?=J (.a c))(h:bB w c d)(n:At w v t):eK bW H .b v (.j l)=J (aJ<|t∈d):=by
 rw [n.2];haveI q:c.all V.p=true:=by rw [h.1];exact FY
 refine(f0 (f:=mG<|cP w t) e).trans<|(zb rfl q).trans ?_;congr 1;refine decide_eq_decide.mpr ?_;rw [h.1];constructor;·intro m;refine aG (bc.mp m) λs a p=>?_;rw [(uk<|h.2 s a).mp p]at a;exact a
 intro m;exact bc.mpr ⟨t,m,rfl⟩
theorem B_(e:H[l]?=J (.a a))(h:bB m a c)(d:At m v t):eK bW H .a v (.j l)=J (!aJ (t∈c)):=by refine(?_:(eK bW H .b v<|.j l).map (!·)=_);rw [Xj e h d];rfl
theorem MC{a:List Nat}{o:Nat}(e:H[l]?=J (.a<|a.map aP)):eK bW H .a (aP o) (.j l)=J (!aJ (o∈a)):=by
 haveI q:(a.map aP).all V.p=true:=by rw [eI];intro x m;refine aG (bc.mp m) λt _ c=>?_;rw [<-c];rfl
 refine(congrArg (oV (!·))<|(f0 (f:=mG<|aP o) e).trans<|zb rfl q).trans ?_;show J (!aJ _)=_;congr 2;refine decide_eq_decide.mpr ⟨λm=>?_,λm=>bc.mpr ⟨o,m,rfl⟩⟩;refine aG (bc.mp m) λs d n=>?_;have:s=o:=Int.ofNat.inj<|V.d.inj n;exact this▸d
end
structure CF(σ:az)(t:Ty)(c:dh)(O:List Ty):Prop where
 a:∀e∈c.b,dY e.2.1/\e.2.1∈O/\e.2.2=a_ e.2.1/\e.1∈c.a/\X2 λx y=>A3 (σ.d e.1=J x) (σ.d (a_ e.2.1)=J y)<|ng false x t y e.2.1=true
 b:(c.b.map λe=>e.2.1).Nodup
section
def aAS(k:Nat)(H:Hp)(D:List Ty)(e:az)(A:eW)(v n:V)(t f:Ty)(c:dh)(o:eZ e t c)(d:List V)(G:aS)(h:Hp):Prop:=∀a:Prop,(∀(l m:List Nat)(K':List Ty)(p q:Option V)(w:d=l.map aP)(x:c.a=m++l)(z:Nx k H D h K')(B:∀o∈m,kU e t f (a_ f) o=false) (C:G=[J<|.j A.s,J v,J n,J<|.d (a_ f:Nat),p,q]),a)->a
theorem aAT(F:jR d)(I:qD d)(W:Wo k d A H K)(h:At K v t)(o:eZ d t c)(uB:∀o∈c.a,sd d t o) (ph:At K P f) (hf:dY f) (JT:∃o∈c.a,kU d t f (a_ f) o=true)
  (q:∀H' K',Nx k H K H' K'->Q (aP<|qu d t f (a_ f) c.a) H'):
  aa (n+35) 66 [.j A.s,v,P,.d (a_ f:Nat)] H Q:=by
 refine ce (fn:=QA) rfl rfl ?_;intro rr;refine lH W h o ?_;obtain⟨nm,bs,iL,cc,fi,ho,-⟩:=(W.b.d _ _ o.a).b;refine aL ho ?_;haveI em:=(W.b.d _ _ o.a).f;haveI yI:=W.b.o.2.2.2.1 _ _ o.a;refine fq em<|fp (aAS k H K d A v P t f c o) ?_ ?_ ?_ ?_;·exact λ_ k=>k c.a ([]) K aA aA rfl rfl (NX.i W.c) (λ_ m=>by exact bR m) rfl
 ·intro eC G h D;refine D _ λ_ _ _ _ _ _ _ N _ _=>?_;exact .inl ((W.n N).b.d _ _ o.a).f
 ·intro G h D;refine D _ λz ps K' x4 x5 e B N l C=>?_;apply cQ C;intro rr;obtain rfl:z=[]:=by induction z using bk with|nil=>rfl|cons _ _=>exact iN e
  rw [cI]at B;refine aG JT λo h1 h2=>?_;rw [l o<|B▸h1]at h2;exact ft h2
 intro w bo G h1 D;refine D _ λz ps K' x4 x5 e B N l C=>?_;intro K2 kn kr;apply cQ C;intro rr;induction z using bk with
 |nil=>exact hI e|cons p z=>
  haveI R:=(dP e).1;haveI bT:=(dP e).2;rw [R];clear D;subst bT;haveI mo:p∈c.a:=B▸dT _ (.head _);refine ym (uB p mo) λp0 x X JU Dy jp=>qm (By I hf) λy hy TV uD _=>?_;have W1:=W.n N;refine cp ((W1.b.f _ _ X).b) λw1 pn pf a _=>aL W1.b.b<|lI W1 X ?_;have im:kU d t f (a_ f) p=ng true x t y f:=by unfold kU;rw [X,hy]
  haveI go:aa (n+34) 58 [.j A.s,v,.d (p:Nat),P,.d (a_ f:Nat),.n true] h1 λr h=>qw r h λb=>br b (K2 (.b<|aP p) [J<|.j A.s,J v,J P,J<|.d (a_ f:Nat),J<|.d (p:Nat),J<|.j<|A.b p] h)
    (K2 .a [J<|.j A.s,J v,J P,J<|.d (a_ f:Nat),J<|.d (p:Nat),J<|.j<|A.b p] h):=by
   refine FK W1 (h.b N) (ph.b N) X hy p0 (Lz f).1 JU uD ?_;intro H3 K3 N3;induction hb:ng true x t y f with
   |true=>
    refine kr _ _ _ ?_;haveI:=q H3 K3<|N.f N3;haveI e5:qu d t f (a_ f) c.a=p:=by unfold qu;rw [B,DR,xz.mpr λo m=>by rw [l o m];decide];refine(?_:(match(p::z).find? _ with|some o=>o|none=>0)=_);rw [gA,im,hb]
    rw [e5]at this;exact this
   |false=>exact(kn _ _ λ_ k=>k z (ps++[p]) K3 _ _ rfl (by rw [B,d6];rfl) (N.f N3) (λo m=>(eO.mp m).elim (l o) λm=>by clear a X p0 mo e R B;obtain rfl:=bg.mp m;rw [im];exact hb) rfl).1
  refine aL a ?_;rcases jp with e|e<;>(rw [e]at a;refine aL a ?_;refine bK (x:=V.d 2) rfl ?_;refine aL a ?_;refine bK (x:=V.d 0) rfl ?_;exact go)
end
section
variable{c:dh}
theorem aAU{O:List Ty}{d:Nat}(I:CF a t c O)(h:d_ t f d c.b≠0):d_ t f d c.b∈c.a:=by
 unfold d_ at h⊢;induction e:c.b.find? (nr t f d)with
 |none=>rw [e]at h;exact absurd rfl h|some z=>exact(I.a z<|oX e).2.2.2.1
theorem aAV(l:∃o∈c.a,kU a t f d o=true):qu a t f d c.a∈c.a/\kU a t f d (qu a t f d c.a)=true:=by
 unfold qu;induction e:c.a.find? (kU a t f d)with
 |none=>refine aG l λo m n=>absurd n (xz.mp e o m)|some z=>exact⟨oX e,vr e⟩
theorem aAW{iz O:List Ty}(F:jR σ)(d:qD σ)(W:Wo k σ A H K)(hl:H[ll]?=J (.a p))(t_:ll<k\/k+6<=ll)(v:bB K p<|iz.reverse++[t])(w:iz.length<100)(o:eZ σ t c)(l:∀o∈c.a,sd σ t o) (I:CF σ t c O) (B:At K fv f) (hf:dY f)
  (a:d_ t f (a_ f) c.b≠0\/∃o∈c.a,kU σ t f (a_ f) o=true)
  (q:∀H' K',Nx k H K H' K'->mh σ t f (a_ f) c∈c.a->Q (V.m [aP iz.length,aP<|mh σ t f (a_ f) c]) H'):
  aa (n+36) 64 [.j A.s,.j ll,fv,.d (a_ f:Nat)] H Q:=by
 refine ce (fn:=Pz) rfl rfl ?_;intro rr;haveI C:p.length=iz.length+1:=by rw [v.c,b9,h_];rfl
 haveI gt:(iz.reverse++[t])[iz.length]?=J t:=by rw [kf<|by rw [h_];exact aK _,h_,lX];rfl
 refine aG (v.j gt) λtv t1 t2=>gR hl rfl (be Y eX [.t Z lj,.e Y aY] U w C) ?_;rw [C];haveI e:((iz.length+1:Nat):Int)-1=ip iz.length:=uZ _;refine(?_:CD _ _ [J<|V.j A.s,J<|V.j ll,J fv,J<|.d (a_ f:Nat),J<|V.d<|((iz.length+1:Nat):Int)-1,aA,aA] H _);rw [e];refine⟨⟨1,?_⟩⟩;refine du hl t1 (ae w)<|MA (n:=n+3) W t2 o B ?_;intro H1 K1 D;have W1:=W.n D;have bo:∀b R P,Nx k H1 K1 R P->mh σ t f (a_ f) c=b->b∈c.a->aa (n+35) 57 [.j A.s,tv,aP b,fv,.d (a_ f:Nat)] R λr h=>qw r h λt=>br (!t) False (Q (V.m [aP iz.length,aP b]) h):=by intro b R P X e hb;obtain⟨b0,x,hx,-⟩:=l b hb;obtain⟨y,hy,-⟩:=By d hf;refine Ld (n:=n+34) (W1.n X) hx hy ?_;haveI:=q R P<|D.f X;rw [e]at this;exact this hb
 by_cases m:d_ t f (a_ f) c.b=0;·refine jC (show((d_ t f (a_ f) c.b:Nat):Int)=0 from(congrArg ip<|bj (cA Y bQ [.e Y bQ] U m)<|cA bQ Y [] U)) ?_;haveI a:=a.resolve_left λz=>z m;refine aAT F d W1 (t2.b D) o l (B.b D) hf a ?_;intro H2 P X;haveI m1:=(aAV a).1;haveI r:=bo _ H2 P X (if_pos m) m1;haveI b0:=(l _ m1).1;refine jC (show((qu σ t f (a_ f) c.a:Nat):Int)≠0 from(mt hZ.mp<|a9<|bA bQ Y [.t bQ Y] U b0))<|r
 refine dt (show ¬((d_ t f (a_ f) c.b:Nat):Int)=0 from(mt hZ.mp<|a9<|bA bQ Y [.t bQ Y] U<|nF m)) ?_;haveI r:=bo _ H1 K1 (NX.i D.g) (if_neg m)<|aAU I m;refine jC (show((d_ t f (a_ f) c.b:Nat):Int)≠0 from(mt hZ.mp<|a9<|bA bQ Y [.t bQ Y] U<|nF m))<|r
set_option tactic.hygienic true in
theorem aAX{O:List Ty}(F:jR X)(aO:qD X)(W:Wo k X A H K)(h:At K v t)(o:eZ X t c)(uB:∀o∈c.a,sd X t o) (I:CF X t c O) (hl:H[lo]?=J (.a wo)) (t_:lo<k\/k+6<=lo) (nL:bB K wo O)
  (q:∀H' K',Nx k H K H' K'->Q .o H'):
  aa (n+35) 67 [.j A.s,v,.j lo] H Q:=by
 refine ce (fn:=QB) rfl rfl ?_;intro rr;haveI ko:=bw W.c.d;refine lH W h o<|bX λh0 u0=>?_;have N0:Nx k H K h0 K:=(NX.i W.c).q u0;haveI W0:=W.n N0;obtain⟨nm,bs,iL,cc,fi,ho,-⟩:=(W0.b.d _ _ o.a).b;refine aL ho<|aG ((W0.b.d _ _ o.a).j) λvs e hi=>?_;haveI yI:=W.b.o.2.2.2.1 _ _ o.a;haveI tl:=bw e;refine fq e<|fp (λeC G h'=>X8 λ(es a:List<|Nat×Ty×Nat)(K':List Ty)(x5 x6 x7 x8 x9:Option V)=>A5 (jb (xI K') eC es) (Nx k H K h' K') (c.b=a++es) (FD (λ_(_:Unit)=>.d 1) h' K' H.length<|a.map λe=>(e.2.1,()))<|G=[J<|.j A.s,J v,J<|.j lo,J<|.j<|A.a t.s,J<|.j H.length,x5,x6,x7,x8,x9]) ?_ ?_ ?_ ?_;·exact⟨c.b,[],K,aA,aA,aA,aA,aA,hi,N0,rfl,⟨u0.b,(λ_ m=>by exact bR m),(λ_ m=>by exact bR m),fU⟩,rfl⟩
 ·rintro eC G h' ⟨_,_,K',_,_,_,_,_,_,N,_⟩;refine aG ((W.b.d _ _ o.a).j) λyM e' r7=>?_;haveI:=u0.a _ _ e';rw [e]at this;rw [(Mine.O.a.inj<|ao this)];exact .inl<|N.b e'<|.inr<|dF _ yI
 ·rintro G h' ⟨es,a,K',x5,x6,x7,x8,x9,_,N,_,_,C⟩;apply cQ C;intro rr;exact q _ K' N
 rintro w bo G h1 ⟨es,a,K',x5,x6,x7,x8,x9,P,N,ed,D,C⟩ K1 kn kr;apply cQ C;intro rr;cases P with
 |c hw P=>
  rename_i e es;refine aG hw λz R l=>?_;rw [R];have l:At K' z e.2.1:=l;have d:=W.n N;obtain⟨r1,r2,r3,r4,x,y,hx,hy,r5⟩:=I.a e<|ed▸dT _ (.head _);refine aG (r1.b F) λcf of hs=>ym (uB _ r4) λb0 x' p JU Dy JF=>?_;rw [hx]at p;(replace p:=ao p;clear Dy;subst p);refine lH d l of ?_;obtain⟨nm2,bs2,aJx,cc2,fi2,wH,-⟩:=(d.b.d _ _ of.a).b;refine aL wH ?_;rw [hs];haveI rh:=N.b hl t_;haveI nd:=I.b;rw [ed,cL]at nd;haveI un:e.2.1∉(a.map λe=>e.2.1):=λm=>(iu.mp nd).2.2 _ m e.2.1 (bc.mpr ⟨e,.head _,rfl⟩) rfl;have en:cH (a.map λe=>(e.2.1,())) e.2.1=none:=nw.mpr<|by rw [iv];exact un
  haveI qd:V.m [z,aP e.2.2]=cW K' e.2.1:=by unfold cW;rw [l.2,r3]
  refine oE l.i λzi R=>?_;clear hw;subst R;refine bK (B_ rh (nL.b N) l) ?_;rw [decide_eq_true r2];refine aL wH ?_;haveI JV:=(d.b.d _ _ of.a).f;refine bK (MC JV) ?_;haveI m2:e.2.2∈cf.a:=by rw [Ly F r1 of,r3];exact .head _
  rw [decide_eq_true m2];obtain⟨nm3,bs3,aMW,cc3,fi3,yN,-⟩:=(d.b.d _ _ o.a).b;refine aL yN ?_;haveI em3:=(d.b.d _ _ o.a).f;refine bK (MC em3) ?_;rw [decide_eq_true r4];haveI ci:=D.y l.1;rw [<-qd,en]at ci;refine bK ci<|aL d.b.b ?_;rw [r3];refine lI d hy<|qm (By aO r1) λy' B TV uD _=>?_;rw [hy]at B;(replace B:=ao B;subst B);refine cp ((d.b.f _ _ hy).b) λw1 pn pf yL _=>?_;rw [TV]at yL;refine aL yL<|XJ (n:=n+33) d hx JF<|FK d (h.b N) l hx hy b0 (Lz _).1 JU uD ?_;intro H3 K3 N3;rw [r5];have D3:=D.h N3 (aV cJ Z [.t bu Z] U ko) c_;haveI TW:=l.b N3;haveI TX:V.m [V.d zi,aP<|a_ e.2.1]=cW K3 e.2.1:=by unfold cW;rw [<-TW.2]
  haveI st:=D3.v (t:=e.2.1) (x:=.d 1) N3.g.a;rw [<-TX]at st;refine jS D3.c st ?_;have u:=am.d (o:=.e<|ik ((a.map λe=>(e.2.1,())).map λe=>(cW K3 e.1,V.d 1)) (V.m [V.d zi,aP<|a_ e.2.1])<|.d 1) D3.c;revert u;generalize H3.set H.length _=h4;intro u;rw [TX]at u;haveI D4:=D3.p (x:=()) TW.1 (λ_=>rfl) u;haveI ea:gj (a.map λe=>(e.2.1,())) e.2.1 ()=(a++[e]).map λe=>(e.2.1,()):=by unfold gj;rw [en,cL];rfl
  rw [ea]at D4;exact(kn _ _ ⟨es,a++[e],K3,_,_,_,_,_,P.e λ_ _ ⟨w,e,h⟩=>⟨w,e,h.b N3⟩,(N.f N3).s u (.inr<|aV cJ Z [.t bu Z] U ko)<|.inr<|aK _,by rw [ed,d6];rfl,D4,rfl⟩).1
end
structure Fg(σ:az)(us:List Ty)(p:Nat)(a t:Ty)(iz:List Ty)(c:dh):Prop where
 h:eZ σ a c
 b:eZ σ t c
 l:c.d=1
 d:(a.p=[]/\us.take (p+1)=(t::iz).reverse)\/(a.p≠[]/\t=cr a.s/\66<=a.s/\a.s<80/\c.g=2)
 e:jc σ<|t::iz
 i:iz.length=p
 g:∀s∈t::iz,(∀f∈σ.f s,dY f)/\(σ.f s).length<100
 m:∀f∈cT σ (t::iz),dY f/\jQ a.p f
 j:∀o∈c.a,sd σ t o
 k:CF σ t c<|cT σ<|t::iz
theorem NX.w(a:NX k [] H m d K')(e:H[l]?=J o)(c:l<k\/k+6<=l):d[l]?=J o:=Nx.b a e c
noncomputable abbrev fQ:=List<|Ty×Ty×Nat
noncomputable def jT(d:az)(t a:Ty)(c:dh)(st:List Ty×fQ)(f:Ty):List Ty×fQ:=
 if f.e a.p∈st.1 then st
 else if f.e a.p∈st.2.map bI/\f∉cT d [t]/\d_ t f (a_ f) c.b=0 then st
 else(st.1++[f.e a.p],gj st.2 (f.e a.p) (a,mh d t f (a_ f) c))
noncomputable def qH(e:az)(t a:Ty)(c:dh)(d:List Ty)(l:fQ):fQ:=((cT e<|t::d).foldl (jT e t a c) ([],l)).2
theorem zK(h:dY f):a_ (f.e c)=a_ f:=by obtain⟨a,-,rfl|rfl⟩:=h<;>rfl
theorem zL:(cH es k).isSome=aJ (k∈es.map bI):=by
 by_cases m:k∈es.map bI
 ·rw [decide_eq_true m];induction e:cH es k with
  |none=>exact absurd m<|nw.mp e|some _=>rfl
 rw [decide_eq_false m,nw.mpr m];rfl
theorem M3{a:List Ty}:(a.map λt=>(t,())).map bI=a:=by rw [iv];exact RY _
theorem aAY(h:t∉(gj es k v).map bI):t∉es.map Prod.fst:=by
 rw [Bz]at h;split at h;·exact h
 exact λm=>h<|dI _ m
section
theorem Fh(h:r.1∈a)(s:List Ty):cZ (a++s) r=cZ a r:=by unfold cZ;rw [lF h]
theorem xO(S:KT H k z)(l:At z v t)(m:bB z vs as)(p:t.w as.length=true)(x:(t.e as).A=true)(a:as.length<1000)(c:t.v<=20)
  (q:∀d K' w,Nx k H z d K'->At K' w (t.e as)->Q w d):aa (n+30) 16 [.j k,v,V.m vs,V.m []] H Q:=by
 haveI e:n+30=(n+(20-t.v))+t.v+10:=(bj (bb (.p 0 30) (.a (.a (.a Y Z) aB) iF) [.g (.a Z aB) js] U<|bY<|cA Y js [.l Y js] U c)<|bb (.a (.a (.a Y Z) aB) iF) (.p 0 30) [.e (.a Z aB) js] U<|bY<|cA Y js [.l Y js] U c)
 rw [e];exact zB S l m p x a (cY c) q
def aAZ(k:Nat)(H:Hp)(K:List Ty)(m:az)(A:eW)(t a:Ty)(c:dh)(P Q n p:Nat)(l:List Ty)(I:fQ)(ll:Nat)(R:V)(W:Nat)(X q:Hp)(K7:List Ty)(as:List V)(h8:Hp)(v:List V)(G:aS)(h:Hp):Prop:=∀d:Prop,(∀(w ds K' fr:List Ty)(e:fQ)(z lD B C D:Option V)(w0:bB K' v w)(w1:cT m (t::l)=ds++w)(w2:NX k [n] H K h K')(w3:NX k [n,q.length] h8 K7 h K')(w4:FD cZ h K' n e)(w5:FD (λ_(_:Unit)=>.d 1) h K' q.length<|fr.map λt=>(t,())) (w6:∀x,x∉e.map bI->x∉I.map bI) (w7:w.foldl (jT m t a c) (fr,e)=(cT m<|t::l).foldl (jT m t a c) ([],I)) (w8:G=[J<|.j A.s,J<|.j P,J<|.j Q,J<|.d (p:Nat),J<|.j n,J<|.j ll,J R,J<|.j W,J<|.j X.length,J<|V.m as,J<|.j q.length,z,lD,B,C,D]),d)->d
def aA0(k:Nat)(H:Hp)(K:List Ty)(I:az)(A:eW)(t a:Ty)(c:dh)(P Q v p:Nat)(R:fQ)(ll:Nat)(W:V)(X:Nat)(H3 w:Hp)(K7:List Ty)(as:List V)(h8:Hp)(bo:List V)(fr:List Ty)(z:fQ)(f:Ty)(fs:List Ty)(wi:Nat)(Ha:Hp)(cv:V)(hb:Hp)(m:List V)(G:aS)(l:Hp):Prop:=∀d:Prop,(∀(B C D:Option V)(w0:G=[J<|.j A.s,J<|.j P,J<|.j Q,J<|.d (p:Nat),J<|.j v,J<|.j ll,J W,J<|.j X,J<|.j H3.length,J<|V.m as,J<|.j w.length,J<|.d (wi:Nat),J cv,B,C,D])(w1:(m=[aP<|a_ f]/\l=hb)\/(m=[]/\X3 λ(n q:List Ty)(e:fQ)=>A8 (NX k [v] H K l n) (NX k [v,w.length] h8 K7 l n) (bB n bo fs) (l[Ha.length]?=J (.a [aP<|a_ f])) (FD cZ l n v e) (FD (λ_(_:Unit)=>.d 1) l n w.length<|q.map λt=>(t,())) (∀x,x∉e.map bI->x∉R.map bI)<|jT I t a c (fr,z) f=(q,e))),d)->d
theorem aA1(F:jR R)(aO:qD R)(W:Wo k R A H K)(hH:qq H k A.s hh)(d:k+6<=hh)(j5:H[lv]?=J (.a ws))(Dz:k+6<=lv)(iy:bB K ws us)(tw:us.length<100)(hp:us[p]?=J a)(L:Fg R us p a t I c)
    (D:FD cZ H K lf fd) (rj:k+6<=lf/\A.c<=lf) (wI:lf≠hh/\lf≠lv)
    (D_:∀f∈cT R (t::I),(f∈cT R [t]\/d_ t f (a_ f) c.b≠0\/f.e a.p∉fd.map bI)->(d_ t f (a_ f) c.b≠0\/∃o∈c.a,kU R t f (a_ f) o=true))
    (q:∀H' K',NX k [lf] H K H' K'->FD cZ H' K' lf (qH R t a c I fd)->Q .o H'):
    aa (n+37) 63 [.j A.s,.j hh,.j lv,.d (p:Nat),.j lf] H Q:=by
  refine ce (fn:=Py) rfl rfl ?_;intro rr
  haveI ko:=bw W.c.d
  haveI tp:=W.b.p.2.2.2.2.2.1
  have wJ:=bw D.c
  haveI lG:=bw j5
  have pl:p<us.length:=by
    refine aU (fV p us.length) ?_ ?_
    · intro h;exact h
    · intro h;rw [ey h]at hp;exact aX hp
  haveI TY:=L.e.b
  haveI eQ:=L.i
  rw [rV]at TY
  refine p_ hH λb g eh=>?_
  have v:=bw eh
  refine Lg (n:=n+1) (ts:=t::I) W j5 (.inr Dz) iy (ae tw) hp L.h ⟨L.l,L.d.elim (λe=>.inl e.1) λe=>.inr ⟨e.2.2.1,e.2.2.2.1,e.2.2.2.2⟩⟩ (L.d.elim (λe=>.inl e.1) λe=>.inr ⟨L.e,by rw [e.2.1];rfl⟩) ?_
  intro H1 K1 ll re N1 rh B X
  have X:bB K1 re (I.reverse++[t]):=by
    refine aU L.d ?_ ?_
    · intro e;rw [if_pos e.1,e.2,jn]at X;exact X
    · intro e;rw [if_neg e.1,jn]at X;exact X
  haveI W1:=W.n N1
  haveI gt:(I.reverse++[t])[p]?=J t:=by
    rw [kf<|by rw [h_];exact(lu eQ),h_,L.i,lX];rfl
  refine aG (X.j gt) λtv t1 t2=>
      du rh t1 (ae<|ae pl tw)<|
      Lo (n:=n) (ts:=t::I) F W1 ⟨b,g,N1.b eh<|.inr d⟩ d t2 L.e rfl L.g ?_
  intro H2 K2 lo wo N2 wH yO JW uE
  have W2:=W1.n N2
  have mR:=N2.j
  have C:=N1.j
  have uj:=t2.b N2
  refine aAX (n:=n+1) F aO W2 uj L.b L.j L.k wH (.inr<|aH (aH (cY d v) C) yO) JW ?_
  intro H3 K3 N3
  haveI W3:=W2.n N3
  have EA:=N2.f N3
  have EB:=N1.f EA
  have yN:=N3.b wH<|.inr<|aH (aH (cY d v) C) yO
  have yP:=JW.b N3
  have rq:=N3.j
  refine gR yN rfl (by rw [yP.c];exact lV (sY _ _ uE yP.2)<|sZ N3.g.a) ?_
  by_cases hO:cT R (t::I)=[]
  · have:wo=[]:=by have:=yP.c;rw [hO]at this;exact vq.mp this
    rw [this]
    refine q H3 K3 (NX.v EB) ?_
    have e:qH R t a c I fd=fd:=by unfold qH;rw [hO];rfl
    rw [e]
    exact D.h EB rj.1 c_
  refine dt (show ¬((wo.length:Nat):Int)=0 from λe=>hO (by haveI:=yP.c;exact vq.mp<|bj (aV Y bQ [.e Z bQ,.g Z Y] U (hZ.mp e) this)<|cA bQ Y [] U))<|
      bX λh4 u4=>?_
  have N4:Nx k H3 K3 h4 K3:=(NX.i N3.g).q u4
  haveI JX:=uj.b N3
  refine L9 (n:=n+3) (W3.n N4) (JX.b N4) L.b ?_
  intro H5 K5 zs N5 wF
  refine bX λh6 u6=>?_
  have N6:Nx k H3 K3 h6 K5:=(N4.f N5).q u6
  haveI W6:=W3.n N6
  have l4:=u4.c
  have l5:=N5.j
  haveI w6:=u6.a _ _<|N5.b u4.b<|.inr<|aH (aH (aH (cY d v) C) mR) rq
  haveI ru:Nx k H K h6 K5:=EB.f N6
  have l6:=u6.c
  refine Ln (n:=n+1) F W6 ⟨b,g,ru.b eh<|.inr d⟩ d ⟨(aH (aH (aH (cY d v) C) mR) rq),(aH (aH (aH tp C) mR) rq)⟩ ⟨(aH (cM (aH (aH (aH (cY d v) C) mR) rq) l4) l5),(aH (cM (aH (aH (aH tp C) mR) rq) l4) l5)⟩ (aj<|nX l4 l5) (aj<|bz (bz (bz v C) mR) rq) (aj<|bz (eV (bz (bz (bz v C) mR) rq) l4) l5) wF (L.g t<|.head _).1 (L.g t<|.head _).2 w6 bB.f fU u6.b iP.c (λa m=>by exact bR m) ?_
  intro H7 K7 EC wC wr ED ndw N7 w7 TZ d7 hk7 J7
  haveI ED:wr=cT R [t]:=by
    rw [ED];unfold cT
    congr 1
    exact(cI _).symm
  haveI EE:NX k [H3.length,H5.length] H K H7 K7:=(NX.v ru).f N7
  have Ag:Nx k H K H7 K7:=EE.y λl m=>by
    refine aU (dA.mp m) ?_ ?_
    · intro fX;rw [fX];exact(aH (aH C mR) rq)
    · intro m;rw [bg.mp m];exact(aH (cM (aH (aH C mR) rq) l4) l5)
  haveI W7:=W.n Ag
  haveI Ah:=Ag.b j5<|.inr Dz
  refine aG (iy.j hp) λav g1 g2=>
      aL W7.b.b<|
      du Ah g1 (ae<|ae pl tw)<|
      xF W7.c (g2.b Ag) λas ri=>
      bX λh8 u8=>?_
  haveI N8:Nx k H K h8 K7:=Ag.q u8
  have T9:∀l,l<H3.length->l∉[H3.length,H5.length]:=λl h m=>by
    refine aU (dA.mp m) ?_ ?_
    · intro e;exact(nU<|yk e h)
    · intro m;haveI:=bg.mp m;exact(nU<|ae (eY (nX l4 l5) this) h)
  have JY:=u8.a _ _<|N7.n _ _ (N6.b yN<|.inr<|aH (aH (cY d v) C) yO) (.inr<|aH (aH (cY d v) C) yO)<|T9 _<|bw yN
  haveI wK:=EA.w rh<|.inr<|aH (cY d v) B
  haveI Ta:=u8.a _ _<|N7.n _ _ (N6.b wK<|.inr<|aH (cY d v) B) (.inr<|aH (cY d v) B)<|T9 _<|bw wK
  haveI w8:=u8.a _ _ w7
  haveI Tb:=(yP.b N6).b N7
  haveI Tc:=((X.b EA).b N6).b N7
  haveI Td:=(JX.b N6).b N7
  haveI lo3:=bw yN
  have P:=bw wK
  have l7:=N7.j
  refine fq JY<|
      fp (aAZ k H K R A t a c hh lv lf p I fd ll tv lo H3 H7 K7 as h8) ?_ ?_ ?_ ?_
  · exact λ_ k=>k _ ([]) K7 ([]) fd aA aA aA aA aA Tb rfl (NX.v N8) (NX.i N8.g) (D.h N8 rj.1 c_) ⟨u8.b,(λ_ m=>by exact bR m),(λ_ m=>by exact bR m),fU⟩ (λ_ m=>m) rfl rfl
  · intro eC G h q0;refine q0 _ λ_ _ _ _ _ _ _ _ _ _ _ _ _ N _ _ _ _ _=>?_
    exact .inl (N.n _ _ JY (.inr (aH (aH (cY d v) C) yO)) λm=>by
      refine aU (dA.mp m) ?_ ?_
      · intro e;exact(nU<|nY (bz (bz wJ C) yO) e)
      · intro m;haveI:=bg.mp m;exact(nU (eY (bz (eV (bz (eV lo3 l4) l5) l6) l7) this)))
  · intro G h q0;refine q0 _ λfs ds K' fr mQ r_ lD wL wM JZ hr ed N N' D' R' Ai ef fB=>?_
    apply cQ fB;intro rr
    obtain rfl:fs=[]:=vq.mp hr.c.symm
    refine q h K' N ?_
    have:qH R t a c I fd=mQ:=by unfold qH;rw [<-ef];rfl
    rw [this];exact D'
  · intro w bo G h q0;refine q0 _ λfs ds K' fr mQ r_ lD wL wM JZ hr ed N N' D' R' Ai ef fB=>?_;intro K9 kn kr
    apply cQ fB;intro rr
    induction fs using bk with
    |nil=>cases hr.c
    |cons f fs=>
      refine on hr.o λph pj=>?_
      haveI Aj:=N'.j
      have l8:=u8.c
      refine oE ph.i λwi bT=>?_;clear hr;subst bT
      have mf:f∈cT R (t::I):=ed▸dT _ (.head _)
      obtain⟨ff,c1,c2,c3⟩:=L.m f mf
      have Wn:Wo k R A h K':=W.d N λl m=>by rw [bg.mp m];exact rj.2
      refine aL Wn.b.b<|
          xO (n:=n+6) Wn.c ph (ri.b N') c1 c2 (uo a) c3 ?_
      intro Ha Ka cv Na J0
      haveI Wa:=Wn.n Na
      refine L_ (n:=n+32) F aO Wa (ph.b Na) ff ?_
      intro hb Nb EF
      have uG:=Na.f Nb
      have Wb:=Wn.n uG
      have N9:NX k [lf] H K hb Ka:=N.f<|NX.v uG
      have uH:NX k [lf,H7.length] h8 K7 hb Ka:=N'.f<|NX.v uG
      have D9:=D'.h uG rj.1 c_
      have R9:=R'.h uG (aH (cM (aH (cM (cY (aH (cY d v) B) P) l4) l5) l6) l7) c_
      have Ak:At Ka cv (f.e a.p):=J0
      have qd:V.m [cv,aP<|a_ f]=cW Ka (f.e a.p):=by unfold cW;rw [Ak.2,zK ff]
      haveI Te:=uH.j
      have Al:=Na.j
      have l8:=u8.c
      have uI:∀l o,h8[l]?=J o->k+6<=l->l≠lf->l≠H7.length->∀hc Kc,Nx k hb Ka hc Kc->hc[l]?=J o:=λl o e1 e2 e3 e4 hc Kc Nc=>Nc.b (uH.n _ _ e1 (.inr e2) λm=>by
        refine aU (dA.mp m) ?_ ?_
        · intro e;exact e3 e
        · intro m;exact e4 (bg.mp m)) (.inr e2)
      refine fq EF<|
          fp (aA0 k H K R A t a c hh lv lf p fd ll tv lo H3 H7 K7 as h8 bo fr mQ f fs wi Ha cv hb) ?_ ?_ ?_ ?_
      · exact λ_ k=>k wL wM JZ rfl (.inl ⟨rfl,rfl⟩)
      · intro eC G h' q0;refine q0 _ λ_ _ _ _ iM=>?_;clear q0 uI l8 Al Te qd Ak R9 D9 uH N9 Wb uG Nb Wa J0 Na Wn c3 c2 c1 ff mf ph Aj pj ef ed kn fB Ai R' D' N' N l7 Td Tc Tb w8 Ta JY N8 u8 ri g2 Ah W7 Ag EE ED hk7 d7 TZ w7 N7 ru W6 N6 wF N5 JX N4 hO yP EB EA W3 N3 uj C W2 uE JW N2 t2 gt W1 X B N1 v eh lG wJ tp ko q D_ wI rj D L hp iy Dz j5 d hH W aO F;obtain⟨_,rfl⟩|⟨_,_,_,_,_,_,_,e,_⟩:=iM
        · exact .inl EF
        · exact .inl e
      · intro G h' q0;refine q0 _ λwL wM JZ lY iM=>?_;rw [lY];obtain⟨e,_⟩|⟨_,Kd,fr2,fd2,Nd,Nd',Iv,_,Dd,Rd,aJP,ems⟩:=iM
        · exact iN e
        · refine(kn _ _ λ_ k=>k fs (ds++[f]) Kd fr2 fd2 _ _ _ _ _ Iv (by rw [ed,d6];rfl) Nd Nd' Dd Rd aJP ?_ rfl).1
          rw [<-ef,H_,ems]
      · intro w2 aM0 G h' q0;refine q0 _ λjq jr kj lY uF=>?_;rw [lY];intro Tf Ti aM1
        refine on (uF.resolve_right λz=>nomatch z.1) λe bT=>?_;clear uF Te;clear q0;subst bT
        haveI cG:=(dP e).1;haveI bT:=(dP e).2;clear q0 J0 c3 c2 c1 ef ed;subst cG;subst bT
        have skip:∀hc Kc kj,Nx k h' Ka hc Kc->jT R t a c (fr,mQ) f=(fr,mQ)->Tf .c [J<|.j A.s,J<|.j hh,J<|.j lv,J<|.d (p:Nat),J<|.j lf,J<|.j ll,J tv,J<|.j lo,J<|.j H3.length,J<|V.m as,J<|.j H7.length,J<|.d (wi:Nat),J cv,J<|aP<|a_ f,J<|V.m [cv,aP<|a_ f],kj] hc:=by
          intro hc Kc kj Nc em
          exact(Ti _ _ λ_ k=>k _ _ _ rfl (.inr ⟨rfl,Kc,fr,mQ,N9.f<|NX.v Nc,uH.f<|NX.v Nc,(pj.b uG).b Nc,Nc.b EF<|.inr<|yf cJ Z [.t bu aB,.l aB aI,.g bF ku,.l bF cR,.g cU ky,.t aI bO,.l cU dJ,.l gg gW,.l gW Z,.g gg<|.p 8 1] U ko B l4 l5 l6 P l7 Aj Al l8,D9.h Nc rj.1 c_,R9.h Nc (aH (cM (aH (cM (cY (aH (cY d v) B) P) l4) l5) l6) l7) c_,Ai,em⟩)).2
        have J1:(f∈cT R [t]\/d_ t f (a_ f) c.b≠0\/f.e a.p∉mQ.map bI)->f.e a.p∉fr->∀hc Kc,Nx k h' Ka hc Kc->dC (aa (n+36)) (.cons (.d 15 (.j 64 (.cons (.g 0) (.cons (.g 5) (.cons (.g 11) (.cons (.g 13) .nil))))))
          (.cons (.f (.M (.g 15))
            ((.cons (.m (.g 10) (.g 14) (.h (.d 1)))
             (.cons (.m (.g 4) (.g 14) (.r (.cons (.p (.g 2) (.p (.g 15) (.h (.d 0)))) (.cons (.p (.g 15) (.h (.d 1))) .nil)))) .nil)))
            (.nil)) .nil))
            [J<|.j A.s,J<|.j hh,J<|.j lv,J<|.d (p:Nat),J<|.j lf,J<|.j ll,J tv,J<|.j lo,J<|.j H3.length,J<|V.m as,J<|.j H7.length,J<|.d (wi:Nat),J cv,J<|aP<|a_ f,J<|V.m [cv,aP<|a_ f],kj] hc Tf:=by
          intro Tj Af hc Kc Nc
          haveI JT:=D_ f mf<|Tj.elim .inl λz=>.inr<|z.elim .inl λz=>.inr<|Ai _ z
          haveI Wc:=Wb.n Nc
          haveI hlc:=uI _ _ Ta (aH (cY d v) B) (a9<|bz wJ B) (aj<|bz (eV (bz (eV P l4) l5) l6) l7) hc Kc Nc
          have Am:k+6<=ll:=(aH (cY d v) B)
          haveI JQ:I.length<100:=(wj TY)
          refine aAW (n:=n) (σ:=R) (iz:=I) (t:=t) (f:=f) (c:=c) F aO Wc hlc (.inr Am) ((Tc.b uH).b Nc) JQ L.b L.j L.k (((ph.b Na).b Nb).b Nc) ff JT ?_
          intro Hd Kd Nd aM2
          have wN:=Nc.f Nd
          haveI N9d:=N9.f<|NX.v wN
          haveI aJT:=uH.f<|NX.v wN
          have Dd:=D9.h wN rj.1 c_
          have Rd:=R9.h wN (aH (cM (aH (cM (cY Am P) l4) l5) l6) l7) c_
          have J2:=Ak.b wN
          have EG:V.m [cv,aP<|a_ f]=cW Kd (f.e a.p):=by unfold cW;rw [J2.2,zK ff]
          haveI s1:=Rd.v (t:=f.e a.p) (x:=.d 1) Nd.g.a
          rw [<-EG]at s1
          refine jS Rd.c s1 ?_
          have u1:=am.d (o:=.e<|ik ((fr.map λt=>(t,())).map λe=>(cW Kd e.1,V.d 1)) (V.m [cv,aP<|a_ f])<|.d 1) Rd.c
          revert u1
          generalize Hd.set H7.length _=he
          intro u1
          have J3:NX k [lf] H K he Kd:=N9d.s u1 (.inr<|aH (cM (aH (cM (cY Am P) l4) l5) l6) l7)<|.inr<|aH (cM (aH (cM (cY B P) l4) l5) l6) l7
          haveI aJU:NX k [lf,H7.length] h8 K7 he Kd:=aJT.s u1 (.inr<|aH (cM (aH (cM (cY Am P) l4) l5) l6) l7)<|.inl<|.tail _<|.head _
          haveI aJV:he[lv]?=J (.a ws):=J3.n _ _ j5 (.inr Dz) λm=>wI.2 (bg.mp m).symm
          rw [EG]at u1
          have Re:=Rd.p (x:=()) J2.1 (λ_=>rfl) u1
          have De:FD cZ he Kd lf mQ:=⟨u1.a _ _ Dd.c<|aj<|bz (eV (bz (eV (ae (bz wJ B) P) l4) l5) l6) l7,Dd.i,Dd.j,Dd.n⟩
          refine bS rfl ?_
          refine(?_:mj (.j lv) (aP I.length) he _)
          rw [eQ]
          refine du aJV g1 (ae<|ae pl tw)<|
              bS rfl ?_
          haveI Tk:=g2.b J3
          haveI Tl:V.m [av,aP<|mh R t f (a_ f) c]=cZ Kd (a,mh R t f (a_ f) c):=by unfold cZ;rw [Tk.2]
          haveI s2:=De.v (t:=f.e a.p) (x:=cZ Kd (a,mh R t f (a_ f) c)) Nd.g.a
          rw [<-EG,<-Tl]at s2
          refine jS De.c s2 ?_
          have u2:=am.d (o:=.e<|ik (mQ.map λe=>(cW Kd e.1,cZ Kd e.2)) (V.m [cv,aP<|a_ f])<|V.m [av,aP<|mh R t f (a_ f) c]) De.c
          revert u2
          generalize he.set lf _=hg
          intro u2
          haveI N2e:NX k [lf] H K hg Kd:=J3.s u2 (.inr rj.1)<|.inl<|.head _
          haveI aJX:NX k [lf,H7.length] h8 K7 hg Kd:=aJU.s u2 (.inr rj.1)<|.inl<|.head _
          haveI Rg:FD (λ_(_:Unit)=>.d 1) hg Kd H7.length _:=⟨u2.a _ _ Re.c<|a9<|bz (eV (bz (eV (ae (bz wJ B) P) l4) l5) l6) l7,Re.i,Re.j,Re.n⟩
          rw [EG,Tl]at u2
          haveI Dg:=De.p (x:=(a,mh R t f (a_ f) c)) J2.1 (λr=>Fh Tk.1 r) u2
          haveI en:cH (fr.map λt=>(t,())) (f.e a.p)=none:=nw.mpr<|by rw [M3];exact Af
          haveI ea:gj (fr.map λt=>(t,())) (f.e a.p) ()=(fr++[f.e a.p]).map λt=>(t,()):=by
            unfold gj
            rw [en,cL];rfl
          rw [ea]at Rg
          haveI em:jT R t a c (fr,mQ) f=(fr++[f.e a.p],gj mQ (f.e a.p) (a,mh R t f (a_ f) c)):=by
            unfold jT
            rw [if_neg Af,if_neg]
            rintro⟨z1,z2,z3⟩
            refine aU Tj ?_ λqz=>aU qz ?_ ?_
            · intro z;exact z2 z
            · intro z;exact z z3
            · intro z;exact z z1
          haveI hbd:he[Ha.length]?=J (.a [aP<|a_ f]):=u1.a _ _ (wN.w EF<|.inr<|aH (aH (cM (aH (cM (aH (cM (cY Am P) l4) l5) l6) l7) l8) Aj) Al)<|a9<|bz (nX l8 Aj) Al
          exact(Ti _ _ λ_ k=>k _ _ _ rfl (.inr ⟨rfl,Kd,_,_,N2e,aJX,(pj.b uG).b wN,u2.a _ _ hbd<|a9<|bz (bz (eV (bz (eV (bz (eV (ae (bz wJ B) P) l4) l5) l6) l7) l8) Aj) Al,Dg,Rg,λx hx=>Ai x<|aAY hx,em⟩)).1
        haveI i1:=R9.y Ak.1
        rw [<-qd,zL,M3]at i1
        refine bK i1 ?_
        by_cases h1:f.e a.p∈fr
        · refine iO (decide_eq_true h1)<|
              skip _ _ _ (NX.i Wb.c) ?_
          unfold jT;rw [if_pos h1]
        · refine hM (decide_eq_false h1) ?_
          haveI i2:=D9.y Ak.1
          rw [<-qd,zL]at i2
          refine bK i2 ?_
          by_cases h2:f.e a.p∈mQ.map bI
          · refine iO (decide_eq_true h2) ?_
            haveI aJZ:=TZ.b uH
            haveI w9:=uI _ _ w8 (cY (aH (cY d v) B) P) (a9<|ae (bz wJ B) P) (aj<|bz (eV (nX l4 l5) l6) l7) _ _<|NX.i Wb.c
            refine bK (B_ w9 aJZ<|(ph.b Na).b Nb) ?_
            rw [ED]
            by_cases h3:f∈cT R [t]
            · refine hM (by rw [decide_eq_true h3];rfl)<|
                  J1 (.inl h3) h1 _ _ (NX.i Wb.c)
            · refine iO (by rw [decide_eq_false h3];rfl)<|
                  MA (n:=n+4) Wb (Td.b uH) L.b ((ph.b Na).b Nb) ?_
              intro Hd Kd Nd
              by_cases h4:d_ t f (a_ f) c.b=0
              · refine jC (show((d_ t f (a_ f) c.b:Nat):Int)=0 from(congrArg ip<|bj (cA Y bQ [.e Y bQ] U h4)<|cA bQ Y [] U))<|
                    skip _ _ _ Nd ?_
                unfold jT
                rw [if_neg h1,if_pos ⟨h2,h3,h4⟩]
              · refine dt (show ¬((d_ t f (a_ f) c.b:Nat):Int)=0 from(mt hZ.mp<|a9<|bA bQ Y [.t bQ Y] U<|nF h4))<|
                    J1 (.inr<|.inl h4) h1 _ _ Nd
          · refine hM (decide_eq_false h2)<|
                J1 (.inr<|.inr h2) h1 _ _ (NX.i Wb.c)
end
set_option backward.match.sparseCases false
noncomputable def jU(s:kT)(a:fQ)(f:Ty):Option (Ty×Nat):=(cH a f).bind λx=>(s.1.lookup x.2).bind λi=>s.2[i]?
section
theorem aA2{s:List<|Nat×Nat}{l m:Nat}(e:H[l]?=J (.d<|s.map iQ)):eK bW H .b (aP m) (.j l)=J (s.lookup m).isSome:=by haveI:=FM (i:=(m:Nat)) e;rw [ut,RX]at this;exact this
theorem FD.B(D:FD g H q l a)(e:t∈q):rG bW H (.j l) (cW q t) d=J (((cH a t).map<|g q).getD d):=by haveI m:(cW q t).B=true:=rfl;rw [<-D.o e];exact(f0 (f:=C6 (cW q t) d) D.c).trans<|No m
theorem aA3(F:jR σ)(z:qD σ)(W:Wo k σ A H K)(T:VT H K va vk s)(ok:pC s)(P:k+6<=va)(ho:H[c]?=J (.b 673 [(46,kv),(12,w12),(0,.j<|c+2)]))(p:k+6<=c)(D:FD cZ H K R fd)(X:k+6<=R)(M:FD cZ H K (c+2) im)
  (a:At K B f) (hf:dY f) (hs:jU s fd f=J r) (yK:s.2.length<1000)
  (q:∀H',NX k [c+2] H K H' K->FD cZ H' K (c+2) (gj im f r)->Q .o H'):
  aa (n+5) 68 [.j A.s,.j va,.j c,B,.j R,mv] H Q:=by
 refine ce (fn:=QC) rfl rfl ?_;intro rr;haveI ko:=bw W.c.d;refine L_ F z W a hf ?_;intro H1 l hl;haveI W1:=W.n l;have v:=T.d l P λ_ m=>by exact bR m
 haveI D1:=D.h l X c_;have C:=M.h l (dF _ p) c_;haveI JK:=l.b ho<|.inr p;haveI l1:=l.j;haveI lia:=bw ho;haveI lm:=bw M.c;refine aG (DW.mp hs) λx hx hs=>aG (DW.mp hs) λi hi hr=>?_;haveI il:=ok.c _ _ hi;have w:V.m [B,aP<|a_ f]=cW K f:=by unfold cW;rw [a.2]
 refine fq hl<|⟨.inl hl,?_⟩
 refine bK (x:=DK.t) (xC D1.c)<|dE (xC D1.c) ?_;haveI I:=D1.B a.1 (d:=.o);rw [<-w,hx]at I;haveI I:rG bW H1 (.j R) (V.m [B,aP<|a_ f]) .o=J (V.m [cP K x.1,aP x.2]):=I;refine bK I<|bS rfl ?_;refine aL v.b<|bK (aA2 v.c) ?_;rw [hi];refine aL v.b<|aL v.b<|bS rfl ?_;refine uv v.c (ut.trans<|congrArg _ hi)<|du (j:=i) v.e (by rw [jJ,hr];rfl) (ae<|ae il yK)<|aL JK ?_;haveI rm:r.1∈K:=v.f r<|dU hr;haveI s2:=C.v (t:=f) (x:=cZ K r) l.g.a;rw [<-w]at s2;refine jS C.c s2 ?_;have u:=am.d (o:=.e<|ik (im.map λe=>(cW K e.1,cZ K e.2)) (V.m [B,aP<|a_ f])<|cZ K r) C.c;revert u;generalize H1.set (c+2) _=h2;intro u;haveI N2:NX k [c+2] H K h2 K:=(NX.v l).s u (.inr<|dF _ p)<|.inl<|.head _;haveI qc:=u.a _ _ hl<|a9 lm;rw [w]at u;exact⟨.inl qc,q h2 N2<|C.p (x:=r) a.1 (λs=>Fh rm s) u⟩
end
set_option backward.match.sparseCases true
noncomputable def gu(c:Nat->List Ty)(d:List Ty)(p:Nat)(a:Ty):Ty×List Ty:=if a.p=[]then(a,(d.take p).reverse)else(cr a.s,c a.s)
noncomputable def Fi(m:az)(d:Nat->List Ty)(e:List Ty)(l:fQ)(p:Nat):fQ:=match e[p]? with|none=>l|some a=>match m.b a.s with|none=>l|some c=>qH m (gu d e p a).1 a c (gu d e p a).2 l
noncomputable def fu(c:az)(a:Nat->List Ty)(d:List Ty)(p:Nat):fQ:=(cF p).foldl (Fi c a d) []
structure CG(σ:az)(aW:Nat->List Ty)(us:List Ty):Prop where
 b:∀p a,us[p]?=J a->∃c,Fg σ us p a (gu aW us p a).1 (gu aW us p a).2 c/\
  ∀f∈cT σ ((gu aW us p a).1::(gu aW us p a).2),(f∈cT σ [(gu aW us p a).1]\/d_ (gu aW us p a).1 f (a_ f) c.b≠0\/f.e a.p∉(fu σ aW us p).map bI)->
   (d_ (gu aW us p a).1 f (a_ f) c.b≠0\/∃o∈c.a,kU σ (gu aW us p a).1 f (a_ f) o=true)
noncomputable def oA(s:kT)(a:fQ)(c:List Ty):fQ:=c.foldl (λm f=>match jU s a f with|some r=>gj m f r|none=>m) []
theorem CH(h:e[p]?=J a)(m:l.b a.s=J c):fu l d e (p+1)=qH l (gu d e p a).1 a c (gu d e p a).2 (fu l d e p):=by unfold fu;rw [kg,oW];refine(?_:Fi l d e _ p=_);unfold Fi;rw [h];dsimp only;rw [m]
section
theorem aA4(e:H[p]?=J (.b 673 []))(c:H.length=p+1)(q:∀d,(∀l o,H[l]?=J o->l≠p->d[l]?=J o)->d.length=H.length+2->d[p]?=J (.b 673 [(46,a),(12,.j<|p+1),(0,.j<|p+2)])->d[p+1]?=J (.a [])->d[p+2]?=J (.e [])->Q .o d):
  aa (n+1) 60 [.j p,a] H Q:=by
 refine ce (fn:=Pv) rfl rfl ?_;intro rr;refine aL e ?_;have u:am H p (.b 673 [(46,a)]) (H.set p<|.b 673 [(46,a)]):=am.d e;revert u;refine(?_:_->dC _ _ _ (H.set p<|.b 673 [(46,a)]) _);generalize H.set p _=P;intro B;refine bX λw x=>?_;have l1:P.length=p+1:=by rw [B.c,c]
 rw [l1];haveI D:=x.a _ _ B.b;refine aL D ?_;have u:am w p (.b 673 [(46,a),(12,.j<|p+1)]) (w.set p<|.b 673 [(46,a),(12,.j<|p+1)]):=am.d D;revert u;refine(?_:_->dC _ _ _ (w.set p<|.b 673 [(46,a),(12,.j<|p+1)]) _);generalize w.set p _=R;intro z;refine bX λA m=>?_;have t:R.length=p+2:=by rw [z.c,x.c,l1]
 rw [t];haveI I:=m.a _ _ z.b;refine aL I ?_;haveI u:am A p (.b 673 [(46,a),(12,.j<|p+1),(0,.j<|p+2)]) (A.set p<|.b 673 [(46,a),(12,.j<|p+1),(0,.j<|p+2)]):=am.d I;revert u;refine(?_:_->Q .o (A.set p<|.b 673 [(46,a),(12,.j<|p+1),(0,.j<|p+2)]));generalize A.set p _=W;intro v;refine q W (λl o h C=>v.a _ _ (m.a _ _<|z.a _ _ (x.a _ _<|B.a _ _ h C) C) C) (by rw [v.c,m.c,t,c]) v.b ?_ ?_;·refine v.a _ _ (m.a _ _<|z.a _ _ ?_<|a9<|gE c c)<|a9<|gE c c;haveI:=x.b;rw [l1]at this;exact this
 refine v.a _ _ ?_<|a9<|gE t t;haveI:=m.b;rw [t]at this;exact this
theorem aA5(W:Wo k σ A H K)(e:H[p]?=J (.b 532 []))(D:H.length=p+1)(q:∀a,(∀l o,H[l]?=J o->l≠p->a[l]?=J o)->a.length=H.length+2->qq a k A.s p->Q .o a):
  aa (n+1) 44 [.j p,.j A.s] H Q:=by
 refine ce (fn:=Pe) rfl rfl ?_;intro rr;refine aL W.b.b<|aL e ?_;have u:am H p (.b 532 [(37,.j k)]) (H.set p<|.b 532 [(37,.j k)]):=am.d e;revert u;refine(?_:_->dC _ _ _ (H.set p<|.b 532 [(37,.j k)]) _);generalize H.set p _=c;intro d;refine aL d.b ?_;have u:am c p (.b 532 [(37,.j k),(44,.j A.s)]) (c.set p<|.b 532 [(37,.j k),(44,.j A.s)]):=am.d d.b;revert u;refine(?_:_->dC _ _ _ (c.set p<|.b 532 [(37,.j k),(44,.j A.s)]) _);generalize c.set p _=h2;intro w;refine bX λm x=>?_;haveI I:h2.length=p+1:=by rw [w.c,d.c,D]
 rw [I];haveI P:=x.a _ _ w.b;refine aL P ?_;have u:am m p (.b 532 [(37,.j k),(44,.j A.s),(15,.j<|p+1)]) (m.set p<|.b 532 [(37,.j k),(44,.j A.s),(15,.j<|p+1)]):=am.d P;revert u;refine(?_:_->dC _ _ _ (m.set p<|.b 532 [(37,.j k),(44,.j A.s),(15,.j<|p+1)]) _);generalize m.set p _=h4;intro z;refine bX λt B=>?_;haveI R:h4.length=p+2:=by rw [z.c,x.c,I]
 rw [R];haveI X:=B.a _ _ z.b;refine aL X ?_;haveI u:am t p (.b 532 [(37,.j k),(44,.j A.s),(15,.j<|p+1),(45,.j<|p+2)]) (t.set p<|.b 532 [(37,.j k),(44,.j A.s),(15,.j<|p+1),(45,.j<|p+2)]):=am.d X;revert u;refine(?_:_->Q .o (t.set p<|.b 532 [(37,.j k),(44,.j A.s),(15,.j<|p+1),(45,.j<|p+2)]));generalize t.set p _=h6;intro C;exact q h6 (λl o h v=>C.a _ _ (B.a _ _<|z.a _ _ (x.a _ _<|w.a _ _ (d.a _ _ h v) v) v) v) (by rw [C.c,B.c,R,D]) ⟨_,_,C.b⟩
end
section
theorem NX.z(N:Nx k H C m K')(d:k+6<=p)(B:H.length<=p)(a:∀l o,m[l]?=J o->l≠p->A[l]?=J o) (l1:m.length<=A.length):Nx k H C A K':=
 ⟨⟨N.g.a,a _ _ N.g.b (aj (kz d)),a _ _ N.g.e (aj (be aR Z [.l cJ Z] U d)),a _ _ N.g.f (aj (be cm Z [.l cJ Z] U d)),a _ _ N.g.h (aj (be fL Z [.l cJ Z] U d)),a _ _ N.g.j (aj (be fZ Z [.l cJ Z] U d)),a _ _ N.g.d (aj (be bu Z [.l cJ Z] U d))⟩,N.t,dN N.j l1,
  λl o e c x=>a _ _ (N.n l o e c x) (by haveI:=bw e;exact(aj (bz this B)))⟩
theorem Fj(F:jR R)(aO:qD R)(W:Wo k R A H K)(h:At K v t)(rc:jc R C)(hh:C.head?=J t)(o:eZ R t c)(EH:c.d=1)(Tm:c.f=0)
  (T:VT H K va vk s) (ok:pC s) (wO:k+6<=va) (yK:s.2.length<1000) (I:CG R x C.reverse)
  (aJ1:∀s∈C,(∀f∈R.f s,dY f)/\(R.f s).length<100)
  (mT:∀f∈cT R C,dY f/\(jU s (fu R x C.reverse C.length) f).isSome=true)
  (q:∀H' K' ia il jN,Nx k H K H' K'->H.length<=ia->H.length<=il->H'[ia]?=J (.b 673 [(46,v),(12,.j il),(0,.j<|ia+2)])->H'[il]?=J (.a jN)->bB K' jN (cT R C)->FD cZ H' K' (ia+2) (oA s (fu R x C.reverse C.length)<|cT R C)->Q (.j ia) H'):
  aa (n+38) 61 [.j A.s,v,.j va] H Q:=by
 refine ce (fn:=Pw) rfl rfl ?_;intro rr;haveI ko:=bw W.c.d;have tp:=W.b.p.2.2.2.2.2.1;have z:=W.b.p.2.2.2.2.2.2;refine bX λh0 u0=>?_;have l0:=u0.c;haveI N0:Nx k H K h0 K:=(NX.i W.c).q u0;refine aA4 (n:=n+36) u0.b l0 ?_;intro h1 f1 l1 o1 i1 d1;have N1:Nx k H K h1 K:=NX.z N0 (aH z tp) (aK _) f1<|ql l1;refine⟨rfl,?_⟩;refine FN (n:=n+3) (W.n N1) (h.b N1) rc hh ?_;intro h2 K2 lv ws N2 j5 EI iy;have kh:=N1.f N2;haveI W2:=W.n kh;have gO:ws.length=C.length:=by rw [iy.c,h_]
 have tl:=rc.b;have ul:C.reverse.length=C.length:=h_;have J5:=h.b kh;refine lH W2 J5 o ?_;obtain⟨nm,bs,iL,cc,fi,ho,-⟩:=(W2.b.d _ _ o.a).b;rw [EH,Tm]at ho;refine aL ho<|bX λh3 u3=>?_;have P:=u3.c;have X:=kh.j;have mR:=N2.j;have N3:Nx k H K h3 K2:=kh.q u3;haveI W3:=W.n N3;refine aA5 (n:=n+36) W3 u3.b P ?_;intro h4 f4 B o4;have N4:Nx k H K h4 K2:=NX.z N3 (aH (aH z tp) X) X f4<|ql B;haveI W4:=W.n N4;refine⟨rfl,?_⟩;have k4:∀l o,l<h2.length->h2[l]?=J o->h4[l]?=J o:=λl o hl e=>f4 _ _ (u3.a _ _ e)<|aj hl;haveI o24:=k4 _ _ (by have:=bw d1;exact(VF this mR))<|N2.b o1<|.inr<|aH z tp;haveI d24:=k4 _ _ (by have:=bw d1;exact(bz this mR))<|N2.b d1<|.inr<|dF _<|aH z tp;have lG:=bw j5;haveI JO:=k4 _ _ lG j5;have lh:H.length+2<h2.length:=by haveI:=bw d1;exact(bz this mR)
 have uJ:Nx k h2 K2 h4 K2:=NX.z ((NX.i N2.g).q u3) (aH (aH z tp) X) (aK _) f4<|ql B;refine Lo (n:=n+1) (ts:=C) F W4 o4 (aH (aH z tp) X) (J5.b uJ) rc hh aJ1 ?_;intro h5 K5 lo wo N5 Tn wP aJ4 TJ;have d:=N5.j;have o5:=N5.b o24<|.inr<|aH z tp;haveI An:=N4.f N5;refine aL o5 ?_;haveI u:am h5 H.length (.b 673 [(46,v),(12,.j lo),(0,.j<|H.length+2)]) (h5.set H.length<|.b 673 [(46,v),(12,.j lo),(0,.j<|H.length+2)]):=am.d o5;revert u;refine(?_:_->dC _ _ _ (h5.set H.length<|.b 673 [(46,v),(12,.j lo),(0,.j<|H.length+2)]) _);generalize h5.set H.length _=h6;intro u6;haveI N6:Nx k H K h6 K5:=NX.s An u6 (.inr<|aH z tp)<|.inr<|aK _;refine bX λh7 u7=>?_;have N7:Nx k H K h7 K5:=N6.q u7;have l6:=u6.c;haveI l7:=u7.c;have Ah:=u7.a _ _<|u6.a _ _ (N5.b JO<|.inr<|aH (cM (cM (aH z tp) l0) l1) EI)<|a9<|bz (wn l0 l1) EI;haveI ho7:=u7.a _ _<|u6.a _ _ Tn<|a9<|bz (eV (Km X P) B) wP;haveI hh7:qq h7 k A.s h2.length:=by refine p_ o4 λb g e=>⟨b,g,u7.a _ _<|u6.a _ _ (N5.b e<|.inr<|aH (aH z tp) X)<|a9<|uR lh⟩
 haveI im7:=u7.a _ _ u6.b;haveI id7:=u7.a _ _<|u6.a _ _ (N5.b d24<|.inr<|dF _<|aH z tp)<|a9<|bP _<|aK _;haveI Dw:=(iy.b uJ).b N5;haveI los:=bw Tn;haveI lvh:lv<h2.length:=lG;refine gR Ah rfl (cN<|mZ gO tl) ?_;refine qB ws.length rfl (cN<|mZ gO tl) ?_;generalize eu:C.reverse=us at iy Dw I ul q mT;refine qC (λp G h=>X2 λ(K':List Ty)(x7:Option V)=>A3 (NX k [h6.length] h7 K5 h K') (FD cZ h K' h6.length<|fu R x us p)<|G=[J<|.j A.s,J v,J<|.j va,J<|.j H.length,J<|.j lv,J<|.j h2.length,J<|.j h6.length,x7,aA,aA]) (si _) ?_ ?_ ?_;·exact k_ K5 aA (NX.i N7.g) ⟨u7.b,(λ_ m=>by exact bR m),(λ_ m=>by exact bR m),fU⟩ rfl
 ·rintro G h ⟨K',x7,N,D,fB⟩;apply cQ fB;intro rr;have yQ:∀l o,h7[l]?=J o->k+6<=l->l≠h6.length->h[l]?=J o:=λl o e1 e2 e3=>N.n _ _ e1 (.inr e2) λm=>e3<|bg.mp m;have Nh:NX k [h6.length] H K h K':=(NX.v N7).f N;have EJ:Nx k H K h K':=Nh.y λl m=>by rw [bg.mp m];exact(sJ (aH (cM (cM X P) B) d) l6)
  have Wh:Wo k R A h K':=W.n EJ;haveI wl:ws.length=C.length:=gO;rw [wl]at D;refine lH Wh (J5.b ((uJ.f N5).f<|NX.i N5.g)|>.b N) o ?_;obtain⟨nm,bs,iL,cc,fi,ho,-⟩:=(Wh.b.d _ _ o.a).b;rw [Tm]at ho;refine aL ho ?_;have im:=yQ _ _ im7 (aH z tp)<|aj<|eY (bz (eV (Km X P) B) d) l6;have J6:=yQ _ _ ho7 (aH (cM (cM (aH (aH z tp) X) P) B) wP)<|aj<|eY los l6;haveI idh:=yQ _ _ id7 (dF _<|aH z tp)<|aj<|eY (bz (eV (eV lh P) B) d) l6;refine aL im<|fq J6 ?_;haveI To:=aJ4.b N;haveI Th:=T.d EJ wO λ_ m=>by exact bR m
  refine fp (λeC G h'=>X3 λ(fs ds:List Ty)(x9:Option V)=>A5 (bB K' eC fs) (cT R C=ds++fs) (NX k [H.length+2] h K' h' K') (FD cZ h' K' (H.length+2)<|oA s (fu R x us C.length) ds)<|G=[J<|.j A.s,J v,J<|.j va,J<|.j H.length,J<|.j lv,J<|.j h2.length,J<|.j h6.length,x7,J<|.n true,x9]) ?_ ?_ ?_ ?_;·exact⟨_,[],aA,To,rfl,NX.i N.g,⟨idh,(λ_ m=>by exact bR m),(λ_ m=>by exact bR m),fU⟩,rfl⟩
  ·rintro eC G h' ⟨_,_,_,_,_,N8,_⟩;exact .inl (N8.n _ _ J6 (.inr<|aH (cM (cM (aH (aH z tp) X) P) B) wP) λm=>by haveI:=bg.mp m;exact(nU<|eV (ae (nY (nX B wP) this) lh) P))
  ·rintro G h' ⟨fs,ds,x9,hr,ed,N8,D8,fB⟩;apply cQ fB;intro rr;obtain rfl:fs=[]:=vq.mp hr.c.symm;rw [cI]at ed;subst ed;haveI uI:∀l o,h[l]?=J o->k+6<=l->l≠H.length+2->h'[l]?=J o:=λl o e1 e2 e3=>N8.n _ _ e1 (.inr e2) λm=>e3<|bg.mp m;exact q h' K' _ lo wo ((NX.v (X:=[H.length+2]) EJ).f N8|>.y λl m=>by rw [bg.mp m];exact(dF _<|aK _)) (aK _) (aH (cM (cM X P) B) wP) (uI _ _ im (aH z tp)<|aj<|bP _<|aK _) (uI _ _ J6 (aH (cM (cM (aH (aH z tp) X) P) B) wP)<|a9<|bz (eV (eV lh P) B) wP) To D8
  rintro w bo G h' ⟨fs,ds,x9,hr,ed,N8,D8,fB⟩ K9 kn kr;apply cQ fB;intro rr;induction fs using bk with
  |nil=>cases hr.c|cons f fs=>
   haveI ph:=hr.o.1;haveI pj:=hr.o.2;haveI uI:∀l o,h[l]?=J o->k+6<=l->l≠H.length+2->h'[l]?=J o:=λl o e1 e2 e3=>N8.n _ _ e1 (.inr e2) λm=>e3<|bg.mp m;haveI ff:=(mT f<|ed▸dT _ (.head _)).1;haveI hs:=(mT f<|ed▸dT _ (.head _)).2;refine oE (pc.mp hs) λr hr=>?_;haveI Nn:Nx k H K h' K':=(NX.v (X:=[H.length+2]) EJ).f N8|>.y λl m=>by rw [bg.mp m];exact(dF _<|aK _)
   haveI qe:=bw T.c;refine aA3 (n:=n+32) F aO (W.n Nn) (T.d Nn wO λ_ m=>by exact bR m) ok wO (uI _ _ im (nV wO qe)<|aj<|bP _<|aK _) (nV wO qe) (D.h N8 (sJ (aH (cM (cM (aH (nV wO qe) X) P) B) d) l6) λm=>by haveI:=bg.mp m;exact(nU<|eV (ae (nY (eY (nX B d) l6) this) lh) P)) (sJ (aH (cM (cM (aH (nV wO qe) X) P) B) d) l6) D8 ph ff hr yK ?_;intro h9 N9 D9;refine(kn _ _ ⟨fs,ds++[f],_,pj,by rw [ed,d6];rfl,N8.f N9,?_,rfl⟩).1;have:oA s (fu R x us C.length) (ds++[f])=gj (oA s (fu R x us C.length) ds) f r:=by unfold oA;rw [oW];refine(?_:(match jU s (fu R x us C.length) f with|some r=>gj _ f r|none=>_)=_);rw [hr]
   rw [this];exact D9
 rintro p G h hp ⟨K',x7,N,D,fB⟩ K9 kn kr;apply cQ fB;intro rr;have yQ:∀l o,h7[l]?=J o->k+6<=l->l≠h6.length->h[l]?=J o:=λl o e1 e2 e3=>N.n _ _ e1 (.inr e2) λm=>e3<|bg.mp m;haveI Nh:NX k [h6.length] H K h K':=(NX.v N7).f N;haveI Wh:Wo k R A h K':=W.d Nh λl m=>by rw [bg.mp m];exact(sJ (aH (cM (cM (aH tp X) P) B) d) l6)
 obtain⟨a,ha⟩:∃a,us[p]?=J a:=⟨_,f7<|eY (nY hp gO) ul⟩
 refine aG (I.b p a ha) λc' L D_=>?_;haveI hhh:qq h k A.s h2.length:=by refine p_ hh7 λb g e=>⟨b,g,yQ _ _ e (aH (aH z tp) X)<|aj<|eY (bz (wn P B) d) l6⟩
 refine aA1 (n:=n) F aO Wh hhh (aH (aH z tp) X) (yQ _ _ Ah (aH (cM (cM (aH z tp) l0) l1) EI)<|aj<|eY (bz (eV (eV lG P) B) d) l6) (aH (cM (cM (aH z tp) l0) l1) EI) (Dw.b N) (cN<|mZ ul tl) ha L D ⟨(sJ (aH (cM (cM (aH (aH z tp) X) P) B) d) l6),(sJ (aH (cM (cM (aH tp X) P) B) d) l6)⟩ ⟨(a9<|eY (bz (wn P B) d) l6),(a9<|eY (bz (eV (eV lG P) B) d) l6)⟩ D_ ?_;intro h9 K9' N9 D9;refine(kn _ _ ⟨K9',_,N.f N9,?_,rfl⟩).1;rw [CH ha L.h.a];exact D9
end
set_option backward.match.sparseCases false
noncomputable def oB(c:Nat)(u:Ty):Ty:=if c=97 then .r u else if c=73 then .m 64 u else .m 65 u
noncomputable def er:Ty->Nat|.j i=>if i=0 then 84 else 85|.l i=>if i=7 then 105 else 115|.r t=>er t|.m _ t=>er t|_=>0
noncomputable def jD:Ty->Ty|.r t=>jD t|.m _ t=>jD t|t=>t
noncomputable def dK:Ty->List Nat|.r t=>97::dK t|.m c t=>(if c=64 then 73 else 74)::dK t|_=>[]
noncomputable def bH(t:Ty):List Nat:=dK t++[er t]
def Wt(t:Ty):Prop:=t.k 8=true\/dY t
noncomputable def sj:List Nat->Ty->Prop|[],_=>True|c::r,u=>(oB c u).A=true/\u.k 8=true/\(c=97\/c=73\/c=74)/\sj r (oB c u)
def uw(t:Ty):Prop:=t=.j 0\/t=.j 1\/t=.l 7\/t=.l 13
theorem Fk:∀{r:List Nat}{u:Ty},sj r u->(oB c<|r.foldl (λu c=>oB c u) u).A=true->(r.foldl (λu c=>oB c u) u).k 8=true->(c=97\/c=73\/c=74)->sj (r++[c]) u|[],_,_,h,i,j=>⟨h,i,j,trivial⟩|_::_,_,h,i,j,l=>⟨h.1,h.2.1,h.2.2.1,Fk h.2.2.2 i j l⟩
theorem cS:∀{d:Nat}{t:Ty},t.k d=true->∀{e:Nat},(h:d<=e:=by decide)->t.k e=true
 |d,.l n,h,e,_=>by induction d<;>induction e<;>exact h|d,.j n,h,e,_=>by induction d<;>induction e<;>exact h|d+1,.r t,h,e,a=>by
  induction e using iJ with
  |zero=>cases a|succ e=>exact cS (d:=d) (t:=t) h<|aG6 a
 |0,.r t,h,_,_=>by exact ft h|0,.u _,h,_,_=>by exact ft h|0,.m _ _,h,_,_=>by exact ft h|0,.o _ _ _,h,_,_=>by exact ft h|_+1,.u _,h,_,_=>by exact ft h|_+1,.m _ _,h,_,_=>by exact ft h|_+1,.o _ _ _,h,_,_=>by exact ft h
theorem rA:(∀n,(Ty.l n).k d=true->uw (.l n))/\∀n,(Ty.j n).k d=true->uw (.j n):=by
 refine⟨λn h=>?_,λn h=>?_⟩
 ·have h:(n==7||n==13)=true:=by induction d<;>exact h
  rw [xw,beq_iff_eq,beq_iff_eq]at h;rcases h with rfl|rfl;·exact .inr<|.inr<|.inl rfl
  exact .inr<|.inr<|.inr rfl
 haveI h:(n==0||n==1)=true:=by induction d<;>exact h
 rw [xw,beq_iff_eq,beq_iff_eq]at h;rcases h with rfl|rfl;·exact .inl rfl
 exact .inr<|.inl rfl
theorem Fm:∀{d:Nat}{t:Ty},t.k d=true->d<=8->uw (jD t)/\(dK t).reverse.foldl (λu c=>oB c u) (jD t)=t/\sj (dK t).reverse (jD t)/\er (jD t)=er t/\(dK t).length<=d
 |d,.l n,h,hd=>⟨rA.1 n h,rfl,trivial,rfl,jI _⟩|d,.j n,h,hd=>⟨rA.2 n h,rfl,trivial,rfl,jI _⟩|d+1,.r t,h,hd=>by
  refine pB (Fm (d:=d) (t:=t) h<|AO hd) λe a l m p=>?_;haveI q:t.k 8=true:=cS (show t.k d=true from h)<|AO hd;refine⟨e,?_,?_,m,iW p⟩;·refine(?_:((97::dK t).reverse).foldl _ _=_);rw [jn,oW];rw [a];rfl
  refine(?_:sj ((97::dK t).reverse) _);rw [jn];refine Fk l ?_ ?_<|.inl rfl;·refine(?_:(oB 97<|(dK t).reverse.foldl _<|jD t).A=true);rw [a];exact(Bs (d:=d+1) (t:=.r t) h hd).1
  refine(?_:((dK t).reverse.foldl _<|jD t).k 8=true);rw [a];exact q
 |0,.r t,h,_=>by exact ft h|0,.u _,h,_=>by exact ft h|0,.m _ _,h,_=>by exact ft h|0,.o _ _ _,h,_=>by exact ft h|_+1,.u _,h,_=>by exact ft h|_+1,.m _ _,h,_=>by exact ft h|_+1,.o _ _ _,h,_=>by exact ft h
theorem ux(h:Wt t):uw (jD t)/\(dK t).reverse.foldl (λu c=>oB c u) (jD t)=t/\sj (dK t).reverse (jD t)/\er (jD t)=er t/\(dK t).length<=9:=by
 refine aU h ?_ ?_;·intro h;refine pB (Fm h<|aK 8) λn m p q v=>?_;exact⟨n,m,p,q,tY v⟩
 intro A;refine aG A λa x e=>pB (Fm x<|aK 8) λn m p q v=>?_;haveI l:∀c d,(c=73/\d=64\/c=74/\d=65)->((c::dK a).reverse).foldl (λu c=>oB c u) (jD a)=.m d a/\sj ((c::dK a).reverse) (jD a):=by
  intro c d z;have w:oB c a=.m d a:=by rcases z with⟨rfl,rfl⟩|⟨rfl,rfl⟩<;>rfl
  haveI g:(Ty.m d a).A=true:=by refine(?_:((d==64||d==65)&&a.k 8)=true);rw [x];clear w;rcases z with⟨rfl,rfl⟩|⟨rfl,rfl⟩<;>rfl
  rw [jn,oW];refine⟨?_,Fk p ?_ ?_<|z.elim (λe=>.inr<|.inl e.1) λe=>.inr<|.inr e.1⟩;·refine(?_:oB c ((dK a).reverse.foldl _<|jD a)=_);rw [m];exact w
  ·rw [m,w];exact g
  rw [m];exact x
 clear p m x h;rcases e with rfl|rfl
 ·exact⟨n,(l 73 64<|.inl ⟨rfl,rfl⟩).1,(l 73 64<|.inl ⟨rfl,rfl⟩).2,q,iW v⟩
 exact⟨n,(l 74 65<|.inr ⟨rfl,rfl⟩).1,(l 74 65<|.inr ⟨rfl,rfl⟩).2,q,iW v⟩
theorem gI(c:(V.k a).p=true)(d:(V.k b).p=true):eK bW H .c (.k a) (.k b)=J (aJ<|a=b):=by
 refine(?_:oK H (.k a) (.k b)=_);have:oK H (.k a) (.k b)=J (aJ<|V.k a=V.k b):=by refine(?_:(if(V.k a).p&&(V.k b).p then _ else _)=_);rw [c,d];rfl
 rw [this];congr 1;by_cases e:a=b;·rw [e];rw [decide_eq_true rfl,decide_eq_true rfl]
 rw [decide_eq_false e,decide_eq_false λh=>e<|V.k.inj h]
set_option backward.match.sparseCases true
theorem Fo(t:Ty):(bH t).dropLast=dK t:=List.dropLast_concat
theorem uy(t:Ty):bH t≠[]:=by unfold bH;exact List.append_ne_nil_of_right_ne_nil _<|List.cons_ne_nil _ _
section
theorem aA6(a:p.length<100):oJ bW H (.k<|p++[x]) (.d<|-1)=J (.k [x]):=by
 haveI l:(p++[x]).length=p.length+1:=b9;refine(?_:(if(p++[x]).length<1000000 then(oI (p++[x]).length<|-1).bind λj=>((p++[x])[j]?).map λc=>V.k [c]else aA)=_);haveI e:oI (p++[x]).length (-1)=J p.length:=by unfold oI;rw [if_neg<|by decide,if_pos<|by rw [l,Ku];exact j1 _,l,Ku];rfl
 rw [if_pos<|be Y eX [.t Z lj,.e Y aY] U a l,e];refine(?_:(((p++[x])[p.length]?).map λc=>V.k [c])=_);rw [kf<|aK _,lX];rfl
theorem Fp(h:(dK t).length<=9):oJ bW H (.k<|bH t) (.d<|-1)=J (.k [er t]):=aA6<|cN h
def aA7(k:Nat)(H:Hp)(w:List Ty)(t:Ty)(d:List V)(G:aS)(h:Hp):Prop:=∀a:Prop,(∀(r:List Nat)(u:Ty)(e:V)(K':List Ty)(x:Option V)(l:d=r.map (λc=>V.k [c])) (m:sj r u) (n:r.foldl (λu c=>oB c u) u=t) (p:Nx k H w h K') (q:At K' e u) (v:G=[J<|.j k,J<|.k<|bH t,J<|.k [er t],J e,x]),a)->a
theorem lK(S:KT H k K)(h:Wt t)(q:∀H' K' v,Nx k H K H' K'->At K' v t->Q v H'):aa (n+8) 70 [.j k,.k<|bH t] H Q:=by
 refine ce (fn:=QS) rfl rfl ?_;intro rr;refine pB (ux h) λw1 w2 w3 w4 P=>bS (Fp P) ?_;haveI sl:(bH t).length<1000000:=by unfold bH;rw [b9];refine(?_:(dK t).length+1<_);exact(bA aR eX [.l Y<|.n 9] U P)
 have loop:∀W p d,Nx k H K W p->At p d (jD t)->dC (aa<|n+7) (QE.a 2) [J<|.j k,J<|.k<|bH t,J<|.k [er t],J d,aA] W (gX Q):=by
  intro W p d z A;refine uX _ rfl (uy t) sl ?_;rw [Fo];refine ZV (cN P)<|ZS<|fp (aA7 k H K t) ?_ ?_ ?_ ?_;·exact λ_ k=>k ((dK t).reverse) (jD t) d p aA rfl w3 w2 z A rfl
  ·exact λ_ _ _ _=>trivial
  ·intro G h R;refine R _ λr u d K' x e _ l N a m=>?_;apply cQ m;intro rr;obtain rfl:r=[]:=by induction r using bk with|nil=>rfl|cons _ _=>exact iN e
   have l:u=t:=l;clear sl P w3 w2;subst l;exact q _ K' d N a
  intro w bo G h R;refine R _ λr u d K' x e ok l N a m=>?_;intro K2 X kr;apply cQ m;intro rr;induction r using bk with
  |nil=>exact hI e|cons c r=>
   haveI B:=(dP e).1;haveI bT:=(dP e).2;rw [B];clear e;clear R;subst bT;refine qo ok λo1 o2 o3 o4=>?_;clear B ok;rcases o3 with rfl|rfl|rfl
   ·refine bK (gI rfl rfl)<|
     Wp N.g a o1 ?_
    intro H3 C v3 D I;exact(X _ _ λ_ k=>k r _ _ C _ rfl o4 l (N.f D) I rfl).1
   ·refine bK (gI rfl rfl)<|
     bK (gI rfl rfl)<|
     xD (as:=[u]) (t:=.m 64 u) N.g (bB.d a) rfl o1 ?_
    intro H3 C v3 D I;exact(X _ _ λ_ k=>k r _ _ C _ rfl o4 l (N.f D) I rfl).1
   refine bK (gI rfl rfl)<|bK (gI rfl rfl)<|xD (as:=[u]) (t:=.m 65 u) N.g (bB.d a) rfl o1 ?_;intro H3 C v3 D I;exact(X _ _ λ_ k=>k r _ _ C _ rfl o4 l (N.f D) I rfl).1
 rw [<-w4]at loop⊢;rcases w1 with e|e|e|e<;>rw [e]at loop⊢
 ·refine bK (gI rfl rfl)<|
    xE (i:=0) S (by decide) ?_
  intro H1 p v1 z A;exact loop _ _ _ z A
 ·refine bK (gI rfl rfl)<|
    bK (gI rfl rfl)<|
    xE (i:=1) S (by decide) ?_
  intro H1 p v1 z A;exact loop _ _ _ z A
 ·refine bK (gI rfl rfl)<|bK (gI rfl rfl)<|bK (gI rfl rfl)<|loop _ _ _ (NX.i S) (At.d S.a (i:=7)<|by decide)
 refine bK (gI rfl rfl)<|bK (gI rfl rfl)<|bK (gI rfl rfl)<|loop _ _ _ (NX.i S) (At.d S.a (i:=13)<|by decide)
end
set_option genInjectivity false
theorem hQ(a:x.k d=true)(c:y.k d=true):∀{e:Nat}{t:Ty},t.k e=true->(t.e [x,y]).k (e+d)=true
 |e,.l n,h=>cS (d:=e) h<|jZ _ _|e,.j n,h=>by
  rcases rA.2 n h with q|q|q|q<;>cases q;·exact cS a<|vl _ _
  exact cS c<|vl _ _
 |e+1,.r t,h=>by haveI:=hQ a c (e:=e) (t:=t) h;rw [Nat.succ_add];exact this|0,.r t,h=>by exact ft h|0,.u _,h=>by exact ft h|0,.m _ _,h=>by exact ft h|0,.o _ _ _,h=>by exact ft h|_+1,.u _,h=>by exact ft h|_+1,.m _ _,h=>by exact ft h|_+1,.o _ _ _,h=>by exact ft h
theorem Fq:∀{t:Ty},uw (jD t)->bH (t.e [x,y])=if er t=84 then dK t++bH x else if er t=85 then dK t++bH y else bH t
 |.l n,h=>by rcases h with h|h|h|h<;>cases h<;>rfl
 |.j n,h=>by rcases h with h|h|h|h<;>cases h<;>rfl
 |.r t,h=>by
  haveI:=Fq (x:=x) (y:=y) (t:=t) h;refine(?_:97::bH (t.e [x,y])=if er t=84 then 97::dK t++bH x else if er t=85 then 97::dK t++bH y else 97::bH t);rw [this];split;·rfl
  split<;>rfl
 |.m c t,h=>by
  haveI:=Fq (x:=x) (y:=y) (t:=t) h;refine(?_:(if c=64 then 73 else 74)::bH (t.e [x,y])=if er t=84 then(if c=64 then 73 else 74)::dK t++bH x else if er t=85 then(if c=64 then 73 else 74)::dK t++bH y else(if c=64 then 73 else 74)::bH t);rw [this];by_cases a:er t=84;·rw [if_pos a,if_pos a];rfl
  rw [if_neg a,if_neg a];by_cases d:er t=85;·rw [if_pos d,if_pos d];rfl
  rw [if_neg d,if_neg d]
 |.u _,h=>by rcases h with h|h|h|h<;>exact Mine.Ty.noConfusion h
 |.o _ _ _,h=>by rcases h with h|h|h|h<;>exact Mine.Ty.noConfusion h
noncomputable def gJ(x y:Ty):V:=V.m [.k<|bH x,.k<|bH y]
section
theorem add_str{a b:List Nat}(h:a.length+b.length<1000000):mF .a (.k a) (.k b)=J (.k<|a++b):=if_pos h
theorem uz(h:Wt t)(l:(bH x).length<1000)(m:(bH y).length<1000)(q:Q (.k<|bH<|t.e [x,y]) H):aa (n+1) 72 [.k<|bH t,gJ x y] H Q:=by
 refine ce (fn:=QG) rfl rfl ?_;intro rr;refine pB (ux h) λc p v d a=>?_;refine bS (Fp a) ?_;have sl:(bH t).length<1000000:=by unfold bH;rw [b9];refine(?_:(dK t).length+1<_);exact(bA aR eX [.l Y<|.n 9] U a)
 rw [Fq c,<-d]at q;rw [<-d];rcases c with e|e|e|e<;>rw [e]at q⊢;·refine bK (gI rfl rfl) ?_;refine uX _ rfl (uy t) sl ?_;rw [Fo];refine bS rfl ?_;exact bK (add_str<|be (.a Y Z) eX [.t Z dz,.l Y<|.n 9] U l a) q
 ·refine bK (gI rfl rfl) ?_;refine bK (gI rfl rfl) ?_;refine uX _ rfl (uy t) sl ?_;rw [Fo];refine bS rfl ?_;exact bK (add_str<|be (.a Y Z) eX [.t Z dz,.l Y<|.n 9] U m a) q
 ·refine bK (gI rfl rfl) ?_;refine bK (gI rfl rfl) ?_;exact q
 refine bK (gI rfl rfl) ?_;refine bK (gI rfl rfl) ?_;exact q
theorem jf(h:Wt t):(bH t).length<1000:=by haveI:=(ux h).2.2.2.2;unfold bH;rw [b9];refine(?_:(dK t).length+1<_);exact(bA aR dz [.l Y<|.n 9] U this)
theorem CI(S:KT H k K)(c:x.k 8=true)(d:y.k 8=true)(m:i<14)(q:∀e K' v,Nx k H K e K'->At K' v (.o (66+i) x y)->Q v e):aa (n+9) 71 [.j k,.d (i:Nat),gJ x y] H Q:=by
 refine ce (fn:=QF) rfl rfl ?_;intro rr;refine bS rfl ?_;refine lK S (.inl c) ?_;intro H1 I P l p;refine bS rfl ?_;refine lK l.g (.inl d) ?_;intro R W X a w;refine xD (n:=n+1) (c:=66+i) (as:=[x,y]) (t:=.o (66+i) x y) a.g (bB.n (p.b a)<|bB.d w) rfl ?_ ?_;·refine(?_:(aJ (66<=66+i)&&aJ (66+i<80)&&x.k 8&&y.k 8)=true);rw [c,d,decide_eq_true<|jZ 66 i,decide_eq_true (DM m 66:66+i<80)];rfl
 intro z A B C D;exact q z A B ((l.f a).f C) D
structure cC where
 a:Ty
 b:Ty
 c:List<|Nat×List Nat×Ty×Bool
 d:List<|Ty×Nat×Nat
 e:Nat
 f:Nat
noncomputable def fG(l:cC):V:=V.m [gJ l.a l.b,.j l.e,.j l.f]
noncomputable def qI(m:Nat×List Nat×Ty×Bool):V:=V.m [aP m.1,.k m.2.1,.k<|bH m.2.2.1,.n m.2.2.2]
noncomputable def iR(e:Ty×Nat×Nat):V:=V.m [.k<|bH e.1,aP e.2.1,aP e.2.2]
structure LL(H:Hp)(la:Nat)(ls:List cC):Prop where
 b:H[la]?=J (.a<|ls.map fG)
 c:∀l∈ls,H[l.e]?=J (.a<|l.c.map qI)
 d:∀l∈ls,H[l.f]?=J (.a<|l.d.map iR)
noncomputable def jg(c:List cC)(p:Nat)(a:Ty×Ty):Ty×Ty:=match c[p]? with|some l=>(l.a.e [a.1,a.2],l.b.e [a.1,a.2])|none=>a
noncomputable def dZ(c:List cC)(up bD:Nat)(a:Ty×Ty):Ty×Ty:=(cF<|bD-up).foldl (λa i=>jg c (bD-i) a) a
theorem aA8(m n:Nat):iT (pN (m:Nat) (n:Nat))=(cF<|m-n).map λi=>V.d ((m:Int)-(i:Nat)):=by delta iT pN;rw [iv];have:((m:Int)-(n:Int)).toNat=m-n:=aHc m n;rw [this];rfl
theorem Ft(L:H[I]?=J (.a<|c.map fG))(v:∀l∈c,l.a.k 1=true/\l.b.k 1=true) (hx:x.k d=true) (hy:y.k d=true) (w:bD<c.length) (hd:d+(bD-up)<=8) (P:c.length<100) (z:up<100)
  (q:(dZ c up bD (x,y)).1.k (d+(bD-up))=true->(dZ c up bD (x,y)).2.k (d+(bD-up))=true->Q (gJ (dZ c up bD (x,y)).1 (dZ c up bD (x,y)).2) H):aa (n+2) 73 [.j I,.d (up:Nat),.d (bD:Nat),gJ x y] H Q:=by
 refine ce (fn:=QH) rfl rfl ?_;intro rr;refine⟨(bD:Nat),(up:Nat),rfl,rfl,⟨Ez _,(fT.mpr<|be Y eX [.t Y Z,.t Z lj] U w P),Ez _,(fT.mpr<|bA Y eX [.t Y lj] U z)⟩,?_⟩;refine qC (λi G h=>h=H/\X3 λ(a:Ty×Ty)(A B:Option V)=>A4 (a=(cF i).foldl (λa i=>jg c (bD-i) a) (x,y)) (a.1.k (d+i)=true) (a.2.k (d+i)=true)<|G=[J<|.j I,J<|.d (up:Nat),J<|.d (bD:Nat),J<|gJ a.1 a.2,A,B]) (aA8 _ _) ?_ ?_ ?_;·exact⟨rfl,(x,y),aA,aA,rfl,hx,hy,rfl⟩
 ·rintro G h ⟨rfl,a,A,B,rfl,p,t,m⟩;apply cQ m;intro rr;exact q p t
 rintro i G h C ⟨rfl,a,A,B,e,p,t,m⟩ K' kn kr;apply cQ m;intro rr;haveI e0:(bD:Int)-(i:Nat)=ip (bD-i):=by exact Kt<|dN (RZ C)<|j3 _ _
 rw [e0];obtain⟨l,gl⟩:∃l,c[bD-i]?=J l:=⟨_,f7<|dg Y Z [.t aB Z,.l Y aB] U w<|j3 _ _⟩
 obtain⟨R,W⟩:=v l<|dU gl;haveI D:(c.map fG)[bD-i]?=J (fG l):=by rw [jJ,gl];rfl
 haveI X:Wt a.1:=.inl<|cS p<|bb (.a Y Z) iG [.l (.a Y aB) iG,.t Z aB] U hd C;haveI w2:Wt a.2:=.inl<|cS t<|bb (.a Y Z) iG [.l (.a Y aB) iG,.t Z aB] U hd C;haveI es:jg c (bD-i) a=(l.a.e [a.1,a.2],l.b.e [a.1,a.2]):=by unfold jg;rw [gl]
 refine du L D (dg Y eX [.t Z aB,.t aB lj,.l Y Z] U w P<|j3 _ _) ?_;refine bS rfl ?_;refine bS rfl ?_;refine uz (n:=n) (.inl<|cS R<|jB<|by decide) (jf X) (jf w2) ?_;refine bS rfl ?_;refine uz (n:=n) (.inl<|cS W<|jB<|by decide) (jf X) (jf w2) ?_;refine(kn _ _ ⟨rfl,(l.a.e [a.1,a.2],l.b.e [a.1,a.2]),_,_,?_,?_,?_,rfl⟩).1;·rw [kg,oW,<-e];exact es.symm
 ·haveI:=hQ p t R;rw [show d+(i+1)=1+(d+i)from(bj (aV (.a Y aY) (.a au<|.a Y Z) [] U)<|aV (.a au<|.a Y Z) (.a Y aY) [] U)];exact this
 haveI:=hQ p t W;rw [show d+(i+1)=1+(d+i)from(bj (aV (.a Y aY) (.a au<|.a Y Z) [] U)<|aV (.a au<|.a Y Z) (.a Y aY) [] U)];exact this
end
set_option genInjectivity true
structure Gr(X:List Nat)(H H':Hp):Prop where
 f:H.length<=H'.length
 d:∀l o,H[l]?=J o->l∉X->H'[l]?=J o
theorem Gr.n:Gr X H H:=⟨aK _,λ_ _ h _=>h⟩
theorem Gr.r(a:Gr X H e)(b:Gr X e c):Gr X H c:=⟨dN a.f b.f,λl o h x=>b.d _ _ (a.d _ _ h x) x⟩
theorem Gr.i(a:Gr X H e)(u:nz e o c):Gr X H c:=⟨by rw [u.c];exact tY a.f,λl p h x=>u.a _ _<|a.d _ _ h x⟩
theorem Gr.j(a:Gr X H v)(u:am v l o t)(c:l∈X\/H.length<=l):Gr X H t:=
 ⟨by rw [u.c];exact a.f,λm p h x=>u.a _ _ (a.d _ _ h x) λe=>by
  clear u;subst e
  refine aU c ?_ ?_
  ·intro c;exact x c
  ·intro c;rw [ey c]at h;exact aX h⟩
theorem Gr.q(a:Gr X H c)(S:KT H k t)(p:∀l∈X,H.length<=l):Nx k H t c t:=by
 have g:∀l o,H[l]?=J o->c[l]?=J o:=λl o e=>a.d l o e λm=>by haveI:=p l m;haveI:=bw e;omega
 exact⟨⟨S.a,g _ _ S.b,g _ _ S.e,g _ _ S.f,g _ _ S.h,g _ _ S.j,g _ _ S.d⟩,⟨[],(cI _).symm⟩,a.f,λl o e _ _=>g l o e⟩
theorem LL.f(L:LL H p q)(a:Gr X H n)(t:∀l∈X,H.length<=l):LL n p q:=by
 have g:∀l o,H[l]?=J o->n[l]?=J o:=λl o e=>a.d l o e λm=>by haveI:=t l m;haveI:=bw e;omega
 exact⟨g _ _ L.b,λl m=>g _ _<|L.c l m,λl m=>g _ _<|L.d l m⟩
theorem aA9(a:uw s)(c:uw t)(e:er s=er t):s=t:=by rcases a with rfl|rfl|rfl|rfl<;>rcases c with rfl|rfl|rfl|rfl<;>first|rfl|exact absurd e (by decide)
theorem Fu(a:Wt s)(c:Wt t):bH s=bH t↔s=t:=by refine⟨λe=>?_,λe=>by rw [e]⟩;haveI d:=(aHk e rfl).1;haveI l:=(aHk e rfl).2;refine pB (ux a) λm n _ p _=>pB (ux c) λq v _ w _=>?_;haveI x:jD s=jD t:=aA9 m q<|p.trans<|(dP l).1.trans w.symm;rw [<-n,<-v,d,x]
structure zM(ls:List cC):Prop where
 d:∀l∈ls,l.a.k 1=true/\l.b.k 1=true
 g:∀l∈ls,∀m∈l.c,m.2.2.1.k 4=true/\(V.k m.2.1).p=true
 f:(ls.flatMap λl=>l.c.map (·.1)).Nodup
 h:∀l∈ls,∀e∈l.d,∃a:Ty,a.k 4=true/\(e.1=.m 64 a\/e.1=.m 65 a)
 c:ls.length<=3
 b:(ls.flatMap λl=>l.c.map (·.1)).length<1000
noncomputable abbrev jh:=Nat×List Nat×Ty×Bool
noncomputable abbrev kW:=List (Nat×Nat)×List (Nat×Nat)
noncomputable def kX(a:List cC)(p bD:Nat)(nm:List Nat)(u:Ty)(o:jh):Bool:=aJ (o.2.1=nm)&&aJ (o.2.2.1.e [(dZ a p bD (.j 0,.j 1)).1,(dZ a p bD (.j 0,.j 1)).2]=u)
noncomputable def jE(a:List cC)(bD:Nat)(nm:List Nat)(u:Ty):Nat->Option Nat
 |0=>aA
 |p+1=>match a[p]? with
  |some l=>(match l.c.find? (kX a p bD nm u)with
   |some o=>J o.1
   |none=>jE a bD nm u p)
  |none=>jE a bD nm u p
noncomputable def pE(c:Option Nat)(bD a:Nat)(s:kW):kW:=match c with|none=>(s.1++[(a,s.2.length)],s.2++[(bD,a)])|some o=>(s.1++[(a,(s.1.lookup o).getD 0)],s.2.set ((s.1.lookup o).getD 0) (bD,a))
noncomputable def oC(a:List cC)(bD:Nat)(s:kW)(m:jh):kW:=pE (if m.2.2.2 then aA else jE a bD m.2.1 m.2.2.1 bD) bD m.1 s
noncomputable def lL(a:List cC)(s:kW)(bD:Nat):kW:=match a[bD]? with|some l=>l.c.foldl (oC a bD) s|none=>s
noncomputable def cu(a:List cC):kW:=(cF a.length).foldl (lL a) ([],[])
noncomputable def u_(p:Nat×Nat):V:=V.m [aP p.1,aP p.2]
structure ji(s:kW):Prop where
 a:∀o i,s.1.lookup o=J i->i<s.2.length
 b:s.2.length<=s.1.length
structure TT(H:Hp)(sa ra:Nat)(s:kW):Prop where
 b:H[sa]?=J (.d<|s.1.map iQ)
 a:H[ra]?=J (.a<|s.2.map u_)
theorem ji.c(h:ji s)(hm:m∉s.1.map bI)(n:∀o,d=J o->o∈s.1.map bI):ji (pE d bD m s):=by
 induction d with
 |none=>
  refine⟨λo i e=>?_,?_⟩
  ·rw [show(pE aA bD m s).1=s.1++[(m,s.2.length)]from rfl,zC hm]at e;rw [b9];split at e
   ·(replace e:=ao e;rw [<-e]);exact tc _
   ·exact x_<|h.a _ _ e
  refine(?_:(s.2++[(bD,m)]).length<=(s.1++[(m,_)]).length);rw [b9,b9];exact iW h.b
 |some o=>
  refine oE (sh<|n o rfl) λi l=>⟨λp j e=>?_,?_⟩
  ·have e:(s.1++[(m,(s.1.lookup o).getD 0)]).lookup p=J j:=e;rw [vh];rw [zC hm,l]at e;split at e
   ·(replace e:=ao e;rw [<-e]);exact h.a _ _ l
   ·exact h.a _ _ e
  refine(?_:(s.2.set _ _).length<=(s.1++[(m,_)]).length);rw [vh,b9];exact tY h.b
theorem aBa:(pE a bD m s).1.map bI=s.1.map bI++[m]:=by unfold pE;split<;>(rw [cL];rfl)
theorem Fv:∀{p o:Nat},jE a bD nm u p=J o->X2 λ(q:Nat)(l:cC)=>A3 (q<p) (a[q]?=J l)<|o∈l.c.map (·.1)
 |0,_,h=>by exact aX h|p+1,o,h=>by
  have h:(match a[p]? with|some l=>(match l.c.find? (kX a p bD nm u)with|some o=>J o.1|none=>jE a bD nm u p)|none=>jE a bD nm u p)=J o:=h;induction e:a[p]? with
  |none=>rw [e]at h;refine j9 (Fv h) λq l c d n=>k_ q l (x_ c) d n|some l=>
   rw [e]at h;dsimp only at h;induction f:l.c.find? (kX a p bD nm u)with
   |none=>rw [f]at h;refine j9 (Fv h) λq l c d n=>k_ q l (x_ c) d n|some m=>rw [f]at h;(replace h:=ao h;rw [<-h]);exact k_ p l (tc _) e<|bc.mpr ⟨m,oX f,rfl⟩
noncomputable def mC(s:kW)(r:Option Nat):Nat:=match r with|some o=>(s.1.lookup o).getD 0|none=>s.2.length
theorem aBb(t:Ty):(dK t).all (· <1114112)=true:=by
 induction t with
 |r t a=>refine(?_:(aJ (97<1114112)&&(dK t).all _)=true);rw [a];rfl|m c t a=>refine(?_:(aJ ((if c=64 then 73 else 74)<1114112)&&(dK t).all _)=true);rw [a];split<;>rfl|_=>rfl
theorem aBc(t:Ty):er t<1114112:=by
 induction t with
 |r t a=>exact a|m c t a=>exact a|j i=>refine(?_:(if i=0 then 84 else 85)<1114112);split<;>decide|l i=>refine(?_:(if i=7 then 105 else 115)<1114112);split<;>decide|_=>exact Nat.zero_lt_succ _
theorem xP:(V.k<|bH t).p=true:=by
 haveI h:(bH t).all (· <1114112)=true:=by rw [List.all_append,aBb];refine(?_:(true&&(aJ (er t<1114112)&&true))=true);rw [decide_eq_true<|aBc t];rfl
 refine(?_:((bH t).all (· <1114112)&&_)=true);rw [h];rfl
section
theorem M8{l:List jh}:((x::l).find? p).map (·.1)=if p x then J x.1 else(l.find? p).map (·.1):=by rw [gA];cases p x<;>rfl
inductive aBd(la sa ra bD:Nat)(ls:List cC)(s:kW)(Ao:Nat)(nm:List Nat)(u:Ty)(fr:Bool)(h:Hp)(w:Nat)(G:aS)(h':Hp):Prop
 |mk (p:Nat) (r:Option Nat) (mU km iZ jq jr:Option V) (c0:Gr [] h h') (c1:p<=bD) (c2:r=aA->p<=w/\(fr=false->jE ls bD nm u bD=jE ls bD nm u p)) (c3:∀o,r=J o->fr=false/\jE ls bD nm u bD=J o/\mC s r<s.2.length) (c4:G=[J (.j la),J (.j sa),J (.j ra),J (.d (bD:Nat)),J (aP Ao),J (.k nm),J (.k (bH u)),J (.n fr),J (aP (mC s r)),J (.d ((p:Int)-1)),mU,km,iZ,jq,jr])
theorem aBe{pl:Int}(O:zM c)(L:LL h la c)(T:TT h sa ra s)(ok:ji s)(hn:bD<c.length)(hm:u.k 4=true/\(V.k nm).p=true)(EK:s.2.length<1000)
    (hk:∀q l,q<bD->c[q]?=J l->∀o∈l.c,o.1∈s.1.map bI)
    (e8:sl=s.2.length) (e9:pl=(bD:Int)-1)
    (q:∀h' y9 mU km iZ jq jr,Gr [] h h'->K .a [J<|.j la,J<|.j sa,J<|.j ra,J<|.d (bD:Nat),J<|aP I,J<|.k nm,J<|.k<|bH u,J<|.n fr,J<|aP<|mC s (if fr then aA else jE c bD nm u bD),y9,mU,km,iZ,jq,jr] h'):
    CD (vT (aa<|n+3)<|.H (.w .e (.g 9)<|.h<|.d 0)<|.H (.w .c (.g 8)<|.z<|.g 2)<|.B<|.g 7)
      (dC (aa (n+3)) (.cons (.d 10 (.j 73 (.cons (.g 0) (.cons (.g 9) (.cons (.g 3) (.cons (.r (.cons (.h (.k [84])) (.cons (.h (.k [85])) .nil))) .nil))))))
           (.cons (.l (.c [11,12,13,14]) (.e (.I (.p (.p (.g 0) (.g 9)) (.h (.d 1)))))
             ((.cons (.f (.H (.w .c (.g 12) (.g 5)) (.w .c (.j 72 (.cons (.g 13) (.cons (.g 10) .nil))) (.g 6)))
                ((.cons (.d 8<|.p (.g 1)<|.g 11) .nil))
                (.nil)) .nil)))
           (.cons (.p 9 .c (.h (.d 1))) .nil))))
      [J<|.j la,J<|.j sa,J<|.j ra,J<|.d (bD:Nat),J<|aP I,J<|.k nm,J<|.k<|bH u,J<|.n fr,J<|aP sl,J<|.d pl,mU,km,iZ,jq,jr] h K:=by
  rw [e8];rw [e9]
  have v:=O.c
  refine zJ (aBd la sa ra bD c s I nm u fr h) (m:=bD) ?_ ?_
  · exact⟨bD,aA,_,_,_,_,_,Gr.n,aK _,λ_=>⟨aK _,λ_=>rfl⟩,(λo e=>nomatch e),rfl⟩
  rintro w G h1 ⟨p,r,sW,nZ,mc,n0,nc,t,H,A,B,rfl⟩ K' kn kr
  have gh:∀l o,h[l]?=J o->h1[l]?=J o:=λl o e=>t.d l o e c_
  have L1:=L.f t λ_ m=>by exact bR m
  induction p using iJ with
  |zero=>
    have:=q h1 (J<|.d<|((0:Nat):Int)-1) sW nZ mc n0 nc t
    induction r with
    |none=>
      have e:(if fr then aA else jE c bD nm u bD)=none:=by
        clear B this kn q;induction fr with
        |true=>rfl
        |false=>exact(A rfl).2 rfl
      rw [e]at this;exact this
    |some o=>
      refine fk (B o rfl) λC e2 _=>?_;clear A B kn q;subst C
      rw [e2]at this;exact this
  |succ p=>
    refine jC (show((p+1:Nat):Int)-1≥0 from(uZ p).symm▸j1 _)<|
        gR (gh _ _ T.a) rfl (by rw [ai];exact(ae EK)) ?_
    rw [ai]
    induction r with
    |some o=>
      refine fk (B o rfl) λC e2 e3=>?_;clear B;clear A kn;subst C
      refine dt (show ¬((mC s (J o):Nat):Int)=(s.2.length:Nat)from(mt hZ.mp<|aj<|be Y Z [.t Y Z] U e3)) ?_
      have:=q h1 (J<|.d<|((p+1:Nat):Int)-1) sW nZ mc n0 nc t
      rw [e2]at this;exact this
    |none=>
      refine jC (show((mC s aA:Nat):Int)=(s.2.length:Nat)from rfl) ?_
      clear B;induction fr with
      |true=>exact q h1 (J<|.d<|((p+1:Nat):Int)-1) sW nZ mc n0 nc t
      |false=>
        haveI pw:=(A rfl).1;haveI Q:=(A rfl).2
        have Q:=Q rfl
        haveI ep:((p+1:Nat):Int)-1=ip p:=uZ p
        rw [ep]
        obtain⟨l,gl⟩:∃l,c[p]?=J l:=⟨_,f7<|wj H hn⟩
        have lm:=dU gl
        haveI Ap:(c.map fG)[p]?=J (fG l):=by rw [jJ,gl];rfl
        refine Ft (n:=n+1) (d:=0) (x:=.j 0) (y:=.j 1) L1.b O.d rfl rfl hn (de (.a bQ Y) iG [.t Z aB,.l aB bq,.e (.a Y aI) Z] U hn v<|bY<|aV Y Z [.l aR Z] U H) (cN v) (ae<|bz (wj H hn) v) ?_
        intro t1 t2
        refine du L1.b Ap (ae<|bz (wj H hn) v)<|
            bS rfl ?_
        haveI ll:l.c.length<1000:=by
          haveI h1:=O.b
          have:(l.c.map (·.1)).length<=(c.flatMap λl=>l.c.map (·.1)).length:=by
            refine Kn (List.append_of_mem lm) λa b e=>?_
            rw [e,nD,kc,b9,b9];exact(bb Y (.a Z<|.a Y aB) [] U)
          rw [ai]at this;exact(cN this h1)
        refine zI (L1.c l lm) (by rw [ai];exact(ae ll))<|
            bX λh2 u2=>
            fq u2.b ?_
        generalize J8:dZ c p bD (.j 0,.j 1)=xy at t1 t2
        obtain⟨x,y⟩:=xy
        have t1:x.k (0+(bD-p))=true:=t1
        have t2:y.k (0+(bD-p))=true:=t2
        haveI G2:=t.i u2
        haveI T2:∀l o,h[l]?=J o->h2[l]?=J o:=λl o e=>u2.a _ _<|gh l o e
        have w':∃w',w=w'+1:=⟨w-1,(bj (aV Y aY [.g aY Y] U<|bY<|aV au Y [.l aY Y] U pw)<|aV aR Z [.e aR Z] U<|bY<|aV au Y [.l aY Y] U pw)⟩
        clear A;obtain⟨w',rfl⟩:=w'
        refine fp (λeC G h'=>h'=h2/\X6 λ(R P:List jh)(nZ mc n0 nc:Option V)=>A3 (eC=R.map qI) (l.c.reverse=P++R)<|G=[J<|.j la,J<|.j sa,J<|.j ra,J<|.d (bD:Nat),J<|aP I,J<|.k nm,J<|.k<|bH u,J<|.n false,J<|aP<|mC s<|(P.reverse.find?<|kX c p bD nm u).map (·.1),J<|.d (p:Nat),J<|gJ x y,nZ,mc,n0,nc]) ?_ ?_ ?_ ?_
        · exact⟨rfl,l.c.reverse,[],_,_,_,_,by rw [RU],rfl,rfl⟩
        · rintro eC G h' ⟨rfl,_⟩;exact .inl u2.b
        · rintro G h' ⟨rfl,R,P,nZ,mc,n0,nc,eR,eP,rfl⟩
          obtain rfl:R=[]:=by induction R using bk with|nil=>rfl|cons _ _=>exact iN eR
          rw [cI]at eP
          rw [<-eP,IA]
          refine bK (x:=V.d<|(p:Int)-1) rfl ?_
          haveI eo:jE c bD nm u (p+1)=match(l.c.find?<|kX c p bD nm u).map (·.1)with|some o=>J o|none=>jE c bD nm u p:=by
            refine(?_:(match c[p]? with|some l=>(match l.c.find? (kX c p bD nm u)with|some o=>J o.1|none=>jE c bD nm u p)|none=>jE c bD nm u p)=_)
            rw [gl]
            dsimp only
            cases l.c.find? (kX c p bD nm u)<;>rfl
          refine(kn w' _ _ rfl ⟨p,(l.c.find?<|kX c p bD nm u).map (·.1),_,_,_,_,_,G2,(lz H),λe=>⟨(aV Y Z [.l aR aY] U pw),λ_=>?_⟩,λo e=>⟨rfl,?_,?_⟩,rfl⟩).1
          · rw [Q,eo,e]
          · rw [Q,eo,e]
          · rw [e]
            refine aG (kF.mp e) λmo m1 m2=>?_
            haveI:=hk p l (kz H) gl mo<|oX m1
            refine oE (sh this) λi hi=>
                (?_:(s.1.lookup o).getD 0<_)
            rw [<-m2,hi]
            exact ok.a _ _ hi
        · rintro w bo G h' ⟨rfl,R,P,nZ,mc,n0,nc,eR,eP,fB⟩ K2 lZ yR
          apply cQ fB;intro rr
          induction R using bk with
          |nil=>exact hI eR
          |cons o R=>
            haveI C:=(dP eR).1;haveI bT:=(dP eR).2;clear eR;subst C;subst bT
            obtain⟨om,on,D,of⟩:=o
            have mo:((om,on,D,of):jh)∈l.c:=xx.mp<|eP▸dT _ (.head _)
            obtain⟨w1,w2⟩:=O.g l lm _ mo
            haveI w1:D.k 4=true:=w1
            haveI w2:(V.k on).p=true:=w2
            have next:∀sl b,kX c p bD nm u (om,on,D,of)=b->sl=(if b then(s.1.lookup om).getD 0 else mC s<|(P.reverse.find?<|kX c p bD nm u).map (·.1))->K2 .a [J<|.j la,J<|.j sa,J<|.j ra,J<|.d (bD:Nat),J<|aP I,J<|.k nm,J<|.k<|bH u,J<|.n false,J<|aP sl,J<|.d (p:Nat),J<|gJ x y,J<|aP om,J<|.k on,J<|.k<|bH D,J<|.n of] h':=by
              intro sl b hb e
              have:mC s (((P++[(om,on,D,of)]).reverse.find?<|kX c p bD nm u).map (·.1))=sl:=by
                rw [RW]
                rw [M8,hb,e]
                induction b<;>rfl
              rw [<-this]
              exact(lZ _ _ ⟨rfl,R,P++[(om,on,D,of)],J<|aP om,J<|.k on,J<|.k<|bH D,J<|.n of,rfl,by rw [eP,d6];rfl,rfl⟩).1
            refine bK (gI w2 hm.2) ?_
            haveI wx:Wt x:=.inl<|cS t1<|de (.a bQ Y) iG [.t Z aB,.l aB bq,.e (.a Y aI) Z] U hn v<|bY<|aV Y Z [.l aR Z] U H
            haveI wy:Wt y:=.inl<|cS t2<|de (.a bQ Y) iG [.t Z aB,.l aB bq,.e (.a Y aI) Z] U hn v<|bY<|aV Y Z [.l aR Z] U H
            by_cases W:on=nm
            · refine iO (decide_eq_true W)<|
                  uz (n:=n+2) (.inl<|cS w1<|jB<|by decide) (jf wx) (jf wy)<|
                  bK (gI xP xP) ?_
              haveI ws:Wt (D.e [x,y]):=.inl<|cS (e:=8) (hQ (d:=0+(bD-p)) t1 t2 w1)<|de (.a (.n 4)<|.a bQ Y) iG [.t Z aB,.l aB bq,.e (.a Y aI) Z] U hn v<|bY<|aV Y Z [.l aR Z] U H
              have hi:=Fu ws (.inl (cS hm.1<|jB<|by decide):Wt u)
              by_cases hs:D.e [x,y]=u
              · refine iO (decide_eq_true<|hi.mpr hs)<|
                    oE (sh<|hk p l (kz H) gl _ mo) λi X=>?_
                haveI X:s.1.lookup om=J i:=X
                refine uv (T2 _ _ T.b) (ut.trans<|congrArg _ X)<|
                    next i true ?_ (by rw [X];rfl)
                unfold kX
                rw [J8]
                refine(?_:(aJ (on=nm)&&aJ (D.e [x,y]=u))=true)
                rw [decide_eq_true W,decide_eq_true hs];rfl
              · refine hM (decide_eq_false λz=>hs<|hi.mp z)<|
                    next _ false ?_ rfl
                unfold kX
                rw [J8]
                refine(?_:(aJ (on=nm)&&aJ (D.e [x,y]=u))=false)
                rw [decide_eq_false hs,IB]
            · refine hM (decide_eq_false W)<|
                  next _ false ?_ rfl
              refine(?_:(aJ (on=nm)&&_)=false)
              rw [decide_eq_false W,DU]
end
section
theorem aBf(h:es.length<1000000):qL (.d es) (.d i) v=J (.d<|fR es i v):=if_pos h
theorem M9(h:a[p]?=J l):lL a s p=l.c.foldl (oC a p) s:=by unfold lL;rw [h]
def aBg(H:Hp)(v:Nat)(c:List cC)(t:Hp)(p:Nat)(G:aS)(h:Hp):Prop:=∀a:Prop,(∀(w x z A B C D d e m n q:Option V)(I:Gr [] H h)(P:H.length+1<h.length)(Q:TT h H.length t.length<|(cF p).foldl (lL c) ([],[]))(R:ji<|(cF p).foldl (lL c) ([],[]))(W:((cF p).foldl (lL c) ([],[])).1.map bI=((c.take p).flatMap λl=>l.c.map (·.1))) (X:G=[J<|.j v,J<|.j H.length,J<|.j t.length,w,x,z,A,B,C,D,d,e,m,n,q]),a)->a
def aBh(H:Hp)(x:Nat)(c:List cC)(w:Hp)(p:Nat)(l:cC)(z:kW)(d:List V)(G:aS)(e:Hp):Prop:=∀a:Prop,(∀(R P:List jh)(s:kW)(A B C D I Q m n q t v:Option V)(W:d=R.map qI)(X:l.c=P++R)(w2:Gr [] H e)(w3:H.length+1<e.length)(w4:TT e H.length w.length s)(w5:ji s)(w6:s.1.map bI=((c.take p).flatMap λl=>l.c.map (·.1))++P.map (·.1)) (w7:R.foldl (oC c p) s=l.c.foldl (oC c p) z) (w8:G=[J<|.j x,J<|.j H.length,J<|.j w.length,J<|aP p,A,B,C,D,I,Q,m,n,q,t,v]),a)->a
theorem aBi(O:zM c)(L:LL H la c)(q:∀H' sa ra,Gr [] H H'->H.length<=sa->H.length<=ra->TT H' sa ra (cu c)->ji (cu c)->(cu c).1.map bI=(c.flatMap λl=>l.c.map (·.1))->Q (V.m [.j sa,.j ra]) H'):
  aa (n+4) 77 [.j la] H Q:=by
 refine ce (fn:=QJ) rfl rfl ?_;intro rr;haveI J9:=O.c;refine bX λh0 u0=>bX λh1 u1=>?_;have l0:=u0.c;haveI l1:=u1.c;haveI G1:Gr [] H h1:=(Gr.n.i u0).i u1;haveI L1:=L.f G1 λ_ m=>by exact bR m
 refine gR L1.b rfl (by rw [ai];exact(cN J9)) ?_;rw [ai];refine qB c.length rfl (cN J9) ?_;refine qC (aBg H la c h0) (si _) ?_ ?_ ?_;·exact λ_ k=>k aA aA aA aA aA aA aA aA aA aA aA aA G1 (Ki l0 l1) ⟨u1.a _ _ u0.b,u1.b⟩ ⟨(λo i e=>nomatch e),aK _⟩ rfl rfl
 ·intro G h I;refine I _ λy3 y4 y5 y6 y7 y8 y9 mU km iZ jq jr t hl T ok ek d=>?_;apply cQ d;intro rr;rw [DT<|aK _]at ek;exact q h _ _ t (aK _) (ql l0) T ok ek
 intro p G h hp I;refine I _ λy3 y4 y5 y6 y7 y8 y9 mU km iZ jq jr t hl T ok ek d=>?_;intro K1 Ja kr1;apply cQ d;intro rr;obtain⟨l,gl⟩:∃l,c[p]?=J l:=⟨_,f7 hp⟩
 haveI lm:=dU gl;haveI Ap:(c.map fG)[p]?=J (fG l):=by rw [jJ,gl];rfl
 haveI Lh:=L.f t λ_ m=>by exact bR m
 haveI hpm:=bw<|L.c l lm;have split:c.flatMap (λl=>l.c.map (·.1))=(c.take p).flatMap (λl=>l.c.map (·.1))++(l.c.map (·.1)++(c.drop<|p+1).flatMap λl=>l.c.map (·.1)):=by
  haveI this:=aHa hp;have e:c[p]=l:=by rw [f7 hp]at gl;exact ao gl
  rw [e]at this;haveI e0:c=c.take p++l::c.drop (p+1):=by rw [<-this,aHf]
  exact(congrArg (λz=>R0 (λl:cC=>l.c.map (·.1)) z) e0).trans<|by rw [nD,kc]
 haveI nd:=O.f;haveI ml:=O.b;rw [split]at nd ml;rw [b9,b9,ai]at ml;refine du Lh.b Ap (ae<|bz hp J9)<|bS rfl ?_;refine fq (Lh.c l lm) ?_;generalize es0:(cF p).foldl (lL c) ([],[])=s0 at T ok ek;refine fp (aBh H la c h0 p l s0) ?_ ?_ ?_ ?_;·exact λ_ k=>k l.c ([]) s0 _ _ _ _ _ _ _ _ _ _ _ rfl rfl t hl T ok (by rw [ek];exact(cI _).symm) rfl rfl
 ·intro eC G h' I;refine I _ λ_ _ _ _ _ _ _ _ _ _ _ _ _ _ _ _ G' _ _ _ _ _ _=>?_;exact .inl<|(L.f G' λ_ m=>by exact bR m).c l lm
 ·intro G h' I;refine I _ λR P s y4 y5 y6 y7 y8 y9 mU km iZ jq jr eR eP G' wG T' v x ef d=>?_;apply cQ d;intro rr;obtain rfl:R=[]:=by induction R using bk with|nil=>rfl|cons _ _=>exact iN eR
  rw [cI]at eP;have e1:(cF<|p+1).foldl (lL c) ([],[])=s:=by rw [kg,oW,es0];refine(?_:lL c s0 p=s);rw [M9 gl];exact ef.symm
  refine(Ja _ _ λ_ k=>k _ _ _ _ _ _ _ _ _ _ _ _ G' wG (by rw [e1];exact T') (by rw [e1];exact v) ?_ rfl).1;rw [e1,x,Lu gl,nD,<-eP];exact congrArg _ (cI _).symm
 intro w bo G h' I;refine I _ λR P s y4 y5 y6 y7 y8 y9 mU km iZ jq jr eR eP G' wG T' v x ef d=>?_;intro K2 lZ yR;apply cQ d;intro rr;induction R using bk with
 |nil=>exact hI eR|cons m R=>
  haveI cG:=(dP eR).1;haveI bT:=(dP eR).2;clear eR;rw [cG];clear I;subst bT;obtain⟨a,nm,u,fr⟩:=m;haveI mm:((a,nm,u,fr):jh)∈l.c:=eP▸dT _ (.head _);haveI hm:=O.g l lm _ mm;haveI lg:qI (a,nm,u,fr)=V.m [aP a,.k nm,.k<|bH u,.n fr]:=rfl;rw [lg];have C:=v.b;have kl:s.1.length<1000:=by haveI h1:=congrArg gB x;haveI h2:=congrArg gB eP;rw [ai,b9,ai]at h1;rw [b9]at h2;omega
  have D:a∉s.1.map Prod.fst:=by
   rw [x];intro m;haveI uE:((c.take p).flatMap (λl=>l.c.map (·.1))++l.c.map (·.1)).Nodup:=by rw [<-d6]at nd;exact(iu.mp nd).1
   rw [eP,cL,g9]at uE;refine aU (eO.mp m) ?_ ?_;·intro m;exact(iu.mp uE).2.2 _ m a (dT _<|.head _) rfl
   intro m;exact(iu.mp (iu.mp uE).2.1).2.2 _ m a (.head _) rfl
  have hk:∀q l,q<p->c[q]?=J l->∀o∈l.c,o.1∈s.1.map Prod.fst:=by
   intro q l' hq gq o ho;rw [x];refine dI _<|rU.mpr ⟨l',?_,bc.mpr ⟨o,ho,rfl⟩⟩;have:(c.take p)[q]?=J l':=by rw [List.getElem?_take,if_pos hq];exact gq
   exact dU this
  haveI L':=L.f G' λ_ m=>by exact bR m
  refine gR T'.a rfl (by rw [ai];exact(ae<|cN C kl)) ?_;rw [ai];refine aBe O L' T' v hp hm (cN C kl) hk rfl rfl ?_;intro h3 z9 sW nZ mc n0 nc G3;haveI g3:∀l o,h'[l]?=J o->h3[l]?=J o:=λl o e=>G3.d l o e c_;haveI s3:=g3 _ _ T'.b;haveI r3:=g3 _ _ T'.a;generalize A:(if fr then aA else jE c p nm u p)=W;haveI Tp:oC c p s (a,nm,u,fr)=pE W p a s:=by unfold oC;rw [<-A]
  have yJ:∀o,W=J o->o∈s.1.map Prod.fst:=by
   intro o e;rw [e]at A;split at A;·exact aX A
   refine j9 (Fv A) λq' l' h1 h2 h3=>aG (bc.mp h3) λz z1 z2=>?_;rw [<-z2];exact hk q' l' h1 h2 z z1
  refine jS s3 (aBf<|by rw [ai];exact(ae kl)) ?_;have X:am h3 H.length (.d<|fR (s.1.map iQ) (a:Nat)<|aP<|mC s W) (h3.set H.length<|.d<|fR (s.1.map iQ) (a:Nat)<|aP<|mC s W):=am.d s3;revert X;generalize h3.set H.length (.d<|fR (s.1.map iQ) (a:Nat)<|aP<|mC s W)=h4;intro X;rw [FT D]at X;have r4:=X.a _ _ r3<|a9<|nW l0;haveI G4:Gr [] H h4:=(G'.r G3).j X<|.inr<|aK _;haveI l4:H.length+1<h4.length:=by rw [X.c];haveI:=G3.f;exact(bz wG this)
  refine gR r4 rfl (by rw [ai];exact(ae<|cN C kl)) ?_;rw [ai];haveI fC:∀h5 y,Gr [] H h5->H.length+1<h5.length->TT h5 H.length h0.length (pE W p a s)->K2 .a [J<|.j la,J<|.j H.length,J<|.j h0.length,J<|aP p,J<|aP a,J<|.k nm,J<|.k<|bH u,J<|.n fr,J<|aP<|mC s W,y,sW,nZ,mc,n0,nc] h5:=by
   intro h5 y G5 l5 T5;refine(lZ _ _ λ_ k=>k R (P++[(a,nm,u,fr)]) (pE W p a s) _ _ _ _ _ _ _ _ _ _ _ rfl (by rw [eP,d6];rfl) G5 l5 T5 (v.c D yJ) ?_ ?_ rfl).1;·rw [aBa,x,d6,cL];rfl
   rw [<-ef,H_,Tp]
  clear Tp A;induction W with
  |none=>refine jC (show((mC s aA:Nat):Int)=(s.2.length:Nat)from rfl)<|dE (dj r4)<|eB r4 (by rw [ai];exact(ae<|cN C kl)) ?_;have B:=am.d (o:=.a<|s.2.map u_++[V.m [.d (p:Nat),aP a]]) r4;revert B;generalize h4.set h0.length _=h5;intro B;refine fC h5 _ (G4.j B<|.inr<|ql l0) (by rw [B.c];exact l4) ⟨B.a _ _ X.b<|aj<|nW l0,?_⟩;rw [B.b];rw [cL];rfl|some o=>
   refine oE (sh<|yJ o rfl) λi hi=>?_;haveI il:=v.a _ _ hi;have es:mC s (J o)=i:=by refine(?_:(s.1.lookup o).getD 0=i);rw [hi];rfl
   rw [es];refine dt (show ¬((i:Nat):Int)=(s.2.length:Nat)from(mt hZ.mp<|aj<|be Y Z [.t Y Z] U il))<|jS r4 (Bv (ae<|ae (bz il C) kl)<|by rw [ai];exact il) ?_;have B:am h4 h0.length (.a<|(s.2.map u_).set i<|V.m [.d (p:Nat),aP a]) (h4.set h0.length<|.a<|(s.2.map u_).set i<|V.m [.d (p:Nat),aP a]):=am.d r4;revert B;generalize h4.set h0.length (.a<|(s.2.map u_).set i<|V.m [.d (p:Nat),aP a])=h5;intro B;rw [es]at fC X;haveI ep:pE (J o) p a s=(s.1++[(a,i)],s.2.set i (p,a)):=by refine(?_:(s.1++[(a,(s.1.lookup o).getD 0)],s.2.set ((s.1.lookup o).getD 0) (p,a))=_);rw [hi];rfl
   refine fC h5 _ (G4.j B<|.inr<|ql l0) (by rw [B.c];exact l4) ?_;rw [ep];refine⟨B.a _ _ X.b<|aj<|nW l0,?_⟩;rw [B.b];rw [Hz];rfl
end
noncomputable abbrev Ev:=Ty×Nat×Nat
noncomputable def mD(x y:Ty)(e:Ev):Ev:=(e.1.e [x,y],e.2.1,e.2.2)
noncomputable def pF(c:List cC)(a bD:Nat):List Ev:=match c[bD]? with|some l=>l.d.map<|mD (dZ c bD a (.j 0,.j 1)).1 (dZ c bD a (.j 0,.j 1)).2|none=>[]
noncomputable def gS(a:List cC):List Ev:=(cF a.length).flatMap λi=>pF a (a.length-1)<|a.length-1-i
theorem aBj(e:n=m+1):iT (pN (m:Nat)<|-1)=(cF n).map λi=>V.d ((m:Int)-(i:Nat)):=by delta iT pN;rw [iv];have:((m:Int)-(-1)).toNat=n:=(congrArg Int.toNat<|Int.sub_neg _ 1).trans e.symm;rw [this];rfl
section
theorem Fw(h:∃a:Ty,a.k d=true/\(f=.m 64 a\/f=.m 65 a)) (hd:d<=8):Wt f:=by refine aG h λa c e=>.inr ⟨a,cS c hd,e⟩
def aBk(H:Hp)(d:Nat)(c:List cC)(i:Nat)(G:aS)(h:Hp):Prop:=∀a:Prop,(∀(e l m n p:Option V)(q:Gr [] H h)(t:H.length<h.length)(v:h[H.length]?=J (.a<|((cF i).flatMap λi=>pF c (c.length-1)<|c.length-1-i).map iR)) (w:G=[J<|.j d,J<|.j H.length,J<|.d ((c.length-1:Nat):Int),e,l,m,n,p]),a)->a
def aBl(H:Hp)(e:Nat)(m:List cC)(p:Nat)(l:cC)(x y:Ty)(done:List Ev)(c:List V)(G:aS)(d:Hp):Prop:=∀a:Prop,(∀(R P:List Ev)(n q t:Option V)(v:c=R.map iR)(w:l.d=P++R)(z:Gr [] H d)(A:H.length<d.length)(B:d[H.length]?=J (.a<|(done++P.map (mD x y)).map iR))(C:G=[J<|.j e,J<|.j H.length,J<|.d ((m.length-1:Nat):Int),J<|.d (p:Nat),J<|gJ x y,n,q,t]),a)->a
theorem aBm(O:zM a)(L:LL H la a)(A:0<a.length)(hev:(gS a).length<1000)(q:∀H' oa,Gr [] H H'->H.length<=oa->H'[oa]?=J (.a<|(gS a).map iR)->Q (.j oa) H'):
  aa (n+4) 78 [.j la] H Q:=by
 refine ce (fn:=QK) rfl rfl ?_;intro rr;have c:=O.c;refine bX λh1 u1=>?_;have G1:Gr [] H h1:=Gr.n.i u1;haveI l1:=u1.c;haveI L1:=L.f G1 λ_ m=>by exact bR m
 refine gR L1.b rfl (by rw [ai];exact(cN c)) ?_;rw [ai];haveI e0:((a.length:Nat):Int)-1=((a.length-1:Nat):Int):=yx<|by assumption
 refine(?_:dC _ _ [J<|.j la,J<|.j H.length,J<|.d<|((a.length:Nat):Int)-1,aA,aA,aA,aA,aA] _ _);rw [e0];refine⟨((a.length-1:Nat):Int),-1,rfl,rfl,⟨Ez _,(fT.mpr<|be Y eX [.l Z bq,.e aR Z] U c<|bY<|cA au Y [.t bQ Y] U A),by omega,by omega⟩,?_⟩;refine qC (aBk H la a) (aBj (n:=a.length)<|bj (aV Y aY [.g aY Y] U<|bY<|cA au Y [.t bQ Y] U A)<|aV aR Z [.e aR Z] U<|bY<|cA au Y [.t bQ Y] U A) ?_ ?_ ?_;·exact λ_ k=>k aA aA aA aA aA G1 (nW l1) u1.b rfl
 ·intro G h B;refine B _ λy3 y4 y5 y6 y7 v hl ho t=>?_;apply cQ t;intro rr;exact q h _ v (aK _) ho
 intro i G h hi B;refine B _ λy3 y4 y5 y6 y7 v hl ho t=>?_;intro K1 Ja kr1;apply cQ t;intro rr;haveI e1:((a.length-1:Nat):Int)-(i:Nat)=ip (a.length-1-i):=Kt<|Nat.le_sub_one_of_lt hi;rw [e1];generalize ep:a.length-1-i=p at*;obtain⟨l,gl⟩:∃l,a[p]?=J l:=⟨_,f7<|jA Y Z [.g aB Y,.e fM Z,.l aB aI] U ep (bY<|cA au Y [.t bQ Y] U A)<|j3 _ _⟩
 haveI lm:=dU gl;haveI Ap:(a.map fG)[p]?=J (fG l):=by rw [jJ,gl];rfl
 have Lh:=L.f v λ_ m=>by exact bR m
 refine Ft (n:=n+1) (d:=0) (x:=.j 0) (y:=.j 1) (bD:=a.length-1) Lh.b O.d rfl rfl (be Y Z [.e aR Z] U<|bY<|cA au Y [.t bQ Y] U A) (bb (.a bQ Y) iG [.l Z bq,.e bN Z,.l Y aB] U c (bY<|cA au Y [.t bQ Y] U A)<|j3 _ _) (cN c) (jA Y lj [.l Z bq,.g aB Y,.e fM Z,.l aB aI] U c ep (bY<|cA au Y [.t bQ Y] U A)<|j3 _ _) ?_;intro t1 t2;haveI C:pF a (a.length-1) p=l.d.map (mD (dZ a p (a.length-1) (.j 0,.j 1)).1 (dZ a p (a.length-1) (.j 0,.j 1)).2):=by unfold pF;rw [gl]
 generalize J8:dZ a p (a.length-1) (.j 0,.j 1)=xy at t1 t2 C;obtain⟨x,y⟩:=xy;haveI t1:x.k (0+(a.length-1-p))=true:=t1;haveI t2:y.k (0+(a.length-1-p))=true:=t2;haveI wx:Wt x:=.inl<|cS t1<|bb (.a bQ Y) iG [.l Z bq,.e bN Z,.l Y aB] U c (bY<|cA au Y [.t bQ Y] U A)<|j3 _ _;haveI wy:Wt y:=.inl<|cS t2<|bb (.a bQ Y) iG [.l Z bq,.e bN Z,.l Y aB] U c (bY<|cA au Y [.t bQ Y] U A)<|j3 _ _;haveI C:pF a (a.length-1) p=l.d.map (mD x y):=C;refine du Lh.b Ap (jA Y eX [.l Z bq,.g aB Y,.e fM Z,.l aB aI] U c ep (bY<|cA au Y [.t bQ Y] U A)<|j3 _ _)<|bS rfl ?_;refine fq (Lh.d l lm) ?_;generalize ed:(cF i).flatMap (λi=>pF a (a.length-1)<|a.length-1-i)=done at ho;have Tq:(cF<|i+1).flatMap (λi=>pF a (a.length-1)<|a.length-1-i)=done++l.d.map (mD x y):=by rw [kg,nD,ed];refine(?_:done++(pF a (a.length-1) (a.length-1-i)++[])=_);rw [ep,C,cI]
 haveI dl:(done++l.d.map (mD x y)).length<1000:=by
  rw [<-Tq];refine lV ?_ hev;unfold gS;have:a.length=(i+1)+(a.length-(i+1)):=(bj (bb Y (.a aY aB) [.g (.a aB aY) Y] U<|bY<|aV aR Z [.t Y Z] U hi)<|bb (.a aR Z) aB [.e (.a Z aR) aB] U<|bY<|aV aR Z [.t Y Z] U hi)
  rw [show cF a.length=cF (i+1)++(cF<|a.length-(i+1)).map ((i+1)+·)by rw [<-List.range_add,<-this],nD,b9];exact jZ _ _
 rw [b9,ai]at dl;refine fp (aBl H la a p l x y done) ?_ ?_ ?_ ?_;·exact λ_ k=>k l.d ([]) y5 y6 y7 rfl rfl v hl (by rw [aHl,cI];exact ho) rfl
 ·intro eC G h' B;refine B _ λ_ _ _ _ _ _ _ G' _ _ _=>?_;exact .inl<|(L.f G' λ_ m=>by exact bR m).d l lm
 ·intro G h' B;refine B _ λR P y5 y6 y7 W X G' I z t=>?_;apply cQ t;intro rr;obtain rfl:R=[]:=by induction R using bk with|nil=>rfl|cons _ _=>exact iN W
  rw [cI]at X;exact(Ja _ _ λ_ k=>k _ _ _ _ _ G' I (by rw [Tq,X];exact z) rfl).1
 intro w bo G h' B;refine B _ λR P y5 y6 y7 W X G' I z t=>?_;intro K2 lZ yR;apply cQ t;intro rr;induction R using bk with
 |nil=>exact hI W|cons e R=>
  haveI cG:=(dP W).1;haveI bT:=(dP W).2;rw [cG];clear W;clear B;subst bT;obtain⟨f,dd,bd⟩:=e;haveI me:((f,dd,bd):Ev)∈l.d:=X▸dT _ (.head _);haveI hf:=O.h l lm _ me;haveI lg:iR (f,dd,bd)=V.m [.k<|bH f,aP dd,aP bd]:=rfl;rw [lg];haveI pl:P.length+1<=l.d.length:=by rw [X,b9,rV];exact IC (vl 1 _) _
  refine dE (dj z)<|uz (n:=n+2) (Fw hf<|by decide) (jf wx) (jf wy)<|eB z (by rw [ai,b9,ai];omega) ?_;have u:am h' H.length (.a<|(done++P.map (mD x y)).map iR++[V.m [.k<|bH<|f.e [x,y],aP dd,aP bd]]) (h'.set H.length<|.a<|(done++P.map (mD x y)).map iR++[V.m [.k<|bH<|f.e [x,y],aP dd,aP bd]]):=am.d z;revert u;generalize h'.set H.length (.a<|(done++P.map (mD x y)).map iR++[V.m [.k<|bH<|f.e [x,y],aP dd,aP bd]])=h2;intro u;refine(lZ _ _ λ_ k=>k R (P++[(f,dd,bd)]) _ _ _ rfl (by rw [X,d6];rfl) (G'.j u<|.inr<|aK _) (by rw [u.c];exact I) ?_ rfl).1;rw [u.b];haveI e9:done++(P++[(f,dd,bd)]).map (mD x y)=(done++P.map (mD x y))++[mD x y (f,dd,bd)]:=by rw [cL,d6];rfl
  rw [e9];generalize done++P.map (mD x y)=D;rw [cL];rfl
end
theorem aBn(h:(es.map bI).Nodup)(m:e∈es):d9 es e.1=J e.2:=by
 induction es with
 |nil=>exact bR m|cons d es c=>
  rw [g9]at h;haveI l:=(gN.mp h).1;haveI n:=(gN.mp h).2;unfold d9 at c⊢;rw [gA];refine aU (dA.mp m) ?_ ?_;·intro a;rw [a];rw [decide_eq_true rfl];rfl
  intro m;have:d.1≠e.1:=λz=>l<|z▸bc.mpr ⟨e,m,rfl⟩;rw [decide_eq_false this];exact c n m
theorem aBo(h:(es.map bI).Nodup)(m:e∈es):cH es e.1=J e.2:=by
 induction es with
 |nil=>exact bR m|cons d es c=>
  rw [g9]at h;refine on (gN.mp h) λl n=>?_;unfold cH at c⊢;rw [gA];refine aU (dA.mp m) ?_ ?_;·intro a;rw [a];rw [decide_eq_true rfl];rfl
  intro m;have:d.1≠e.1:=λz=>l<|z▸bc.mpr ⟨e,m,rfl⟩;rw [decide_eq_false this];exact c n m
section
theorem Ma{s:List<|Nat×Nat}:(s.map iQ).all (·.2.p)=true:=by rw [eI];intro x m;refine aG (bc.mp m) λt _ a=>?_;rw [<-a];rfl
theorem Fx(a:H[l]?=J o)(c:H[r]?=J p)(e:tH o p=J true):eK bW H .d (.j l) (.j r)=J false:=
 congrArg (oV (!·)) (show(H[l]?).bind (λo=>(H[r]?).bind λp=>tH o p)=J true from(f0 a).trans<|(f0 c).trans e)
theorem Mb{s:List<|Nat×Nat}(d:H[l]?=J (.d<|s.map iQ))(n:H[r]?=J (.d<|s.map iQ))(p:(s.map bI).Nodup):eK bW H .d (.j l) (.j r)=J false:=by
 haveI c:((s.map iQ).map bI).Nodup:=by
  have:(s.map iQ).map bI=(s.map bI).map (λi:Nat=>(i:Int)):=by rw [iv,iv];rfl
  rw [this];exact List.Pairwise.map _ (λa b q e=>q<|Int.ofNat.inj e) p
 have:rH (s.map iQ) (s.map iQ)=true:=by unfold rH;rw [beq_self_eq_true,Hy,eI];intro e m;rw [aBn c m];exact beq_self_eq_true _
 exact Fx d n<|(aCL Ma Ma).trans<|congrArg J this
theorem zN(d:H[l]?=J (.a a))(e:H[r]?=J (.a a))(c:a.all V.p=true):eK bW H .d (.j l) (.j r)=J false:=Fx d e<|(Nq c c).trans<|congrArg J<|decide_eq_true rfl
theorem Fy{c:List<|Ty×Nat}:(c.map<|cZ d).all V.p=true:=by rw [eI];intro x m;refine aG (bc.mp m) λt _ a=>?_;rw [<-a];rfl
theorem Mc(A:FD cZ H z l a)(B:FD cZ H z r b)(v:a.length=b.length)(w:∀f,cH a f=cH b f):eK bW H .d (.j l) (.j r)=J false:=by
 have p:∀c:fQ,(c.map λe=>(cW z e.1,cZ z e.2)).all (·.2.p)=true:=λc=>by rw [eI];intro x m;refine aG (bc.mp m) λt _ n=>?_;rw [<-n];rfl
 have:rI (a.map λe=>(cW z e.1,cZ z e.2)) (b.map λe=>(cW z e.1,cZ z e.2))=true:=by unfold rI;rw [ai,ai,v,beq_self_eq_true,Hy,eI];intro e m;refine aG (bc.mp m) λd q n=>?_;rw [<-n];rw [B.o<|A.i d q,<-w,aBo A.n q];exact beq_self_eq_true _
 exact Fx A.c B.c<|(aCM (p a)<|p b).trans<|congrArg J this
end
noncomputable def pG(a:List cC)(c:Ty×Ty)(bD:Nat):Ty:=.o (66+bD) (dZ a bD (a.length-1) c).1 (dZ a bD (a.length-1) c).2
noncomputable def gT(a:List cC)(c:Ty×Ty):List (Ty×Nat):=(cu a).2.map λp=>(pG a c p.1,p.2)
noncomputable def mw(x y:Ty)(a:List Ty):List Ty:=cB []<|a.map<|Ty.e [x,y]
noncomputable def jj(a:List cC)(c:Ty×Ty)(b:Nat):Option (Ty×Nat):=((cu a).1.lookup b).bind λi=>(gT a c)[i]?
noncomputable def jk(a:List cC)(x y:Ty)(m:fQ)(e:Ev):fQ:=if e.1.e [x,y]∈m.map bI then m else match jj a (x,y) e.2.2 with|some r=>gj m (e.1.e [x,y]) r|none=>m
noncomputable def pH(a:List cC)(x y:Ty):fQ:=(gS a).foldl (jk a x y) []
structure zO(ls:List cC):Prop where
 c:∀e∈gS ls,∃a:Ty,a.k 6=true/\(e.1=.m 64 a\/e.1=.m 65 a)
 d:∀e∈gS ls,e.2.1=a_ e.1
 f:∀e∈gS ls,e.2.2∈(cu ls).1.map bI
 b:(gS ls).length<1000
structure Md(σ:az)(aW:Nat->List Ty)(ls:List cC)(fs:List Ty)(x y:Ty)(ts:List Ty)(c:dh):Prop where
 b:x.k 2=true
 d:y.k 2=true
 e:jc σ ts
 k:ts.head?=J (.o (66+(ls.length-1)) x y)
 l:2<=ts.length
 m:eZ σ (.o (66+(ls.length-1)) x y) c
 n:c.d=1
 o:c.f=0
 g:Bx σ aW ts.reverse
 p:CG σ aW ts.reverse
 q:∀s∈ts,(∀f∈σ.f s,dY f)/\(σ.f s).length<100
 r:∀f∈cT σ ts,dY f/\(jU (fP σ aW ts.reverse) (fu σ aW ts.reverse ts.length) f).isSome=true
 a:fP σ aW ts.reverse=((cu ls).1,gT ls (x,y))
 h:cT σ ts=mw x y fs
 i:∀f,cH (oA (fP σ aW ts.reverse) (fu σ aW ts.reverse ts.length)<|cT σ ts) f=cH (pH ls x y) f
 j:(oA (fP σ aW ts.reverse) (fu σ aW ts.reverse ts.length)<|cT σ ts).length=(pH ls x y).length
noncomputable def dW(t:Ty):V:=.k<|bH t
section
def aBp(k:Nat)(A:eW)(q sa t v w:Nat)(d:List cC)(x y:Ty)(c z:Nat)(e:Hp)(B:List Ty)(C:Nat)(l:List V)(G:aS)(h:Hp):Prop:=∀a:Prop,(∀(R P:List<|Nat×Nat)(K':List Ty)(m n:Option V)(D:l=R.map u_)(H:(cu d).2=P++R)(I:Nx k e B h K')(Q:h[e.length]?=J (.a<|(P.map λp=>(pG d (x,y) p.1,p.2)).map<|cZ K')) (W:∀p∈P,pG d (x,y) p.1∈K') (X:G=[J<|.j A.s,J<|.j q,J<|V.m [.j sa,.j t],J<|.j v,J<|.j w,J<|gJ x y,J<|.j k,J<|.d (c:Nat),J<|.d (z:Nat),J<|.j C,J<|.j e.length,m,n,aA,aA,aA,aA,aA,aA,aA,aA]),a)->a
def aBq(k:Nat)(A:eW)(v sa w z B:Nat)(C:List Ty)(x y:Ty)(c D:Nat)(H:Hp)(I:Nat)(d:Hp)(Q:List Ty)(W:Nat)(e:List V)(G:aS)(q:Hp):Prop:=∀a:Prop,(∀(R P K':List Ty)(t:List V)(l m n p:Option V)(X:e=R.map dW)(w1:C=P++R)(w2:Nx k d Q q K')(w3:q[d.length]?=J (.a t))(w4:bB K' t<|mw x y P)(w5:(mw x y P).length<=P.length)(w6:G=[J<|.j A.s,J<|.j v,J<|V.m [.j sa,.j w],J<|.j z,J<|.j B,J<|gJ x y,J<|.j k,J<|.d (c:Nat),J<|.d (D:Nat),J<|.j I,J<|.j H.length,l,m,J<|.j W,J<|.j d.length,n,p,aA,aA,aA,aA]),a)->a
def aBr(k:Nat)(A:eW)(C sa D H I:Nat)(w:List cC)(x y:Ty)(c Q:Nat)(W:Hp)(X:Nat)(H9:Hp)(ia:Nat)(d:Hp)(KB:List Ty)(e:List V)(G:aS)(z:Hp):Prop:=∀a:Prop,(∀(R P:List Ev)(B:List Ty)(l m n p q t v:Option V)(w0:e=R.map iR)(w1:gS w=P++R)(w2:Nx k d KB z B)(w3:FD cZ z B d.length<|P.foldl (jk w x y) [])(w4:G=[J<|.j A.s,J<|.j C,J<|V.m [.j sa,.j D],J<|.j H,J<|.j I,J<|gJ x y,J<|.j k,J<|.d (c:Nat),J<|.d (Q:Nat),J<|.j X,J<|.j W.length,l,m,J<|.j ia,J<|.j H9.length,n,p,J<|.j d.length,q,t,v]),a)->a
theorem aBs(F:jR σ)(aO:qD σ)(W:Wo k σ A H K)(O:zM l)(E:zO l)(T:Md σ aW l fs x y ts c)
  (uK:0<l.length) (hL:H[la]?=J (.a<|l.map fG)) (yS:k+6<=la) (hT:TT H sa ra<|cu l) (wQ:k+6<=sa/\k+6<=ra) (gV:ji<|cu l) (yT:((cu l).1.map bI).Nodup) (pk:(cu l).2.length<1000/\∀p∈(cu l).2,p.1<l.length)
  (hE:H[ea]?=J (.a<|(gS l).map iR)) (wR:k+6<=ea) (hF:H[fa]?=J (.a<|fs.map dW)) (uL:k+6<=fa) (Aa:∀f∈fs,∃a:Ty,a.k 6=true/\(f=.m 64 a\/f=.m 65 a)) (jp:fs.length<1000)
  (q:∀H' K' va ia il jN kv,Nx k H K H' K'->H.length<=va->H.length<=ia->H.length<=il->At K' kv (.o (66+(l.length-1)) x y)->VT H' K' va kv (fP σ aW ts.reverse)->H'[ia]?=J (.b 673 [(46,kv),(12,.j il),(0,.j<|ia+2)])->H'[il]?=J (.a jN)->bB K' jN (cT σ ts)->FD cZ H' K' (ia+2) (oA (fP σ aW ts.reverse) (fu σ aW ts.reverse ts.length)<|cT σ ts)->Q (V.m [.j va,.j ia]) H'):
  aa (n+39) 79 [.j A.s,.j la,V.m [.j sa,.j ra],.j ea,.j fa,gJ x y] H Q:=by
 refine ce (fn:=QL) rfl rfl ?_;intro rr;have D:=O.c;have ko:=bw W.c.d;have x8:x.k 8=true:=cS T.b;have y8:y.k 8=true:=cS T.d;have wx:Wt x:=.inl x8;have wy:Wt y:=.inl y8;refine aL W.b.b<|gR hL rfl (by rw [ai];exact(cN D)) ?_;rw [ai];haveI e0:((l.length:Nat):Int)-1=((l.length-1:Nat):Int):=yx<|by assumption
 haveI wS:=T.k;haveI Tok:=T.m;generalize el:l.length-1=EL at*;refine(?_:dC _ _ [J<|.j A.s,J<|.j la,J<|V.m [.j sa,.j ra],J<|.j ea,J<|.j fa,J<|gJ x y,J<|.j k,J<|.d<|((l.length:Nat):Int)-1,aA,aA,aA,aA,aA,aA,aA,aA,aA,aA,aA,aA,aA] _ _);rw [e0];refine CI (n:=n+29) W.c x8 y8 (dg Y (.n 14) [.l Z bq,.g aB Y,.e bN Z] U D el<|bY<|cA au Y [.t bQ Y] U uK) ?_;intro H1 K1 kv N1 a1;refine CI (n:=n+29) (x:=.j 0) (y:=.j 1) N1.g rfl rfl (dg Y (.n 14) [.l Z bq,.g aB Y,.e bN Z] U D el<|bY<|cA au Y [.t bQ Y] U uK) ?_;intro H2 K2 sv N2 a2;refine bS rfl ?_;refine lK (n:=n+30) N2.g wx ?_;intro H3 K3 xv N3 a3;refine bS rfl ?_;refine lK (n:=n+30) N3.g wy ?_;intro H4 K4 yv N4 a4;have Jb:=((a1.b N2).b N3).b N4;refine xO (n:=n+8) (vs:=[xv,yv]) (as:=[x,y]) N4.g ((a2.b N3).b N4) (bB.n (a3.b N4)<|bB.d a4) rfl (N4.g.a.d _ Jb.1) (show 2<1000 by decide) (show 1<=20 by decide) ?_;intro H5 K5 cv N5 a5;haveI EM:=Jb.b N5;haveI ecv:cv=kv:=(a5.c EM).mpr rfl;clear Jb a1;subst ecv;refine oE a5.i λki v=>?_;clear a5;subst v;refine hM (by rw [decide_eq_true rfl];rfl) ?_;have An:=(((N1.f N2).f N3).f N4).f N5;haveI W5:=W.n An;refine FW (n:=n) F W5 EM T.e wS T.l T.g ?_;intro H6 K6 va N6 qe VT6 Jc vk;have ru:=An.f N6;have Aq:=An.j;have B:=ru.j;refine bX λh7 u7=>?_;haveI l7:=u7.c;haveI N7:Nx k H6 K6 h7 K6:=(NX.i N6.g).q u7;haveI EE:Nx k H K h7 K6:=ru.f N7;refine bS rfl ?_;haveI Jd:=EE.b hT.a<|.inr wQ.2;refine fq Jd<|fp (aBp k A la sa ra ea fa l x y EL ki H6 K6 va) ?_ ?_ ?_ ?_;·exact λ_ k=>k _ ([]) K6 aA aA rfl rfl N7 u7.b (λ_ m=>by exact bR m) rfl
 ·intro eC G h I;refine I _ λ_ _ _ _ _ _ _ N _ _ _=>?_;exact .inl<|N.b (ru.w hT.a<|.inr wQ.2)<|.inr wQ.2
 ·intro G h I;refine I _ λR P K' km iZ eR X N hr hm C=>?_;apply cQ C;intro rr;obtain rfl:R=[]:=by induction R using bk with|nil=>rfl|cons _ _=>exact iN eR
  rw [cI]at X;have EN:(P.map λp=>(pG l (x,y) p.1,p.2))=gT l (x,y):=by unfold gT;rw [X]
  rw [EN]at hr;have nh:=ru.f N;haveI Wh:=W.n nh;have wT:=VT6.d N (de cJ Z [.t bu aB,.l aI Z,.l aB aI] U ko qe Aq) λ_ m=>by exact bR m
  haveI yU:=wT;rw [T.a]at yU;refine aL wT.b<|hM (by rw [decide_eq_true rfl];rfl)<|aL wT.b<|bS rfl ?_;refine bK (Mb yU.c (nh.w hT.b<|.inr wQ.1) yT)<|aL wT.b<|bK (zN yU.e hr Fy) ?_;haveI Je:(fP σ aW ts.reverse).2.length<1000:=by rw [T.a];refine(?_:(gT l (x,y)).length<1000);unfold gT;rw [ai];exact pk.1
  haveI EO:=(EM.b N6).b N;refine Fj (n:=n) F aO Wh EO T.e wS Tok T.n T.o wT Jc (de cJ Z [.t bu aB,.l aI Z,.l aB aI] U ko qe Aq) Je T.p T.q T.r ?_;intro H9 K9 ia il jN N9 lia Tr o9 i9 ia9 D9;haveI Ts:=N.j;have uM:=bw hr;haveI n9:=nh.f N9;refine bX λhA uA=>?_;haveI lA:=uA.c;haveI NA:Nx k H9 K9 hA K9:=(NX.i N9.g).q uA;have l9:=N9.j;haveI fA:=(n9.f NA).w hF<|.inr uL;refine fq fA<|fp (aBq k A la sa ra ea fa fs x y EL ki H6 va H9 K9 ia) ?_ ?_ ?_ ?_;·exact λ_ k=>k fs ([]) K9 ([]) _ _ aA aA rfl rfl NA uA.b bB.f (aK _) rfl
  ·intro eC G h' I;refine I _ λ_ _ _ _ _ _ _ _ _ _ NB _ _ _ _=>?_;exact .inl<|(n9.f NB).w hF<|.inr uL
  ·intro G hB I;refine I _ λR P KB ws km iZ kj i_ eR X NB hw iy nL C=>?_;apply cQ C;intro rr;obtain rfl:R=[]:=by induction R using bk with|nil=>rfl|cons _ _=>exact iN eR
   rw [cI]at X;clear fA hF;clear nL jp Aa;subst X;refine bX λhC uC=>?_;haveI lC:=uC.c;haveI lB:=NB.j;have NC:Nx k hB KB hC KB:=(NX.i NB.g).q uC;have EP:Nx k H K hB KB:=n9.f NB;have Jf:∀r∈gT l (x,y),r.1∈K':=λr m=>by rw [<-EN]at m;refine aG (bc.mp m) λz mz bM=>?_;clear m iy C I EO yU hr EN X Jd EM a4 a3 Tok wS e0 q el wy wx y8 x8 D hE pk yT gV hT hL uK T E O;subst bM;exact hm z mz
   haveI Tt:=N9.f NB;refine fq ((EP.f NC).w hE<|.inr wR)<|fp (aBr k A la sa ra ea fa l x y EL ki H6 va H9 ia hB KB) ?_ ?_ ?_ ?_;·exact λ_ k=>k _ ([]) KB _ _ _ _ _ _ _ rfl rfl NC ⟨uC.b,(λ_ m=>by exact bR m),(λ_ m=>by exact bR m),fU⟩ rfl
   ·intro eC G h' I;refine I _ λ_ _ _ _ _ _ _ _ _ _ _ _ ND _ _=>?_;exact .inl<|(EP.f ND).w hE<|.inr wR
   ·intro G hD I;refine I _ λR P KD km iZ kj i_ y18 y19 y20 eR X ND DD C=>?_;apply cQ C;intro rr;obtain rfl:R=[]:=by induction R using bk with|nil=>rfl|cons _ _=>exact iN eR
    rw [cI]at X;clear Jf yU hr EN hm Jd e0 el D hE pk yT gV hT hL uK E O;clear I;subst X;have wU:=NB.f ND;haveI l9D:=wU.j;haveI oD:=wU.w o9<|.inr<|jt cJ Z [.t bu aB,.l aB aI,.l bF Z,.t aI bF] U ko B lia uM;haveI iD:=wU.w i9<|.inr<|jt cJ Z [.t bu aB,.l aB aI,.l bF Z,.t aI bF] U ko B Tr uM;haveI Tu:=D9.h wU (jt cJ kQ [.t bu aB,.l aB aI,.l bF Z,.t aI bF] U ko B lia uM) c_;haveI Jg:=ia9.b wU;haveI wD:=ND.b hw<|.inr<|jt cJ Z [.t bu aB,.l aB aI,.t aI bF,.l bF Z] U ko B uM l9;haveI aKm:=iy.b ND;refine aL oD<|hM (by rw [decide_eq_true rfl];rfl)<|aL oD ?_;haveI ews:jN=ws:=by rw [Jg.1,aKm.1,T.h]
    refine bK (zN iD (ews▸wD)<|by rw [Jg.1];exact FY)<|aL oD<|bK (Mc Tu DD T.j T.i)<|q hD KD va ia il jN _ (EP.f ND) (aH Aq qe) (aH (aH B Ts) lia) (aH (aH B Ts) Tr) ((EO.b N9).b wU) ((wT.d N9 (de cJ Z [.t bu aB,.l aI Z,.l aB aI] U ko qe Aq) λ_ m=>by exact bR m).d wU (de cJ Z [.t bu aB,.l aI Z,.l aB aI] U ko qe Aq) λ_ m=>by exact bR m) oD iD Jg Tu
   intro w bo G hD I;refine I _ λR P KD km iZ kj i_ y18 y19 y20 eR X ND DD C=>?_;intro K2 lZ yR;apply cQ C;intro rr;induction R using bk with
   |nil=>exact hI eR|cons e R=>
    refine on (dP eR) λcG v=>?_;rw [cG];clear eR;clear I;subst v;obtain⟨f,dd,bd⟩:=e;have me:((f,dd,bd):Ev)∈gS l:=X▸dT _ (.head _);haveI Tv:=E.c _ me;haveI Ar:dd=a_ f:=E.d _ me;haveI bdE:bd∈(cu l).1.map Prod.fst:=E.f _ me;haveI lg:iR (f,dd,bd)=V.m [.k<|bH f,aP dd,aP bd]:=rfl;rw [lg];refine aG Tv λag uN o6=>?_;have o6:f=.m 64 ag\/f=.m 65 ag:=o6;haveI yV:(ag.e [x,y]).k 8=true:=cS<|hQ T.b T.d uN;haveI fg:dY (f.e [x,y]):=⟨ag.e [x,y],yV,by clear yV lg Tv me eR cG;rcases o6 with rfl|rfl;exact .inl rfl;exact .inr rfl⟩
    have ff:dY f:=⟨ag,cS uN,o6⟩
    refine uz (n:=n+37) (.inr ff) (jf wx) (jf wy)<|lK (n:=n+30) ND.g (.inr fg) ?_;intro HE KE vE NE aE;have DE:=DD.h NE (mY cJ Z [.t bu aB,.l aB aI,.t aI bF,.l bF bO,.l bO Z] U ko B uM l9 lB) c_;have qd:V.m [vE,aP dd]=cW KE (f.e [x,y]):=by unfold cW;rw [aE.2,Ar,zK ff]
    have ci:eK bW HE .a (V.m [vE,aP dd]) (.j hB.length)=J (!(cH (P.foldl (jk l x y) [])<|f.e [x,y]).isSome):=by haveI i0:=DE.y aE.1;rw [<-qd]at i0;exact congrArg (oV λb=>!b) i0
    refine bK ci ?_;rw [zL];haveI yW:gS l=(P++[(f,dd,bd)])++R:=by rw [X,d6];rfl
    haveI es:(P++[(f,dd,bd)]).foldl (jk l x y) []=jk l x y (P.foldl (jk l x y) []) (f,dd,bd):=oW;by_cases m:f.e [x,y]∈(P.foldl (jk l x y) []).map bI
    ·refine hM (by rw [decide_eq_true m];rfl) ?_;have e1:(P++[(f,dd,bd)]).foldl (jk l x y) []=P.foldl (jk l x y) []:=by rw [es];exact if_pos m
     exact(lZ _ _ λ_ k=>k R (P++[(f,dd,bd)]) KE _ _ _ _ _ _ _ rfl yW (ND.f NE) (by rw [e1];exact DE) rfl).1
    refine iO (by rw [decide_eq_false m];rfl)<|oE (sh bdE) λi hi=>?_;have Tw:=gV.a _ _ hi;haveI rl:i<(gT l (x,y)).length:=by unfold gT;rw [ai];exact Tw
    have EQ:=f7 rl;generalize(gT l (x,y))[i]=r at EQ;haveI sr:jj l (x,y) bd=J r:=by unfold jj;rw [hi];exact EQ
    have e1:(P++[(f,dd,bd)]).foldl (jk l x y) []=gj (P.foldl (jk l x y) []) (f.e [x,y]) r:=by rw [es];refine(?_:(if f.e [x,y]∈(P.foldl (jk l x y) []).map bI then _ else match jj l (x,y) bd with|some r=>gj _ _ r|none=>_)=_);rw [if_neg m,sr]
    haveI nE:Nx k H K HE KE:=(EP.f ND).f NE;have ER:=(Tt.f ND).f NE;haveI rE:=ER.w hr<|.inr<|bb cJ Z [.t bu aB,.l aB Z] U ko B;rw [<-Bw Jf ER]at rE;haveI rm:r.1∈KE:=by refine oE ER.t λz v=>?_;clear ER;clear rE nE qd DE aE NE Tt N9 EO yU wT Wh nh hr hm N;subst v;exact dI _<|Jf r<|dU EQ
    refine bS rfl ?_;refine uv (nE.b hT.b<|.inr wQ.1) (ut.trans<|congrArg _ hi)<|du (j:=i) rE (by rw [jJ,EQ];rfl) (by have:=pk.1;exact(ae<|ae Tw pk.1)) ?_;haveI s2:=DE.v (t:=f.e [x,y]) (x:=cZ KE r) NE.g.a;rw [<-qd]at s2;refine jS DE.c s2 ?_;have u:=am.d (o:=.e<|ik ((P.foldl (jk l x y) []).map λe=>(cW KE e.1,cZ KE e.2)) (V.m [vE,aP dd])<|cZ KE r) DE.c;revert u;generalize HE.set hB.length _=hF';intro u;haveI NF:Nx k hB KB hF' KE:=(ND.f NE).s u (.inr<|mY cJ Z [.t bu aB,.l aB aI,.t aI bF,.l bF bO,.l bO Z] U ko B uM l9 lB)<|.inr<|aK _;rw [qd]at u;haveI DF:=DE.p (x:=r) aE.1 (λs=>Fh rm s) u;exact(lZ _ _ λ_ k=>k R (P++[(f,dd,bd)]) KE _ _ _ _ _ _ _ rfl yW NF (by rw [e1];exact DF) rfl).1
  intro w bo G hB I;refine I _ λR P KB ws km iZ kj i_ eR X NB hw iy nL C=>?_;intro K2 lZ yR;apply cQ C;intro rr;induction R using bk with
  |nil=>exact hI eR|cons f R=>
   refine on (dP eR) λcG v=>?_;rw [cG];clear eR;clear I;subst v;haveI mf:f∈fs:=X▸dT _ (.head _);haveI ef:dW f=.k (bH f):=rfl;rw [ef];refine aG (Aa f mf) λag uN o6=>?_;haveI wg:Wt (f.e [x,y]):=.inr ⟨ag.e [x,y],cS<|hQ T.b T.d uN,by clear uN ef eR cG;rcases o6 with rfl|rfl;exact .inl rfl;exact .inr rfl⟩;refine uz (n:=n+37) (Fw (Aa f mf)<|by decide) (jf wx) (jf wy)<|lK (n:=n+30) NB.g wg ?_;intro HC KC vC NC aC;refine oE aC.i λci v=>?_;subst v;have As:=NC.b hw<|.inr<|jt cJ Z [.t bu aB,.l aB aI,.t aI bF,.l bF Z] U ko B uM l9;have ES:=iy.b NC;refine bK (B_ As ES aC) ?_;haveI ea:mw x y (P++[f])=dG (mw x y P) (f.e [x,y]):=by unfold mw;rw [cL,nj];rfl
   by_cases m:f.e [x,y]∈mw x y P
   ·refine hM (by rw [decide_eq_true m];rfl) ?_;have e1:mw x y (P++[f])=mw x y P:=by rw [ea];exact if_pos m
    exact(lZ _ _ λ_ k=>k R (P++[f]) KC ws _ _ _ _ rfl (by rw [X,d6];rfl) (NB.f NC) As (by rw [e1];exact ES) (by rw [e1,b9];exact tY nL) rfl).1
   refine iO (by rw [decide_eq_false m];rfl) ?_;haveI e1:mw x y (P++[f])=mw x y P++[f.e [x,y]]:=by rw [ea];exact if_neg m
   have gO:P.length<1000:=by have:=congrArg gB X;rw [b9]at this;exact(dg Y dz [.t Z dz,.g Z<|.a Y aB] U jp this)
   refine dE (dj As)<|eB As (by rw [ES.c];exact(ae<|cN nL gO)) ?_;have u:am HC H9.length (.a<|ws++[.d (ci:Nat)]) (HC.set H9.length<|.a<|ws++[.d (ci:Nat)]):=am.d As;revert u;generalize HC.set H9.length (.a<|ws++[.d (ci:Nat)])=hD;intro u;exact(lZ _ _ λ_ k=>k R (P++[f]) KC _ _ _ _ _ rfl (by rw [X,d6];rfl) ((NB.f NC).s u (.inr<|jt cJ Z [.t bu aB,.l aB aI,.t aI bF,.l bF Z] U ko B uM l9)<|.inr<|aK _) u.b (by rw [e1];exact ES.l<|bB.d aC) (by rw [e1,b9,b9];exact iW nL) rfl).1
 intro w bo G h I;refine I _ λR P K' km iZ eR X N hr hm C=>?_;intro K2 lZ yR;apply cQ C;intro rr;induction R using bk with
 |nil=>exact hI eR|cons p R=>
  refine on (dP eR) λcG v=>?_;rw [cG];clear eR;clear I;subst v;obtain⟨pn,pm⟩:=p;haveI mp:(pn,pm)∈(cu l).2:=X▸dT _ (.head _);have pl:=pk.2 _ mp;have pl:pn<l.length:=pl;haveI nh:=ru.f N;haveI lg:u_ (pn,pm)=V.m [.d (pn:Nat),aP pm]:=rfl;rw [lg];refine dE (dj hr)<|Ft (n:=n+36) (d:=2) (bD:=EL) (nh.w hL<|.inr yS) O.d T.b T.d (dg Y Z [.g aB Y,.e bN Z] U el<|bY<|cA au Y [.t bQ Y] U uK) (de (.a dB Y) iG [.l Z bq,.g aB aI,.l Y aI,.e bN Z] U D el (j3 _ _)<|bY<|cA au Y [.t bQ Y] U uK) (cN D) (ae<|bz pl D) ?_;intro t1 t2;refine CI (n:=n+29) N.g (cS t1<|de (.a dB Y) iG [.l Z bq,.g aB aI,.l Y aI,.e bN Z] U D el (j3 _ _)<|bY<|cA au Y [.t bQ Y] U uK) (cS t2<|de (.a dB Y) iG [.l Z bq,.g aB aI,.l Y aI,.e bN Z] U D el (j3 _ _)<|bY<|cA au Y [.t bQ Y] U uK) (ae<|bz pl D) ?_;intro H8 K8 v8 N8 a8;have Jh:=N8.b hr<|.inr<|bb cJ Z [.t bu aB,.l aB Z] U ko B;haveI P8:(P.map λp=>(pG l (x,y) p.1,p.2)).map (cZ K')=(P.map λp=>(pG l (x,y) p.1,p.2)).map (cZ K8):=(Bw (λr m=>by refine aG (bc.mp m) λz mz bM=>?_;subst bM;exact hm z mz) N8).symm;rw [P8]at Jh;haveI gO:P.length<1000:=by haveI:=congrArg gB X;rw [b9]at this;exact(dg Y dz [.t Z dz,.g Z<|.a Y aB] U pk.1 this)
  refine eB Jh (by rw [ai,ai];exact(ae gO)) ?_;have u:am H8 H6.length (.a<|(P.map λp=>(pG l (x,y) p.1,p.2)).map (cZ K8)++[V.m [v8,aP pm]]) (H8.set H6.length<|.a<|(P.map λp=>(pG l (x,y) p.1,p.2)).map (cZ K8)++[V.m [v8,aP pm]]):=am.d Jh;revert u;generalize H8.set H6.length (.a<|(P.map λp=>(pG l (x,y) p.1,p.2)).map (cZ K8)++[V.m [v8,aP pm]])=h9;intro u;haveI Tx:At K8 v8 (pG l (x,y) pn):=by unfold pG;rw [el];exact a8
  refine(lZ _ _ λ_ k=>k R (P++[(pn,pm)]) K8 _ _ rfl (by rw [X,d6];rfl) ((N.f N8).s u (.inr<|bb cJ Z [.t bu aB,.l aB Z] U ko B)<|.inr<|aK _) ?_ ?_ rfl).1;·rw [u.b,cL,cL,Tx.2];rfl
  intro p m;rcases eO.mp m with m|m;·refine oE N8.t λr v=>?_;rw [v];exact dI _<|hm p m
  rw [bg.mp m];exact Tx.1
end
theorem Me(P:List V->aS->Hp->Prop)(w:P c G h)
  (q:∀e G h,P e G h->fS h g c) (z:∀G h,P [] G h->C (.j l) h)
  (A:∀v bo G h,P (v::bo) G h->∀K':aS->Hp->Prop,(∀a d,P bo a d->K' a d)->ee (t.b v G) λa=>m a h λx d=>xM l x d λd=>K' a d):
  ML m t c g l G h C:=by
 haveI n:∀e G h,P e G h->jx (λh=>fS h g c) (λv G d C=>ee (t.b v G) λa=>m a d λx d=>xM l x d λd=>C .a a d) e G h λ_ _ d=>C (.j l) d:=by
  intro e;induction e with
  |nil=>intro G h p;exact⟨q _ _ _ p,z _ _ p⟩|cons v e B=>intro G h p;exact⟨q _ _ _ p,A v e G h p _ λa d p=>B _ _ p⟩
 exact⟨n _ _ _ w⟩
noncomputable def qJ(x y:Ty)(r:Ty×Nat):Ty×Nat:=(r.1.e [x,y],r.2)
noncomputable def hV(x y:Ty)(es:List Ev):List Ty:=cB []<|es.map λe=>e.1.e [x,y]
structure Mf(ls:List cC)(x y:Ty)(Ji AD:List (Ty×Nat))(m0 m1:fQ):Prop where
 b:AD=Ji.map (qJ x y)
 a:∀r∈Ji,jQ [x,y] r.1
 c:∀P e R,gS ls=P++e::R->e.1.e [x,y]∉hV x y P->∃r∈Ji,cH m0 e.1=J r/\cH m1 (e.1.e [x,y])=J (qJ x y r)
 d:(hV x y<|gS ls).length=m1.length
section
theorem Mg{c:List Ty}(hm:∀t∈c,t∈m) (a:NX k X H m l K'):c.map (cW K')=c.map (cW m):=by refine oE a.t λr d=>?_;rw [d];exact mL λp e=>by unfold cW;rw [lF<|hm p e]
theorem aBt{c:List Ty}:(c.map<|cW d).all V.p=true:=by rw [eI];intro x m;refine aG (bc.mp m) λt _ a=>?_;rw [<-a];rfl
theorem aBu{a:List Ty}{t:Ty}(e:H[l]?=J (.a<|a.map<|cW p))(hm:∀t∈a,t∈p) (d:t∈p):eK bW H .a (cW p t) (.j l)=J (!aJ (t∈a)):=by refine(congrArg (oV (!·))<|(f0 (f:=mG<|cW p t) e).trans<|zb rfl aBt).trans ?_;show J (!aJ _)=_;congr 2;refine decide_eq_decide.mpr ⟨λm=>?_,λm=>bc.mpr ⟨t,m,rfl⟩⟩;refine aG (bc.mp m) λs c n=>(FX (hm s c) d).mp n▸c
theorem Mh{k:Ty}{v:d}(h:cH es k=J v):(k,v)∈es:=by refine aG (kF.mp h) λe c l=>?_;haveI m:=oX c;have a:aJ (e.1=k)=true:=vr (p:=λe:Ty×d=>aJ<|e.1=k) c;haveI a:e.1=k:=of_decide_eq_true a;rw [<-a];rw [<-l];exact m
theorem aBv:eK bW H .d (V.m [.d (i:Nat),aP b]) (V.m [.d (i:Nat),aP b])=J false:=by haveI p:(V.m [.d (i:Nat),aP b]).p=true:=rfl;refine(?_:((if(V.m [.d (i:Nat),aP b]).p&&(V.m [.d (i:Nat),aP b]).p then J (aJ<|V.m [.d (i:Nat),aP b]=V.m [.d (i:Nat),aP b])else aA).map (!·))=_);rw [p,decide_eq_true rfl];rfl
theorem Mi(h:dY f)(g:dY<|f.e [x,y]):jQ [x,y] f:=by
 haveI sc:∀{d:Nat}{t:Ty},t.k d=true->t.w 2=true:=by
  intro d t;induction d generalizing t with
  |zero=>induction t using Ty.casesOn with
   |l n=>intro _;rfl|j n=>intro h;rcases rA.2 n h with q|q|q|q<;>cases q<;>rfl
   |_=>intro h;exact ft h
  |succ d l=>induction t using Ty.casesOn with
   |l n=>intro _;rfl|j n=>intro h;rcases rA.2 n h with q|q|q|q<;>cases q<;>rfl
   |r t=>exact l (t:=t)|_=>intro h;exact ft h
 haveI z:∀{d:Nat}{t:Ty},t.k d=true->t.v<=d:=by
  intro d t;induction d generalizing t with
  |zero=>induction t using Ty.casesOn with|l n=>intro _;exact aK _|j n=>intro h;exact aK _|_=>intro h;exact ft h
  |succ d l=>induction t using Ty.casesOn with|l n=>intro _;exact jI _|j n=>intro h;exact jI _|r t=>exact λh=>iW<|l (t:=t) h|_=>intro h;exact ft h
 refine aG h λa m e=>aG g λb p c=>?_;haveI v:(f.e [x,y]).A=true:=by
  rcases c with c|c<;>rw [c];·refine(?_:((64==64||64==65)&&b.k 8)=true);rw [p];rfl
  refine(?_:((65==64||65==65)&&b.k 8)=true);rw [p];rfl
 haveI w:=z m;clear c g h;rcases e with rfl|rfl
 ·exact⟨show a.w 2=true from sc m,v,show a.v+1<=20 from(cN w)⟩
 exact⟨show a.w 2=true from sc m,v,show a.v+1<=20 from(cN w)⟩
def aBw(k:Nat)(A:eW)(w z B C D:Nat)(H:List cC)(x y:Ty)(I Q:V)(h:Hp)(W:List Ty)(c:List V)(G:aS)(v:Hp):Prop:=∀a:Prop,(∀(R P:List Ev)(K':List Ty)(X y9 d e l m n p q:Option V)(w0:c=R.map iR)(w1:gS H=P++R)(w2:Nx k h W v K')(w3:v[h.length]?=J (.a<|(hV x y P).map<|cW K'))(w4:∀t∈hV x y P,t∈K') (w5:(hV x y P).length<=P.length) (w6:G=[J<|.j A.s,J<|.j w,J<|V.m [.j z,.j B],J<|V.m [.j C,.j D],J<|gJ x y,J<|.j k,J<|V.m [I,Q],J<|.j h.length,X,y9,d,e,l,m,n,p,q]),a)->a
theorem aBx{s0 s1:kT}{m0 m1:fQ}(W:Wo k σ A H K)(E:zO ls)(C:Mf ls x y s0.2 s1.2 m0 m1)(hx:x.k 2=true)(hy:y.k 2=true)
  (hE:H[ea]?=J (.a<|(gS ls).map iR)) (wR:k+6<=ea) (T0:VT H K wa wk s0) (T1:VT H K na nk s1) (d:k+6<=wa) (Tz:k+6<=na) (hz:s0.2.length<1000)
  (o0:H[wi]?=J (.b 673 [(46,wiv),(12,w12),(0,.j<|wi+2)])) (o1:H[ni]?=J (.b 673 [(46,niv),(12,n12),(0,.j<|ni+2)])) (Jj:k+6<=wi) (Au:k+6<=ni) (D0:FD cZ H K (wi+2) m0) (D1:FD cZ H K (ni+2) m1)
  (q:∀H' K',Nx k H K H' K'->Q (.n true) H'):
  aa (n+32) 80 [.j A.s,.j ea,V.m [.j wa,.j wi],V.m [.j na,.j ni],gJ x y] H Q:=by
 refine ce (fn:=QM) rfl rfl ?_;intro rr;haveI ko:=bw W.c.d;haveI wx:Wt x:=.inl<|cS hx;haveI wy:Wt y:=.inl<|cS hy;refine aL W.b.b<|bS rfl ?_;refine lK (n:=n+23) W.c wx ?_;intro H1 K1 xv N1 ax;refine bS rfl ?_;refine lK (n:=n+23) N1.g wy ?_;intro H2 K2 yv N2 ay;have kh:=N1.f N2;have ri:bB K2 [xv,yv] [x,y]:=bB.n (ax.b N2)<|bB.d ay;have ET:=T0.d kh d λ_ m=>by exact bR m
 haveI Jk:=T1.d kh Tz λ_ m=>by exact bR m
 have Av:=bw T0.c;haveI lna:=bw T1.c;have Aw:=kh.j;refine bS rfl ?_;refine aL Jk.b<|bS rfl ?_;refine aL ET.b<|fq ET.e<|bX λh3 u3=>?_;haveI l3:=u3.c;haveI N3:Nx k H2 K2 h3 K2:=(NX.i N2.g).q u3;refine Me (λeC G h=>X5 λ(R P:List<|Ty×Nat)(K':List Ty)(kj i_:Option V)=>A6 (eC=R.map (cZ K2)) (s0.2=P++R) (Nx k H2 K2 h K') (h[H2.length]?=J (.a<|(P.map<|qJ x y).map<|cZ K')) (∀r∈P,r.1.e [x,y]∈K')<|G=[J<|.j A.s,J<|.j ea,J<|V.m [.j wa,.j wi],J<|V.m [.j na,.j ni],J<|gJ x y,J<|.j k,J<|V.m [xv,yv],aA,aA,aA,aA,aA,aA,aA,aA,kj,i_]) ?_ ?_ ?_ ?_;·exact⟨s0.2,[],K2,aA,aA,rfl,rfl,N3,u3.b,(λ_ m=>by exact bR m),rfl⟩
 ·rintro eC G h ⟨_,_,_,_,_,_,_,N,_⟩;exact .inl<|N.b ET.e<|.inr<|dF _ d
 ·rintro G h ⟨R,P,K3,kj,i_,l,p,N,hr,hm,D⟩;apply cQ D;intro rr;obtain rfl:R=[]:=by induction R using bk with|nil=>rfl|cons _ _=>exact iN l
  rw [cI]at p;rw [<-p,<-C.b]at hr;haveI Jl:=Jk.d N Tz λ_ m=>by exact bR m
  refine bK (zN Jl.e hr Fy) ?_;have Nh:=kh.f N;haveI lh:=N.j;refine bX λhA uA=>?_;haveI lA:=uA.c;haveI NA:Nx k h K3 hA K3:=(NX.i N.g).q uA;haveI Jm:=ri.b N;haveI D0h:=D0.h Nh (dF _ Jj) c_;haveI T_:=D1.h Nh (dF _ Au) c_;refine fq ((Nh.f NA).w hE<|.inr wR)<|fp (aBw k A ea wa wi na ni ls x y xv yv h K3) ?_ ?_ ?_ ?_;·exact λ_ k=>k _ ([]) K3 _ _ _ _ _ _ _ _ _ rfl rfl NA uA.b (λ_ m=>by exact bR m) (aK _) rfl
  ·intro eC G h' q0;refine q0 _ λ_ _ _ _ _ _ _ _ _ _ _ _ _ _ NB _ _ _ _=>?_;exact .inl<|(Nh.f NB).w hE<|.inr wR
  ·intro G hB q0;refine q0 _ λR P KB y8 y9 mU km iZ jq jr kj i_ l p NB hw hm I D=>?_;apply cQ D;intro rr;obtain rfl:R=[]:=by induction R using bk with|nil=>rfl|cons _ _=>exact iN l
   rw [cI]at p;clear hm hE;clear q0;subst p;haveI el:=E.b;refine gR hw rfl (by rw [ai];exact(ae<|cN I el)) ?_;rw [ai];refine bS rfl ?_;refine aL ((Nh.f NB).w o1<|.inr Au) ?_;haveI UA:=T_.h NB (dF _ Au) c_;refine gR UA.c rfl (by rw [ai];exact UA.A NB.g.a) ?_;rw [ai,C.d];have r:=q hB KB<|Nh.f NB;show Q (.n<|aJ _) hB;rw [decide_eq_true rfl];exact r
  intro w bo G hB q0;refine q0 _ λR P KB y8 y9 mU km iZ jq jr kj i_ l p NB hw hm I D=>?_;intro K9 kn kr;apply cQ D;intro rr;induction R using bk with
  |nil=>exact hI l|cons e R=>
   haveI v:=(dP l).1;haveI a:=(dP l).2;rw [v];clear l;clear q0;subst a;obtain⟨f,dd,bd⟩:=e;have me:((f,dd,bd):Ev)∈gS ls:=p▸dT _ (.head _);haveI Ar:dd=a_ f:=E.d _ me;refine aG (E.c _ me) λag uN o6=>?_;haveI o6:f=.m 64 ag\/f=.m 65 ag:=o6;haveI yV:(ag.e [x,y]).k 8=true:=cS<|hQ hx hy uN;haveI fg:dY (f.e [x,y]):=⟨ag.e [x,y],yV,by clear yV me l;rcases o6 with rfl|rfl;exact .inl rfl;exact .inr rfl⟩
   have ff:dY f:=⟨ag,cS uN,o6⟩
   haveI lg:iR (f,dd,bd)=V.m [.k<|bH f,aP dd,aP bd]:=rfl;rw [lg];refine lK (n:=n+23) NB.g (.inr ff) ?_;intro HC KC fv NC af;haveI WC:KT HC k KC:=NC.g;refine bS rfl ?_;haveI cl:=Mi ff fg;refine xO (n:=n+1) WC af ((Jm.b NB).b NC) cl.1 cl.2.1 (show 2<1000 by decide) cl.2.2 ?_;intro HD X gv ND ag;have yX:=NC.f ND;haveI EU:=NB.f yX;have Ax:V.m [fv,aP dd]=cW X f:=by unfold cW;rw [(af.b ND).2,Ar]
   have B:V.m [gv,aP dd]=cW X (f.e [x,y]):=by unfold cW;rw [ag.2,Ar,zK ff]
   have c:=yX.w hw<|.inr<|aH (aH (nV d Av) Aw) lh;rw [<-Mg hm yX]at c;have Ay:∀t∈hV x y P,t∈X:=λt m=>by refine oE yX.t λz a=>?_;clear yX;clear c B Ax EU ag ND NC hw NB;subst a;exact dI _<|hm t m
   haveI ci:=aBu c Ay ag.1;rw [<-B]at ci;refine bK ci ?_;haveI yW:gS ls=(P++[(f,dd,bd)])++R:=by rw [p,d6];rfl
   haveI es:hV x y (P++[(f,dd,bd)])=dG (hV x y P) (f.e [x,y]):=by unfold hV;rw [cL,nj];rfl
   by_cases m:f.e [x,y]∈hV x y P
   ·refine hM (by rw [decide_eq_true m];rfl) ?_;have e1:hV x y (P++[(f,dd,bd)])=hV x y P:=by rw [es];exact if_pos m
    exact(kn _ _ λ_ k=>k R (P++[(f,dd,bd)]) X _ _ _ _ _ _ _ _ _ rfl yW EU (by rw [e1];exact c) (by rw [e1];exact Ay) (by rw [e1,b9];exact tY I) rfl).1
   refine iO (by rw [decide_eq_false m];rfl) ?_;have e1:hV x y (P++[(f,dd,bd)])=hV x y P++[f.e [x,y]]:=by rw [es];exact if_neg m
   refine hJ (C.c P _ R p m) λv UB q1 q2=>?_;obtain⟨o,b⟩:=v;haveI q1:cH m0 f=J (o,b):=q1;haveI q2:cH m1 (f.e [x,y])=J (o.e [x,y],b):=q2;refine fk (C.a _ UB) λc1 c2 c3=>?_;haveI om:o∈K:=T0.f _ UB;haveI gO:P.length<1000:=by haveI:=congrArg gB p;haveI:=E.b;rw [b9]at*;omega
   refine dE (dj c)<|eB c (by rw [ai];exact(ae<|cN I gO)) ?_;have u:am HD h.length (.a<|(hV x y P).map (cW X)++[V.m [gv,aP dd]]) (HD.set h.length<|.a<|(hV x y P).map (cW X)++[V.m [gv,aP dd]]):=am.d c;revert u;generalize HD.set h.length (.a<|(hV x y P).map (cW X)++[V.m [gv,aP dd]])=hF;intro u;have NF:Nx k h K3 hF X:=EU.s u (.inr<|aH (aH (nV d Av) Aw) lh)<|.inr<|aK _;have Jn:=D0h.h NF (dF _ Jj) c_;have EV:=T_.h NF (dF _ Au) c_;have gF:=(Nh.f NF)
   refine bS rfl ?_;refine aL (gF.w o0<|.inr Jj) ?_;haveI l0:=Jn.o (af.b ND).1;rw [q1,<-Ax]at l0;haveI k1:(V.m [fv,aP dd]).B=true:=by rw [Ax];rfl
   haveI k2:(V.m [gv,aP dd]).B=true:=by rw [B];rfl
   refine MR Jn.c k1 l0<|bS rfl ?_;refine aL (gF.w o1<|.inr Au) ?_;haveI l1:=EV.o ag.1;rw [q2,<-B]at l1;refine MR EV.c k2 l1 ?_;haveI UC:At X (cP X o) o:=⟨(show At K (cP K o) o from⟨om,rfl⟩).b gF|>.1,rfl⟩
   refine xO (n:=n+1) NF.g UC (((Jm.b NB).b NC).b ND) c1 c2 (show 2<1000 by decide) c3 ?_;intro HG KG wv NG aw;refine oE aw.i λwq a=>?_;subst a;haveI ro:cZ X (o.e [x,y],b)=V.m [.d (wq:Nat),aP b]:=by refine oE NG.t λz hz=>?_;haveI st:=EV.j _ (Mh q2) z;rw [<-hz]at st;rw [<-st];unfold cZ;rw [<-aw.2]
   rw [ro];refine bK aBv ?_;have UD:∀t∈hV x y (P++[(f,dd,bd)]),t∈X:=λt m'=>by
    rw [e1]at m';refine aU (eO.mp m') ?_ ?_;·intro m';exact Ay t m'
    intro m';clear ro aw l1 u c2 c1 q2 q1 e1 m es yW ci Ay c B Ax cl af lg ff fg yV o6 Ar me l v p kn D I hm hw Jm ri ay ax wy wx hy hx C;obtain rfl:=bg.mp m';exact ag.1
   haveI UE:hF[h.length]?=J (.a<|(hV x y<|P++[(f,dd,bd)]).map<|cW X):=by rw [u.b,e1,cL,B];rfl
   have Jo:=NG.b UE<|.inr<|aH (aH (nV d Av) Aw) lh;rw [<-Mg UD NG]at Jo;haveI hmG:∀t∈hV x y (P++[(f,dd,bd)]),t∈KG:=λt m'=>by refine oE NG.t λz a=>?_;clear aw;clear Jo UE ro NG UC l1 l0 gF EV Jn NF u Ay c B Ax EU yX ag ND;subst a;exact dI _<|UD t m'
   exact(kn _ _ λ_ k=>k R (P++[(f,dd,bd)]) KG _ _ _ _ _ _ _ _ _ rfl yW (NF.f NG) Jo hmG (by rw [e1,b9,b9];exact iW I) rfl).1
 rintro w bo G h ⟨R,P,K3,kj,i_,l,p,N,hr,hm,rfl⟩ K9 kn;induction R using bk with
 |nil=>exact hI l|cons r R=>
  haveI v:=(dP l).1;haveI a:=(dP l).2;rw [v];clear l;clear v N3 Jk kh ay N2;subst a;obtain⟨t,b⟩:=r;haveI mr:(t,b)∈s0.2:=p▸dT _ (.head _);haveI at2:At K3 (cP K2 t) t:=(show At K2 (cP K2 t) t from⟨ET.f _ mr,rfl⟩).b N;refine fk (C.a _ mr) λc1 c2 c3=>?_;haveI lg:cZ K2 (t,b)=V.m [cP K2 t,aP b]:=rfl;rw [lg];refine xO (n:=n+1) N.g at2 (ri.b N) c1 c2 (show 2<1000 by decide) c3 ?_;intro H4 K4 v4 N4 a4;have EW:=N4.b hr<|.inr<|aH (nV d Av) Aw;haveI P4:(P.map<|qJ x y).map (cZ K3)=(P.map<|qJ x y).map (cZ K4):=(Bw (λr m=>by refine aG (bc.mp m) λz mz bM=>?_;clear c2 c1 hr ri ax wy wx hy hx C;subst bM;exact hm z mz) N4).symm;rw [P4]at EW;haveI gO:P.length<1000:=by haveI:=congrArg gB p;rw [b9]at this;exact(dg Y dz [.t Z dz,.g Z<|.a Y aB] U hz this)
  refine Fb EW (by rw [ai,ai];exact(ae gO)) ?_;have u:am H4 H2.length (.a<|(P.map<|qJ x y).map (cZ K4)++[V.m [v4,aP b]]) (H4.set H2.length<|.a<|(P.map<|qJ x y).map (cZ K4)++[V.m [v4,aP b]]):=am.d EW;revert u;generalize H4.set H2.length (.a<|(P.map<|qJ x y).map (cZ K4)++[V.m [v4,aP b]])=h5;intro u;refine kn _ _ ⟨R,P++[(t,b)],K4,_,_,rfl,by rw [p,d6];rfl,(N.f N4).s u (.inr<|aH (nV d Av) Aw)<|.inr<|aK _,?_,?_,rfl⟩;·rw [u.b,cL,cL,a4.2];rfl
  intro r m;refine aU (eO.mp m) ?_ ?_;·intro m;refine oE N4.t λz a=>?_;rw [a];exact dI _<|hm r m
  intro m;rw [bg.mp m];exact a4.1
end
section
theorem dO(e:h[p]?=J (.b c l))(d:oS c a=true)(k:∀m,am h p (.b c<|lQ l a v) m->n m):F1 (.j p) a v h n:=by
 refine aL e<|(?_:br (oS c a) (n<|h.set p<|.b c<|lQ l a v) False)
 rw [d];exact k _<|am.d e
structure In(p:Nat)(H H':Hp):Prop where
 g:H.length<=H'.length
 d:∀l o,H[l]?=J o->l≠p->H'[l]?=J o
theorem In.i:In p H H:=⟨aK _,λ_ _ h _=>h⟩
theorem In.f(a:In p H e)(u:nz e o c):In p H c:=⟨by rw [u.c];exact tY a.g,λl o h x=>u.a _ _<|a.d _ _ h x⟩
theorem In.b(a:In p H t)(u:am t l o n)(c:l=p\/H.length<=l):In p H n:=
 ⟨by rw [u.c];exact a.g,λm q h x=>u.a _ _ (a.d _ _ h x) λe=>by
  clear u;subst e
  refine aU c ?_ ?_
  ·intro c;exact x c
  ·intro c;rw [ey c]at h;exact aX h⟩
theorem aBy(q:∀d v,Gr [] H d->Q v d):aa (n+1) 24 [.d 1] H Q:=by
 refine ce (fn:=PR) rfl rfl ?_;intro rr;refine bX λe a=>⟨1,rfl,by decide,?_⟩
 refine⟨trivial,?_⟩;refine dE (dj a.b)<|⟨0,rfl,by decide,?_⟩
 refine bK (x:=V.k [112,48]) rfl ?_;refine eB a.b (by decide) ?_;haveI c:=am.d (o:=.a<|[]++[V.k [112,48]]) a.b;revert c;generalize e.set H.length _=l;intro c;refine⟨trivial,?_⟩;refine CE c.b (by decide)<|q l _ ((Gr.n.i a).j c<|.inr<|aK _)
theorem aBz(e:H[p]?=J (.b 308 []))(hp:H.length=p+1)
  (q:∀a pn pf,In p H a->p+3<=a.length->a[p]?=J (.b 308 [(26,.d m),(27,.d ow),(8,.k nm),(28,.d 6),(10,.d fl),(29,.d 0),(30,.j<|p+1),(31,.j<|p+2),(32,.d 0),(13,V.m [w]),(33,pn),(34,pf),(35,.o),(36,.d 0)])->Q .o a):
  aa (n+2) 22 [.j p,.d m,.d ow,.k nm,.d 6,.d fl,.d 0,V.m [w]] H Q:=by
 refine ce (fn:=PP) rfl rfl ?_;intro rr;refine dO e rfl λh1 t=>dO t.b rfl λh2 z=>dO z.b rfl λh3 A=>dO A.b rfl λh4 B=>dO B.b rfl λh5 C=>dO C.b rfl λh6 D=>?_;haveI I6:In p H h6:=(((((In.i.b t<|.inl rfl).b z<|.inl rfl).b A<|.inl rfl).b B<|.inl rfl).b C<|.inl rfl).b D<|.inl rfl;have c:h6.length=p+1:=by rw [D.c,C.c,B.c,A.c,z.c,t.c,hp]
 refine bX λh7 I=>?_;rw [c];have P:=I.c;refine dO (I.a _ _ D.b) rfl λh8 R=>?_;haveI W:=R.c;refine bX λh9 X=>?_;rw [show h8.length=p+2 from(bj (de Y kQ [.e aB aY,.e aI bN,.e Y aI] U c P W)<|de cm Z [.g aB aR,.g aI bN,.g Z aI] U c P W)];haveI l9:=X.c;refine dO (X.a _ _ R.b) rfl λha ua=>dO ua.b rfl λhb ub=>ZU (vs:=[w])<|dO ub.b rfl λhc uc=>?_;haveI la:=ua.c;haveI lb:=ub.c;haveI lc:=uc.c;have Ic:In p H hc:=(((((I6.f I).b R<|.inl rfl).f X).b ua<|.inl rfl).b ub<|.inl rfl).b uc<|.inl rfl;refine qG (vs:=[w]) (show 1<1000000 by decide)<|aBy (n:=n) ?_;intro hd v d;refine dO (d.d _ _ uc.b c_) rfl λhe ue=>qG (vs:=[w]) (show 1<1000000 by decide)<|dE rfl ?_;refine dO ue.b rfl λhf uf=>dO uf.b rfl λhg ug=>dO ug.b rfl λhh uh=>?_;haveI Id:In p H hd:=⟨dN Ic.g d.f,λl o h x=>d.d _ _ (Ic.d _ _ h x) c_⟩
 haveI gl:=d.f;refine q hh v _ ((((Id.b ue<|.inl rfl).b uf<|.inl rfl).b ug<|.inl rfl).b uh<|.inl rfl) ?_ uh.b;rw [uh.c,ug.c,uf.c,ue.c];exact(qk fL Z [.g aB aR,.g aI bN,.g bF aI,.g bO dq,.g cR bO,.g cU cR,.g dJ cU,.l dJ Z] U c P W l9 la lb lc gl)
end
noncomputable def tdO(p:Nat)(i nm c fl d a:V):O:=.b 287 [(7,i),(8,nm),(9,c),(10,fl),(11,d),(12,.j<|p+1),(13,.j<|p+2),(14,.j<|p+3),(15,.j<|p+4),(16,.j<|p+5),(17,.j<|p+6),(18,a),(19,.d 0),(20,.d<|-1),(21,.j<|p+7),(22,.j<|p+8),(23,.j<|p+9),(24,.d 0),(25,.d 0)]
section
def aBB(H:Hp)(p q:Nat)(t:List V)(i nm v fl w d:V)(e:Hp)(l:List V)(G:aS)(h:Hp):Prop:=∀a:Prop,(∀(c m n:List V)(x:Option V)(A:t=c++l)(B:In p H h)(C:h.length=p+5)(D:h[p]?=e[p]?)(I:h[p+1]?=J (.a []))(P:h[p+2]?=J (.a c))(Q:h[p+3]?=J (.a m))(R:m.length=c.length)(W:h[p+4]?=J (.a n))(X:n.length=c.length)(z:G=[J<|.j p,J i,J nm,J v,J fl,J w,J<|.j q,J d,x]),a)->a
theorem Mj(e:H[p]?=J (.b 287 []))(c:H.length=p+1)(hw:H[pa]?=J (.a ws))(Az:pa<p)(wB:ws.length<1000)
  (q:∀H',In p H H'->H'.length=p+10->H'[p]?=J (tdO p i nm so fl ba iL)->H'[p+1]?=J (.a [])->H'[p+2]?=J (.a ws)->H'[p+6]?=J (.a [])->H'[p+7]?=J (.a [])->Q .o H'):
  aa (n+1) 21 [.j p,i,nm,so,fl,ba,.j pa,iL] H Q:=by
 refine ce (fn:=PO) rfl rfl ?_;intro rr;refine dO e rfl λh1 u1=>dO u1.b rfl λh2 u2=>dO u2.b rfl λh3 u3=>dO u3.b rfl λh4 u4=>dO u4.b rfl λh5 u5=>?_;haveI I5:In p H h5:=((((In.i.b u1<|.inl rfl).b u2<|.inl rfl).b u3<|.inl rfl).b u4<|.inl rfl).b u5<|.inl rfl;have x:h5.length=p+1:=by rw [u5.c,u4.c,u3.c,u2.c,u1.c,c]
 refine bX λh6 u6=>?_;rw [x];have P:=u6.c;refine dO (u6.a _ _ u5.b) rfl λh7 u7=>?_;have R:=u7.c;refine bX λh8 u8=>?_;rw [show h7.length=p+2 from(bj (de Y kQ [.e aB aY,.e aI bN,.e Y aI] U x P R)<|de cm Z [.g aB aR,.g aI bN,.g Z aI] U x P R)];have l8:=u8.c;refine dO (u8.a _ _ u7.b) rfl λh9 u9=>?_;have l9:=u9.c;refine bX λh10 A=>?_;rw [show h9.length=p+3 from(bj (mY Y (.p 1 3) [.e aB aY,.e aI bN,.e bF aI,.e bO dq,.e Y bO] U x P R l8 l9)<|mY fL Z [.g aB aR,.g aI bN,.g bF aI,.g bO dq,.g Z bO] U x P R l8 l9)];have W:=A.c;refine dO (A.a _ _ u9.b) rfl λUF B=>?_;have X:=B.c;refine bX λh12 d=>?_;rw [show UF.length=p+4 from(bj (sI Y (.p 1 4) [.e aB aY,.e aI bN,.e bF aI,.e bO dq,.e cR bO,.e cU ky,.e Y cU] U x P R l8 l9 W X)<|sI fZ Z [.g aB aR,.g aI bN,.g bF aI,.g bO dq,.g cR bO,.g cU ky,.g Z cU] U x P R l8 l9 W X)];haveI mR:=d.c;refine dO (d.a _ _ B.b) rfl λm t=>?_;haveI l13:=t.c;haveI UG:In p H m:=(((((((I5.f u6).b u7<|.inl rfl).f u8).b u9<|.inl rfl).f A).b B<|.inl rfl).f d).b t<|.inl rfl;haveI g1:m[p+1]?=J (.a []):=by have:=u6.b;rw [x]at this;exact t.a _ _ (d.a _ _<|B.a _ _ (A.a _ _<|u9.a _ _ (u8.a _ _<|u7.a _ _ this<|a9<|gE c c)<|a9<|gE c c)<|a9<|gE c c)<|a9<|gE c c
 haveI g2:m[p+2]?=J (.a []):=by have:=u8.b;rw [show h7.length=p+2 from(bj (de Y kQ [.e aB aY,.e aI bN,.e Y aI] U x P R)<|de cm Z [.g aB aR,.g aI bN,.g Z aI] U x P R)]at this;exact t.a _ _ (d.a _ _<|B.a _ _ (A.a _ _<|u9.a _ _ this<|a9<|bP _<|aK _)<|a9<|bP _<|aK _)<|a9<|bP _<|aK _
 haveI g3:m[p+3]?=J (.a []):=by have:=A.b;rw [show h9.length=p+3 from(bj (mY Y (.p 1 3) [.e aB aY,.e aI bN,.e bF aI,.e bO dq,.e Y bO] U x P R l8 l9)<|mY fL Z [.g aB aR,.g aI bN,.g bF aI,.g bO dq,.g Z bO] U x P R l8 l9)]at this;exact t.a _ _ (d.a _ _<|B.a _ _ this<|a9<|bP _<|aK _)<|a9<|bP _<|aK _
 haveI g4:m[p+4]?=J (.a []):=by have:=d.b;rw [show UF.length=p+4 from(bj (sI Y (.p 1 4) [.e aB aY,.e aI bN,.e bF aI,.e bO dq,.e cR bO,.e cU ky,.e Y cU] U x P R l8 l9 W X)<|sI fZ Z [.g aB aR,.g aI bN,.g bF aI,.g bO dq,.g cR bO,.g cU ky,.g Z cU] U x P R l8 l9 W X)]at this;exact t.a _ _ this<|a9<|bP _<|aK _
 have ob:m[p]?=J (.b 287 [(7,i),(8,nm),(9,so),(10,fl),(11,ba),(12,.j<|p+1),(13,.j<|p+2),(14,.j<|p+3),(15,.j<|p+4)]):=t.b;refine fq (UG.d _ _ hw<|aj Az)<|fp (aBB H p pa ws i nm so fl ba iL m) ?_ ?_ ?_ ?_;·exact λ_ k=>k ([]) ([]) ([]) aA rfl UG (by omega) rfl g1 g2 g3 rfl g4 rfl rfl
 ·intro eC G h q0;refine q0 _ λ_ _ _ _ _ I _ _ _ _ _ _ _ _ _=>?_;exact .inl<|I.d _ _ hw<|aj Az
 ·intro G h q0;refine q0 _ λps xs ys x8 e1 I a e2 k1 k2 k3 _ k4 _ fB=>?_;apply cQ fB;intro rr;rw [cI]at e1;subst e1;rw [ob]at e2;refine bX λa1 C=>?_;rw [a];have m1:=C.c;refine dO (C.a _ _ e2) rfl λa2 D=>?_;have m2:=D.c;refine bX λa3 z=>?_;rw [show a2.length=p+6 from(bj (de Y (.p 1 6) [.e aB oq,.e aI bN,.e Y aI] U a m1 m2)<|de cJ Z [.g aB bu,.g aI bN,.g Z aI] U a m1 m2)];have m3:=z.c;refine dO (z.a _ _ D.b) rfl λa4 v4=>dO v4.b rfl λa5 v5=>dO v5.b rfl λa6 v6=>dO v6.b rfl λa7 v7=>?_;haveI ov:a7[p]?=J (.b 287 [(7,i),(8,nm),(9,so),(10,fl),(11,ba),(12,.j<|p+1),(13,.j<|p+2),(14,.j<|p+3),(15,.j<|p+4),(16,.j<|p+5),(17,.j<|p+6),(18,iL),(19,.d 0),(20,.d<|-1)]):=v7.b;have m4:=v4.c;have m5:=v5.c;have m6:=v6.c;have m7:=v7.c;refine bX λb1 w1=>?_;rw [show a7.length=p+7 from(bj (qk Y (.p 1 7) [.e aB oq,.e aI bN,.e bF aI,.e bO dq,.e cR bO,.e cU cR,.e dJ cU,.e Y dJ] U a m1 m2 m3 m4 m5 m6 m7)<|qk (.p 0 7) Z [.g aB bu,.g aI bN,.g bF aI,.g bO dq,.g cR bO,.g cU cR,.g dJ cU,.g Z dJ] U a m1 m2 m3 m4 m5 m6 m7)];have n1:=w1.c;refine dO (w1.a _ _ ov) rfl λb2 w2=>?_;have n2:=w2.c;refine bX λb3 w3=>?_;rw [show b2.length=p+8 from(bj (yf Y (.p 1 8) [.e aB oq,.e aI bN,.e bF aI,.e bO dq,.e cR bO,.e cU cR,.e dJ cU,.e gg dJ,.e gW oz,.e Y gW] U a m1 m2 m3 m4 m5 m6 m7 n1 n2)<|yf (.p 0 8) Z [.g aB bu,.g aI bN,.g bF aI,.g bO dq,.g cR bO,.g cU cR,.g dJ cU,.g gg dJ,.g gW oz,.g Z gW] U a m1 m2 m3 m4 m5 m6 m7 n1 n2)];have n3:=w3.c;refine dO (w3.a _ _ w2.b) rfl λb4 w4=>?_;have n4:=w4.c;refine bX λb5 w5=>?_;rw [show b4.length=p+9 from(bj (dy [_,_,_,_,_,_,_,_,_,_,_,_,_] Y (.p 1 9) [.e aB oq,.e aI bN,.e bF aI,.e bO dq,.e cR bO,.e cU cR,.e dJ cU,.e gg dJ,.e gW oz,.e o_ gW,.e lr<|.p 11 1,.e Y lr] U a m1 m2 m3 m4 m5 m6 m7 n1 n2 n3 n4)<|dy [_,_,_,_,_,_,_,_,_,_,_,_,_] (.p 0 9) Z [.g aB bu,.g aI bN,.g bF aI,.g bO dq,.g cR bO,.g cU cR,.g dJ cU,.g gg dJ,.g gW oz,.g o_ gW,.g lr<|.p 11 1,.g Z lr] U a m1 m2 m3 m4 m5 m6 m7 n1 n2 n3 n4)];have n5:=w5.c;refine dO (w5.a _ _ w4.b) rfl λb6 w6=>dO w6.b rfl λb7 w7=>dO w7.b rfl λb8 w8=>?_;have n6:=w6.c;have n7:=w7.c;have n8:=w8.c;have ga:∀l o,h[l]?=J o->l≠p->a7[l]?=J o:=λl o e v=>v7.a _ _ (v6.a _ _ (v5.a _ _ (v4.a _ _ (z.a _ _<|D.a _ _ (C.a _ _ e) v) v) v) v) v;have gb:∀l o,a7[l]?=J o->l≠p->b8[l]?=J o:=λl o e v=>w8.a _ _ (w7.a _ _ (w6.a _ _ (w5.a _ _<|w4.a _ _ (w3.a _ _<|w2.a _ _ (w1.a _ _ e) v) v) v) v) v;haveI t6:a7[p+6]?=J (.a []):=by have:=z.b;rw [show a2.length=p+6 from(bj (de Y (.p 1 6) [.e aB oq,.e aI bN,.e Y aI] U a m1 m2)<|de cJ Z [.g aB bu,.g aI bN,.g Z aI] U a m1 m2)]at this;exact v7.a _ _ (v6.a _ _ (v5.a _ _ (v4.a _ _ this<|a9<|bP _<|aK _)<|a9<|bP _<|aK _)<|a9<|bP _<|aK _)<|a9<|bP _<|aK _
  haveI t7:b8[p+7]?=J (.a []):=by have:=w1.b;rw [show a7.length=p+7 from(bj (qk Y (.p 1 7) [.e aB oq,.e aI bN,.e bF aI,.e bO dq,.e cR bO,.e cU cR,.e dJ cU,.e Y dJ] U a m1 m2 m3 m4 m5 m6 m7)<|qk (.p 0 7) Z [.g aB bu,.g aI bN,.g bF aI,.g bO dq,.g cR bO,.g cU cR,.g dJ cU,.g Z dJ] U a m1 m2 m3 m4 m5 m6 m7)]at this;exact w8.a _ _ (w7.a _ _ (w6.a _ _ (w5.a _ _<|w4.a _ _ (w3.a _ _<|w2.a _ _ this<|a9<|bP _<|aK _)<|a9<|bP _<|aK _)<|a9<|bP _<|aK _)<|a9<|bP _<|aK _)<|a9<|bP _<|aK _
  refine q b8 ⟨?_,λl o e v=>gb _ _ (ga _ _ (I.d _ _ e v) v) v⟩ (bj (En Y (.p 1 10) [.e aB oq,.e aI bN,.e bF aI,.e bO dq,.e cR bO,.e cU cR,.e dJ cU,.e gg dJ,.e gW oz,.e o_ gW,.e lr<|.p 11 1,.e (.v 13) lr,.e (.v 14)<|.p 13 1,.e (.v 15)<|.v 14,.e (.v 16)<|.v 15,.e Y<|.v 16] U a m1 m2 m3 m4 m5 m6 m7 n1 n2 n3 n4 n5 n6 n7 n8)<|En nR Z [.g aB bu,.g aI bN,.g bF aI,.g bO dq,.g cR bO,.g cU cR,.g dJ cU,.g gg dJ,.g gW oz,.g o_ gW,.g lr<|.p 11 1,.g (.v 13) lr,.g (.v 14)<|.p 13 1,.g (.v 15)<|.v 14,.g (.v 16)<|.v 15,.g Z<|.v 16] U a m1 m2 m3 m4 m5 m6 m7 n1 n2 n3 n4 n5 n6 n7 n8) w8.b (gb _ _ (ga _ _ k1<|a9<|gE c c)<|a9<|gE c c) (gb _ _ (ga _ _ k2<|a9<|bP _<|aK _)<|a9<|bP _<|aK _) (gb _ _ t6<|a9<|bP _<|aK _) t7;haveI:=I.g;exact(En Y Z [.g aB fM,.g bF aB,.g bO dq,.g cR bO,.g cU cR,.g dJ cU,.g gg dJ,.g gW oz,.g o_ gW,.g lr<|.p 11 1,.g (.v 13) lr,.g (.v 14)<|.p 13 1,.g (.v 15)<|.v 14,.g (.v 16)<|.v 15,.g Z<|.v 16,.l Y aI] U m1 m2 m3 m4 m5 m6 m7 n1 n2 n3 n4 n5 n6 n7 n8 this)
 intro w bo G h q0;refine q0 _ λps xs ys x8 e1 I a e2 k1 k2 k3 lx k4 ly fB=>?_;intro K2 kn kr;apply cQ fB;intro rr;rw [ob]at e2;have pl:ps.length<1000:=by haveI:=congrArg gB e1;rw [b9]at this;exact(dg Y dz [.t Z dz,.g Z<|.a Y aB] U wB this)
 refine aL e2<|dE (dj k2)<|eB k2 (ae pl) ?_;have C:=am.d (o:=.a<|ps++[w]) k2;revert C;generalize h.set (p+2) _=a1;intro C;haveI o1:=C.a _ _ e2<|aj<|bP _<|aK _;refine aL o1 ?_;haveI Jp:=C.a _ _ k3<|a9<|bA cm fL [] U;refine dE (dj Jp)<|eB Jp (ae<|yh lx pl) ?_;have D:=am.d (o:=.a<|xs++[.d 0]) Jp;revert D;generalize a1.set (p+3) _=a2;intro D;haveI o2:=D.a _ _ o1<|aj<|bP _<|aK _;refine aL o2 ?_;haveI Jq:=D.a _ _ (C.a _ _ k4<|a9<|bA cm fZ [] U)<|a9<|bA fL fZ [] U;refine dE (dj Jq)<|eB Jq (ae<|yh ly pl) ?_;have z:=am.d (o:=.a<|ys++[V.m [.d 0,V.m []]]) Jq;revert z;generalize a2.set (p+4) _=a3;intro z;refine(kn _ _ λ_ k=>k (ps++[w]) _ _ _ (by rw [e1,d6];rfl) (((I.b C<|.inr<|aV Y kQ [.e Y aY] U c).b D<|.inr<|aV Y (.p 1 3) [.e Y aY] U c).b z<|.inr<|aV Y (.p 1 4) [.e Y aY] U c) (by rw [z.c,D.c,C.c];exact a) ?_ (z.a _ _ (D.a _ _ (C.a _ _ k1<|aj<|bA aR cm [] U)<|aj<|bA aR fL [] U)<|aj<|bA aR fZ [] U) (z.a _ _ (D.a _ _ C.b<|aj<|bA cm fL [] U)<|aj<|bA cm fZ [] U) (z.a _ _ D.b<|aj<|bA fL fZ [] U) (by rw [b9,b9,lx];rfl) z.b (by rw [b9,b9,ly];rfl) rfl).1;rw [ob];exact z.a _ _ o2<|aj<|bP _<|aK _
end
inductive et where
 |k|c|e|f|g|a
 |b (i d:Nat)
 |o (j d:Nat)
 |l (n:Nat)
 |m (n:Nat)
noncomputable abbrev Rl:=Nat->Option et
structure Bd(H:Hp)(k:Nat)(σ:az)(A:eW)(K:List Ty)(R:Rl):Prop where
 W:Wo k σ A H K
 D:R A.s=J .k
 t:R A.e=J .c
 w:R A.d=J .e
 C:R A.f=J .f
 v:∀i c,σ.b i=J c->∀d,d<=9->R (A.a i+d)=J (.b i d)
 E:∀j m,σ.d j=J m->∀d,d<=2->R (A.b j+d)=J (.o j d)
 f:∀l r,R l=J r->l<H.length/\(l<k\/k+6<=l)
def et.h(r:et):Prop:=r=.g\/r=.a\/(∃n,r=.l n)\/∃n,r=.m n
def Kp(m:Bool)(r:Option et):Prop:=r=aA\/(m=true/\∃s,r=J s/\s.h)
theorem CJ(e:r=J s)(h:¬s.h):¬Kp m r:=by
 rintro(a|⟨-,d,a,c⟩);·rw [e]at a;exact iC a
 rw [e]at a;(replace a:=ao a;subst a);exact h c
theorem Fz(e:r=J (.b i d)):¬Kp m r:=CJ e<|by rintro(h|h|⟨_,h⟩|⟨_,h⟩)<;>exact Mine.et.noConfusion h
theorem aBC(e:r=J .f):¬Kp m r:=CJ e<|by rintro(h|h|⟨_,h⟩|⟨_,h⟩)<;>exact Mine.et.noConfusion h
theorem aBD(e:r=J .c):¬Kp m r:=CJ e<|by rintro(h|h|⟨_,h⟩|⟨_,h⟩)<;>exact Mine.et.noConfusion h
theorem aBE(e:r=J .e):¬Kp m r:=CJ e<|by rintro(h|h|⟨_,h⟩|⟨_,h⟩)<;>exact Mine.et.noConfusion h
theorem F_(e:r=J s):¬Kp false r:=by
 rintro(a|⟨h,-⟩);·rw [e]at a;exact iC a
 exact ft h
structure Go(m:Bool)(k:Nat)(X:List Nat)(H:Hp)(R:Rl)(H':Hp)(R':Rl):Prop where
 q:H.length<=H'.length
 g:∀l,l<H.length->R' l=R l
 i:∀l o,H[l]?=J o->Kp m (R l)->(l<k\/k+6<=l)->l∉X->H'[l]?=J o
section
variable{σ:az}
theorem Go.f:Go m k X H R H R:=⟨aK _,λ_ _=>rfl,λ_ _ h _ _ _=>h⟩
theorem Go.d(a:Go m k X H R z B)(b:Go m k X z B e p):Go m k X H R e p:=
 ⟨dN a.q b.q,λl h=>(b.g l<|kE h a.q).trans<|a.g l h,λl o h r c x=>b.i _ _ (a.i _ _ h r c x) (by rw [a.g l<|bw h];exact r) c x⟩
theorem Go.s(a:NX k X H p e K'):Go m k X H R e R:=⟨a.j,λ_ _=>rfl,λl o h _ c x=>a.n _ _ h c x⟩
theorem Go.n(a:Go m k X H R z B)(u:nz z o e):Go m k X H R e B:=⟨by rw [u.c];exact tY a.q,a.g,λl p h r c x=>u.a _ _<|a.i _ _ h r c x⟩
theorem Go.t(a:Go m k X H R D B)(u:am D l o z)(c:l∈X\/H.length<=l\/¬Kp m (B l)):Go m k X H R z B:=
 ⟨by rw [u.c];exact a.q,a.g,λj p h r C x=>u.a _ _ (a.i _ _ h r C x) λe=>by
  clear C u;subst e
  refine aU c ?_ λI=>aU I ?_ ?_
  ·intro c;exact x c
  ·intro c;rw [ey c]at h;exact aX h
  ·intro c;exact c (by rw [a.g _ (bw h)];exact r)⟩
theorem Go.v(a:Go true k X H R c e):Go false k X H R c e:=⟨a.q,a.g,λl o h r=>a.i l o h<|.inl<|r.resolve_right λz=>by cases z.1⟩
theorem TD.n(T:TD H X p i c)(g:∀d o,d<=9->H[p+d]?=J o->P[p+d]?=J o) (a:∃r,K'=X++r):TD P K' p i c:=by
 refine oE a λr A=>?_;rw [A];have x:∀v t,At X v t->At (X++r) v t:=λv t h=>⟨dI _ h.1,h.2.trans (lF h.1).symm⟩
 haveI B:∀l C,bB X l C->bB (X++r) l C:=λl C h=>⟨h.1.trans<|mL λt m=>(lF<|h.2 t m).symm,λt m=>dI _<|h.2 t m⟩
 refine⟨?_,?_,?_,g 6 _ (by decide) T.f,?_⟩
 ·refine sL T.b λnm bs D Q R e W z=>
   ⟨nm,bs,D,Q,R,g 0 _ (by decide) e,W,?_⟩
  induction I:c.e with
  |none=>rw [I]at z;exact z|some t=>rw [I]at z;exact x _ _ z
 ·refine aG T.q λl e h=>bU l (g 1 _ (by decide) e)<|B _ _ h
 ·refine aG T.s λl e h=>bU l (g 2 _ (by decide) e) h
 refine aG T.j λl e h=>?_;exact bU l (g 7 _ (by decide) e)<|h.e λ_ _ ⟨w,e,h⟩=>⟨w,e,x _ _ h⟩
theorem MD.c{m:kR}(T:MD H w p j m)(g:∀o,H[p]?=J o->n[p]?=J o) (a:∃r,K'=w++r):MD n K' p j m:=by refine oE a λr l=>?_;rw [l];refine cp T.b λv q t e h=>⟨T.d,T.f,v,q,t,g _ e,dI _ h.1,h.2.trans (lF h.1).symm⟩
theorem Bd.G(B:Bd H k σ A K R)(X:KT p k K')(a:∃r,K'=K++r) (x:H.length<=p.length) (g:∀l o,H[l]?=J o->R l≠aA->p[l]?=J o):Bd p k σ A K' R:=by
 have n:∀{l r},R l=J r->R l≠none:=λh z=>by rw [h]at z;exact iC z
 refine uT B.W.b.p λt1 t2 t3 t4 t5 t6 t7=>?_;have S:=B.W.b;refine⟨⟨X,⟨g _ _ S.b<|n B.D,?_,?_,λi c e=>(S.d i c e).n (λd o hd h=>g _ _ h<|n<|B.v i c e d hd) a,λj m e=>(S.f j m e).c (λo h=>g _ _ h<|n<|B.E j m e 0<|by decide) a,S.g,?_,S.r,S.o,t1,t2,t3,t4,t5,dN t6 x,t7⟩⟩,B.D,B.t,B.w,B.C,B.v,B.E,λl r h=>⟨kE (B.f l r h).1 x,(B.f l r h).2⟩⟩;·refine aG S.q λq e h=>bU q (g _ _ e<|n B.t) h
 ·refine aG S.s λq e h=>bU q (g _ _ e<|n B.C) h
 refine aG S.u λes e h=>?_;exact bU es (g _ _ e<|n B.w) h
theorem Bd.I(B:Bd H k σ A n R)(a:NX k X H n c K')(d:∀l∈X,R l=aA):Bd c k σ A K' R:=
 B.G a.g a.t a.j λl o h r=>by
  induction e:R l with
  |none=>exact absurd e r|some q=>exact a.n _ _ h (B.f l q e).2 λm=>r<|d l m
theorem Bd.F(B:Bd H k σ A c R)(u:nz H o a):Bd a k σ A c R:=B.G (B.W.c.m u) ⟨[],(cI _).symm⟩ (by rw [u.c];exact vo _) λl p h _=>u.a _ _ h
theorem Bd.N(B:Bd H k σ A n R)(u:am H l o a)(c:l<k\/k+6<=l)(r:R l=aA):Bd a k σ A n R:=B.G (B.W.c.g u c) ⟨[],(cI _).symm⟩ (by rw [u.c];exact aK _) λm p h d=>u.a _ _ h λe=>d<|e▸r
noncomputable def az.h(σ:az)(i:Nat)(c:dh):az:={σ with g:=σ.g.set i<|J c}
theorem vA(h:σ.b i=J c):(σ.h i a).b j=if j=i then J a else σ.b j:=by
 haveI l:=qp h;delta az.b az.h;dsimp only;by_cases e:j=i;·rw [e];rw [if_pos rfl,vg l];rfl
 rw [if_neg e,qY<|iX e]
theorem Bd.M(B:Bd H k σ A K R)(z:σ.b i=J c)(hd:d<=9)(u:am H (A.a i+d) o X)(T:TD X K (A.a i) i c'):Bd X k (σ.h i c') A K R:=by
 haveI rd:=B.v i c z d hd;have S:=B.W.b;refine uT S.p λt1 t2 t3 t4 t5 t6 t7=>pB S.o λh1 h2 h3 h4 h5=>?_;have p:∀{l r},R l=J r->r≠.b i d->l≠A.a i+d:=λh q e=>q<|by rw [e,rd]at h;exact(ao h).symm
 have cl:∀j x,(σ.h i c').b j=J x->(j=i/\x=c')\/(j≠i/\σ.b j=J x):=λj x e=>by
  rw [vA z]at e;by_cases q:j=i;·rw [if_pos q]at e;exact .inl ⟨q,(ao e).symm⟩
  rw [if_neg q]at e;exact .inr ⟨q,e⟩
 haveI n:(σ.h i c').g.length=σ.g.length:=vh;have a:∀j x,(σ.h i c').b j=J x->∃y,σ.b j=J y:=λj x e=>(cl j x e).elim (λq=>⟨c,q.1▸z⟩) λq=>⟨x,q.2⟩
 haveI kt:KT X k K:=B.W.c.g u (B.f _ _ rd).2;refine⟨⟨kt,⟨u.a _ _ S.b (p B.D<|by intro h;exact Mine.et.noConfusion h),?_,?_,?_,?_,⟨n▸S.g.1,S.g.2⟩,?_,S.r,⟨h1,h2,h3,λj x e=>(a j x e).elim λy e=>h4 j y e,h5⟩,t1,t2,t3,λj x e=>(a j x e).elim λy e=>t4 j y e,t5,u.c▸t6,t7⟩⟩,B.D,B.t,B.w,B.C,λj x e=>(a j x e).elim λy e=>B.v j y e,B.E,λl r h=>u.c▸B.f l r h⟩;·refine hJ S.q λts e e1 e2=>qB ts (u.a _ _ e (p B.t<|by intro h;exact Mine.et.noConfusion h)) (n▸e1) (λj x q=>(a j x q).elim λy q=>e2 j y q)
 ·refine aG S.s λts e h=>bU ts (u.a _ _ e (p B.C<|by intro h;exact Mine.et.noConfusion h)) h
 ·intro j x e;clear n h5 h4 t5 t4;rcases cl j x e with⟨rfl,rfl⟩|⟨q,e⟩
  ·exact T
  exact(S.d j x e).n (λd' o tu h=>u.a _ _ h (p (B.v j x e d' tu)<|by intro h;(injection h with h;clear a cl rd T z;clear e p u;subst h);exact q rfl)) ⟨[],(cI _).symm⟩
 ·intro j m e;exact(S.f j m e).c (λo h=>u.a _ _ h (p (B.E j m e 0<|by decide)<|by intro h;exact Mine.et.noConfusion h)) ⟨[],(cI _).symm⟩
 refine aG S.u λes e h=>?_;exact bU es (u.a _ _ e (p B.w<|by intro h;exact Mine.et.noConfusion h))<|n▸h
end
section
variable{σ:az}
theorem aBF(h:σ.b i=J c):σ.h i c=σ:=by
 haveI l:=qp h;unfold az.h;haveI e:σ.g.set i (J c)=σ.g:=by
  refine ID λj=>?_;by_cases q:i=j;·subst q;rw [vg l];unfold az.b at h;rw [f7 l]at h⊢;exact congrArg J h.symm
  rw [qY q]
 rw [e]
theorem CK{K':V->Prop}(W:Wo k σ A H m)(h:σ.b i=J c)(q:K'<|.j<|A.a i):mj (.j A.e) (.d<|ip i) H K':=by refine hJ W.b.q λd e l a=>du e (a _ _ h) (lW (qp h)<|lW W.b.g.1<|by decide) q
theorem Mk(B:Bd H k σ A K R)(a:σ.b i=J c)(p:At K v f)(D:c.c.length<1000)(q:∀t,Bd t k (σ.h i {c with c:=dG c.c f}) A K R->Go true k [] H R t R->Q .o t):aa (n+1) 28 [.j A.s,.d (i:Nat),v] H Q:=by
 refine ce (fn:=PV) rfl rfl ?_;intro rr;haveI W:=B.W;have T:=W.b.d i c a;refine aL W.b.b<|CK W a<|sL T.b λnm bs w I P x X eb=>aG T.q λl e z=>oE p.i λvi C=>?_;subst C;refine aL x<|bK (B_ e z p) ?_;by_cases m:f∈c.c
 ·refine hM (by rw [decide_eq_true m];rfl) ?_;have:({c with c:=dG c.c f}:dh)=c:=by rw [show dG c.c f=c.c from if_pos m]
  rw [this,aBF a]at q;exact q H B Go.f
 refine iO (by rw [decide_eq_false m];rfl)<|aL x<|dE (dj e)<|eB e (by rw [z.c];exact(ae D)) ?_;have u:=am.d (o:=.a<|l++[.d (vi:Nat)]) e;revert u;generalize H.set (A.a i+1) _=h1;intro u;haveI r1:=B.v i c a 1<|by decide
 refine q h1 (B.M a (d:=1) (by decide) u ?_)<|Go.f.t u<|.inr<|.inr<|Fz r1;refine⟨⟨nm,bs,w,I,P,u.a _ _ x<|aj<|bP _<|aK _,X,eb⟩,⟨_,u.b,?_⟩,?_,u.a _ _ T.f<|a9<|bA aR cJ [] U,?_⟩;·refine(?_:bB K _<|dG c.c f);rw [show dG c.c f=c.c++[f]from if_neg m];exact z.l<|bB.d p
 ·refine aG T.s λl e h=>bU l (u.a _ _ e<|a9<|bA aR cm [] U) h
 refine aG T.j λl e h=>?_;exact bU l (u.a _ _ e<|a9<|bA aR (.p 0 7) [] U) h
set_option tactic.hygienic true in
theorem aBG(e:H[l]?=J (.a c))(h:jb (xI X) c es)(B:At X w f)(n:∀e∈es,e.1≠b):eK bW H .a (V.m [aP b,w,aP d]) (.j l)=J true:=by
 refine oE B.i λt a=>?_;rw [a];haveI p:(V.m [aP b,.d (t:Nat),aP d]).p=true:=rfl;haveI q:c.all V.p=true/\V.m [aP b,.d (t:Nat),aP d]∉c:=by
  clear e;induction h with
  |d=>exact⟨rfl,c_⟩|c C D A=>
   rename_i x e R es;haveI I:=(A λe m=>n e<|.tail _ m).1;haveI P:=(A λe m=>n e<|.tail _ m).2;refine aG C λz a Q=>?_;rw [a];refine oE (At.i Q) λW v=>?_;rw [v];refine⟨?_,λm=>?_⟩;·rw [IE,I];rfl
   refine aU (dA.mp m) ?_ ?_;·intro m;haveI:=(V.r.inj m).1;exact n e (.head _) (Int.ofNat.inj<|V.d.inj this).symm
   intro m;exact P m
 exact congrArg (oV (!·))<|(f0 (f:=mG<|V.m [aP b,.d (t:Nat),aP d]) e).trans<|(zb p q.1).trans<|congrArg J<|decide_eq_false q.2
theorem aBH(B:Bd H k σ A K R)(l:σ.b i=J c)(w:At K v f)(z:∀e∈c.b,e.1≠b) (C:c.b.length<1000) (q:∀m,Bd m k (σ.h i {c with b:=c.b++[(b,f,d)]}) A K R->Go true k [] H R m R->Q .o m):aa (n+2) 33 [.j A.s,.d (i:Nat),aP b,v,aP d] H Q:=by
 refine ce (fn:=P0) rfl rfl ?_;intro rr;have W:=B.W;have T:=W.b.d i c l;refine aL W.b.b<|CK W l<|sL T.b λnm bs p D I x P X=>aG T.j λa e t=>aL x<|ce (fn:=PZ) rfl rfl ?_;intro rr;refine bK (aBG e t w z)<|dE (dj e)<|eB e (by rw [t.i];exact(ae C)) ?_;have u:=am.d (o:=.a<|a++[V.m [aP b,v,aP d]]) e;revert u;generalize H.set (A.a i+7) _=h1;intro u;haveI r1:=B.v i c l 7<|by decide
 refine q h1 (B.M l (d:=7) (by decide) u ?_)<|Go.f.t u<|.inr<|.inr<|Fz r1;refine⟨⟨nm,bs,p,D,I,u.a _ _ x<|aj<|bP _<|aK _,P,X⟩,?_,?_,u.a _ _ T.f<|aj<|bA cJ (.p 0 7) [] U,⟨_,u.b,t.j<|.c ⟨v,rfl,w⟩ .d⟩⟩;·refine aG T.q λa e h=>bU a (u.a _ _ e<|aj<|bA aR (.p 0 7) [] U) h
 refine aG T.s λa e h=>?_;exact bU a (u.a _ _ e<|aj<|bA cm (.p 0 7) [] U) h
end
noncomputable def az.l(c:az)(m:kR):az:={c with a:=c.a++[J m]}
theorem GA{σ:az}{m:kR}{j:Nat}:(σ.l m).d j=if j=σ.a.length then J m else σ.d j:=by
 delta az.d az.l;dsimp only;by_cases e:j=σ.a.length;·rw [e];rw [if_pos rfl,kf<|aK _,lX];rfl
 rw [if_neg e];rcases fV j σ.a.length with q|q;·rw [jL q]
 rw [ey<|by rw [b9];exact Ra q<|iX e,ey q]
theorem CL{a:az}{j:Nat}{m:kR}(h:a.d j=J m):j<a.a.length:=by
 unfold az.d at h;refine aU (fV j a.a.length) ?_ ?_;·intro q;exact q
 intro q;rw [ey q]at h;exact aX h
noncomputable def eW.h(A:eW)(m p aN:Nat):eW:={A with b:=λj=>if j=m then p else A.b j,c:=aN}
noncomputable def Rl.b(R:Rl)(d p:Nat):Rl:=λl=>if p<=l/\l<=p+2 then J (.o d<|l-p)else R l
section
theorem Bd.O{p:Nat}{m:kR}{ts:List V}(B:Bd H k n A K R)(T:MD H K p n.a.length m)(hp:k+6<=p/\p+2<H.length)(hR:∀l,p<=l->l<=p+2->R l=aA) (hm:H[A.f]?=J (.a ts)) (u:am H A.f (.a<|ts++[.j p]) z) (sz:n.a.length+1<1000):
  Bd z k (n.l m) (A.h n.a.length p z.length) K (R.b n.a.length p):=by
 have S:=B.W.b;refine uT S.p λt1 t2 t3 t4 t5 t6 t7=>pB S.o λh1 h2 h3 h4 h5=>?_;have kp:∀{l r},R l=J r->R.b n.a.length p l=J r:=λ{l r} h=>by unfold Rl.b;rw [if_neg λq=>by rw [hR l q.1 q.2]at h;cases h];exact h
 have ne:∀{l r},R l=J r->r≠.f->l≠A.f:=λh q e=>q<|by rw [e,B.C]at h;exact(ao h).symm
 have ma:∀j,j≠n.a.length->(A.h n.a.length p z.length).b j=A.b j:=λj h=>if_neg h;have mn:(A.h n.a.length p z.length).b n.a.length=p:=if_pos rfl;have me:∀j x,(n.l m).d j=J x->(j=n.a.length/\x=m)\/(j≠n.a.length/\n.d j=J x):=λj x e=>by
  rw [GA]at e;by_cases q:j=n.a.length;·rw [if_pos q]at e;exact .inl ⟨q,(ao e).symm⟩
  rw [if_neg q]at e;exact .inr ⟨q,e⟩
 have hl:=u.c;have a:(n.l m).a.length=n.a.length+1:=b9;haveI pml:p≠A.f:=λe=>by have:=hR p (aK _)<|dF _<|yi mn mn;rw [e,B.C]at this;exact iC this
 haveI kt:KT z k K:=B.W.c.g u (B.f _ _ B.C).2;refine⟨⟨kt,⟨u.a _ _ S.b (ne B.D<|by intro h;exact Mine.et.noConfusion h),?_,?_,?_,?_,⟨S.g.1,by rw [a];exact sz⟩,?_,S.r,⟨h1,h2,h3,h4,?_⟩,?_,?_,?_,?_,?_,aK _,?_⟩⟩,kp B.D,kp B.t,kp B.w,kp B.C,λi c e d hd=>kp<|B.v i c e d hd,?_,?_⟩;·refine aG S.q λts e h=>bU ts (u.a _ _ e (ne B.t<|by intro h;exact Mine.et.noConfusion h)) h
 ·refine hJ S.s λts' e e1 e2=>?_;rw [hm]at e;clear hm;obtain rfl:=Mine.O.a.inj<|ao e;refine⟨_,u.b,by rw [a,b9,e1];rfl,λj x q=>?_⟩;clear a kp h5 h4 t5 t4 S sz T B;rcases me j x q with⟨rfl,rfl⟩|⟨q1,X⟩
  ·rw [mn,kf<|lu e1,e1,lX];rfl
  rw [ma j q1,jL (by haveI:=CL X;exact(eY this e1))];exact e2 j x X
 ·intro i c e;exact(S.d i c e).n (λd o hd h=>u.a _ _ h (ne (B.v i c e d hd)<|by intro h;exact Mine.et.noConfusion h)) ⟨[],(cI _).symm⟩
 ·intro j x q;clear a kp h5 h4 t5 t4 sz;rcases me j x q with⟨rfl,rfl⟩|⟨q1,X⟩
  ·rw [mn];exact T.c (λo h=>u.a _ _ h pml) ⟨[],(cI _).symm⟩
  rw [ma j q1];exact(S.f j x X).c (λo h=>u.a _ _ h (ne (B.E j x X 0<|by decide)<|by intro h;exact Mine.et.noConfusion h)) ⟨[],(cI _).symm⟩
 ·refine aG S.u λes e h=>bU es (u.a _ _ e (ne B.w<|by intro h;exact Mine.et.noConfusion h)) h
 ·intro j x q;clear a kp h4 t5 t4 S sz T B;rcases me j x q with⟨rfl,rfl⟩|⟨q1,X⟩
  ·rw [mn];exact hp.1
  rw [ma j q1];exact h5 j x X
 ·refine(?_:A.e<z.length);exact(eY (bz t1 t6) hl)
 ·refine(?_:A.f<z.length);exact(eY (bz t2 t6) hl)
 ·refine(?_:A.d<z.length);exact(eY (bz t3 t6) hl)
 ·intro i c e;refine(?_:A.a i+9<z.length);haveI:=t4 i c e;exact(eY (bz this t6) hl)
 ·intro j x q;refine(?_:(A.h n.a.length p z.length).b j+2<z.length);clear a kp h5 h4 t4 S sz T B;rcases me j x q with⟨rfl,rfl⟩|⟨q1,X⟩
  ·rw [mn];exact(eY hp.2 hl)
  rw [ma j q1];haveI:=t5 j x X;exact(eY (bz this t6) hl)
 ·refine(?_:k+6<=z.length);exact(sJ (nV hp.1 hp.2) hl)
 ·intro j x q d hd;clear a h5 h4 t5 t4 S sz T;rcases me j x q with⟨rfl,rfl⟩|⟨q1,X⟩
  ·rw [mn];refine(?_:(if p<=p+d/\p+d<=p+2 then J (et.o n.a.length<|p+d-p)else R<|p+d)=_);rw [if_pos ⟨(aV Y (.a Y Z) [] U),(aV (.a Y Z) cm [.l Z dB] U hd)⟩,Rf]
  rw [ma j q1];exact kp<|B.E j x X d hd
 intro l r h;unfold Rl.b at h;split at h;·rename_i q;exact⟨(eY (cN q.2 hp.2) hl),(.inr<|aH hp.1 q.1)⟩
 exact hl▸B.f l r h
theorem In.j(I:In p H c)(B:Bd H k m A n R)(a:R p=aA/\k+6<=p):Bd c k m A n R:=
 B.G ⟨B.W.c.a,I.d _ _ B.W.c.b<|aj<|kz a.2,I.d _ _ B.W.c.e<|aj<|be aR Z [.l cJ Z] U a.2,I.d _ _ B.W.c.f<|aj<|be cm Z [.l cJ Z] U a.2,I.d _ _ B.W.c.h<|aj<|be fL Z [.l cJ Z] U a.2,I.d _ _ B.W.c.j<|aj<|be fZ Z [.l cJ Z] U a.2,I.d _ _ B.W.c.d<|aj<|be bu Z [.l cJ Z] U a.2⟩ ⟨[],(cI _).symm⟩ I.g λl o h r=>I.d _ _ h λe=>r<|e▸a.1
theorem aBI{fl:Nat}(h:fl=2\/fl=6\/fl=14)(q:Q (.d fl) H):aa (n+1) 29 [.d (fl:Nat)] H Q:=by refine ce (fn:=PW) rfl rfl ?_;intro rr;rcases h with rfl|rfl|rfl<;>exact q
theorem aBJ(W:Wo k d A H B)(hm:d.d j=J m)(l:d.b m.d=J c)(p:m.b=[109]\/m.b=[106]\/m.b=[101])(q:Q .o H):aa (n+1) 31 [.j A.s,.d (j:Nat)] H Q:=by
 refine ce (fn:=QP) rfl rfl ?_;intro rr;refine cp ((W.b.f _ _ hm).b) λw t v a z=>aL W.b.b<|lI W hm<|aL W.b.b<|aL a<|CK W l ?_;haveI fC:∀fl:Nat,fl=2\/fl=6\/fl=14->H[A.b j]?=J (.b 308 [(26,.d j),(27,.d m.d),(8,.k m.b),(28,.d 6),(10,.d fl),(29,.d 0),(30,.j<|A.b j+1),(31,.j<|A.b j+2),(32,.d 0),(13,V.m [w]),(33,t),(34,v),(35,.o),(36,.d 0)])->
   dC (aa n) (PY.a 2) [J<|.j A.s,J<|.d (j:Nat),J<|.j<|A.b j,J<|.j<|A.a m.d] H (gX Q):=by
  intro fl x a;rcases x with rfl|rfl|rfl<;>(refine aL a<|aL a ?_;rcases p with e|e|e<;>(rw [e];exact bK (gI rfl rfl) q))
 exact fC _ (W.b.f _ _ hm).f a
theorem GB{f:Ty}(B:Bd H k a A K R)(hc:a.b i=J c)(hv:At K v f)(hn:nm=[109]\/nm=[106]\/nm=[101])(hf:fl=2\/fl=6\/fl=14)(sz:a.a.length+1<1000)(hl:c.a.length<1000)
  (q:∀H' A' R',Bd H' k ((a.l ⟨i,nm,fl,f⟩).h i {c with a:=c.a++[a.a.length]}) A' K R'->A'.s=A.s->Go true k [] H R H' R'->Q (aP a.a.length) H'):
  aa (n+3) 30 [.j A.s,.d (i:Nat),.k nm,.d 6,.d (fl:Nat),.d 0,V.m [v]] H Q:=by
 refine ce (fn:=PX) rfl rfl ?_;intro rr
 have W:=B.W
 haveI ko:=bw W.c.d
 refine hJ W.b.s λts X w JV=>
   aL W.b.b<|
   CK W hc<|
   aL W.b.b<|
   gR X rfl (ae<|Bh w sz) ?_
 rw [w]
 refine aL W.b.b<|
   dE (dj X)<|
   aBI (n:=n+1) hf<|
   bX λh0 C=>?_
 haveI l0:=C.c
 haveI EY:=bw X
 refine aBz (n:=n) C.b l0 ?_
 intro h1 pn pf I1 l1 o1
 have Rp:∀l,H.length<=l->R l=none:=λl h=>by
  induction e:R l with
  |none=>rfl
  |some r=>exact absurd (B.f l r e).1<|ve<|by assumption
 haveI B1:Bd h1 k a A K R:=I1.j (B.F C) ⟨Rp _<|aK _,(aV cJ Z [.t bu Z] U ko)⟩
 have m:=I1.d _ _ (C.a _ _ X)<|aj EY
 refine dE rfl ?_
 refine eB m (ae<|Bh w sz) ?_
 have D:=am.d (o:=.a<|ts++[.j H.length]) m
 revert D
 generalize h1.set A.f _=z
 intro D
 haveI nmp:(V.k nm).p=true:=by rcases hn with rfl|rfl|rfl<;>rfl
 haveI T:MD h1 K H.length a.a.length ⟨i,nm,fl,f⟩:=⟨nmp,hf,v,pn,pf,o1,hv⟩
 have B2:=B1.O T ⟨(aV cJ Z [.t bu Z] U ko),(be cm Z [.l fL Z] U l1)⟩ (λl h _=>Rp l h) m D sz
 haveI G2:Go true k [] H R z (R.b a.a.length H.length):=by
  refine⟨by rw [D.c];exact dN (by rw [l0];exact vo _) I1.g,λl h=>if_neg λq=>(nU<|cN q.1 h),λl o h r c x=>D.a _ _ (I1.d _ _ (C.a _ _ h) (by haveI:=bw h;exact(aj this))) λe=>?_⟩
  exact aBC (e▸B.C) r
 haveI p:(a.l ⟨i,nm,fl,f⟩).b i=J c:=hc
 haveI W2:=B2.W
 have I:=W2.b.d i c p
 refine sL I.b λTF bs iL cc fi ho ea eb=>
   aL ho ?_
 haveI e3:=I.f
 refine dE (dj e3)<|
   eB e3 (by rw [ai];exact(ae hl)) ?_
 have t:am z (A.a i+6) (.a<|c.a.map aP++[aP a.a.length]) (z.set (A.a i+6)<|.a<|c.a.map aP++[aP a.a.length]):=am.d e3
 revert t
 refine(?_:_->aa _ _ _ (z.set (A.a i+6)<|.a<|c.a.map aP++[aP a.a.length]) _)
 generalize z.set (A.a i+6) _=h3
 intro t
 haveI r6:=B2.v i c p 6<|by decide
 haveI B3:=B2.M (c':={c with a:=c.a++[a.a.length]}) p (d:=6) (by decide) t (by
  refine⟨⟨TF,bs,iL,cc,fi,t.a _ _ ho<|by refine(?_:A.a i≠A.a i+6);exact(aj<|bP _<|aK _),ea,eb⟩,?_,?_,?_,?_⟩
  ·refine aG I.q λP e h=>bU P (t.a _ _ e<|by refine(?_:A.a i+1≠A.a i+6);exact(aj<|bA aR cJ [] U)) h
  ·refine aG I.s λP e h=>bU P (t.a _ _ e<|by refine(?_:A.a i+2≠A.a i+6);exact(aj<|bA cm cJ [] U)) h
  ·rw [cL];exact t.b
  ·refine aG I.j λP e h=>⟨P,t.a _ _ e (by refine(?_:A.a i+7≠A.a i+6);exact(a9 (bA cJ (.p 0 7) [] U))),h⟩)
 haveI hme:((a.l ⟨i,nm,fl,f⟩).h i {c with a:=c.a++[a.a.length]}).d a.a.length=J ⟨i,nm,fl,f⟩:=by
  refine(?_:(a.l ⟨i,nm,fl,f⟩).d a.a.length=_)
  rw [GA,if_pos rfl]
 refine aBJ (n:=n+1) (A:=A.h a.a.length H.length z.length) B3.W hme (c:={c with a:=c.a++[a.a.length]}) (by rw [vA p,if_pos rfl]) hn<|
   q h3 _ _ B3 rfl (G2.t t<|.inr<|.inr<|Fz r6)
end
noncomputable def az.k(m:az)(c:dh):az:={m with g:=m.g++[J c]}
theorem zP{a:az}{c:dh}{j:Nat}:(a.k c).b j=if j=a.g.length then J c else a.b j:=by
 delta az.b az.k;dsimp only;by_cases e:j=a.g.length;·rw [e];rw [if_pos rfl,kf<|aK _,lX];rfl
 rw [if_neg e];rcases fV j a.g.length with q|q;·rw [jL q]
 rw [ey<|by rw [b9];exact Ra q<|iX e,ey q]
noncomputable def eW.g(A:eW)(i p aN:Nat):eW:={A with a:=λj=>if j=i then p else A.a j,c:=aN}
noncomputable def Rl.c(R:Rl)(i p:Nat):Rl:=λl=>if p<=l/\l<=p+9 then J (.b i<|l-p)else R l
section
theorem Bd.P{ts:List V}(B:Bd H k n A K R)(T:TD H K p n.g.length c)(hp:k+6<=p/\p+9<H.length)(hR:∀l,p<=l->l<=p+9->R l=aA) (hm:H[A.e]?=J (.a ts)) (u:am H A.e (.a<|ts++[.j p]) z) (sz:n.g.length+1<1000):
  Bd z k (n.k c) (A.g n.g.length p z.length) K (R.c n.g.length p):=by
 have S:=B.W.b;refine uT S.p λt1 t2 t3 t4 t5 t6 t7=>pB S.o λh1 h2 h3 h4 h5=>?_;have kp:∀{l r},R l=J r->R.c n.g.length p l=J r:=λ{l r} h=>by unfold Rl.c;rw [if_neg λq=>by rw [hR l q.1 q.2]at h;cases h];exact h
 have ne:∀{l r},R l=J r->r≠.c->l≠A.e:=λh q e=>q<|by rw [e,B.t]at h;exact(ao h).symm
 have ma:∀j,j≠n.g.length->(A.g n.g.length p z.length).a j=A.a j:=λj h=>if_neg h;have mn:(A.g n.g.length p z.length).a n.g.length=p:=if_pos rfl;have me:∀j x,(n.k c).b j=J x->(j=n.g.length/\x=c)\/(j≠n.g.length/\n.b j=J x):=λj x e=>by
  rw [zP]at e;by_cases q:j=n.g.length;·rw [if_pos q]at e;exact .inl ⟨q,(ao e).symm⟩
  rw [if_neg q]at e;exact .inr ⟨q,e⟩
 have hl:=u.c;have a:(n.k c).g.length=n.g.length+1:=b9;haveI ptl:∀d,d<=9->p+d≠A.e:=λd hd e=>by have:=hR (p+d) (aV Y (.a Y Z) [] U)<|aV (.a Y Z) (.p 0 9) [.l Z<|.n 9] U hd;rw [e,B.t]at this;exact iC this
 haveI kt:KT z k K:=B.W.c.g u (B.f _ _ B.t).2;refine⟨⟨kt,⟨u.a _ _ S.b (ne B.D<|by intro h;exact Mine.et.noConfusion h),?_,?_,?_,?_,⟨by rw [a];exact sz,S.g.2⟩,?_,S.r,⟨h1,h2,h3,?_,h5⟩,?_,?_,?_,?_,?_,aK _,?_⟩⟩,kp B.D,kp B.t,kp B.w,kp B.C,?_,λj m e d hd=>kp<|B.E j m e d hd,?_⟩
 ·refine hJ S.q λts' e e1 e2=>?_;rw [hm]at e;clear hm;obtain rfl:=Mine.O.a.inj<|ao e;refine⟨_,u.b,by rw [a,b9,e1];rfl,λj x q=>?_⟩;clear a kp h5 h4 t5 t4 S sz T B;rcases me j x q with⟨rfl,rfl⟩|⟨q1,X⟩
  ·rw [mn,kf<|lu e1,e1,lX];rfl
  rw [ma j q1,jL (by haveI:=qp X;exact(eY this e1))];exact e2 j x X
 ·refine aG S.s λts e h=>bU ts (u.a _ _ e (ne B.C<|by intro h;exact Mine.et.noConfusion h)) h
 ·intro j x q;clear a kp h5 h4 t5 t4 sz;rcases me j x q with⟨rfl,rfl⟩|⟨q1,X⟩
  ·rw [mn];exact T.n (λd o hd h=>u.a _ _ h<|ptl d hd) ⟨[],(cI _).symm⟩
  rw [ma j q1];exact(S.d j x X).n (λd o hd h=>u.a _ _ h (ne (B.v j x X d hd)<|by intro h;exact Mine.et.noConfusion h)) ⟨[],(cI _).symm⟩
 ·intro j m e;exact(S.f j m e).c (λo h=>u.a _ _ h (ne (B.E j m e 0<|by decide)<|by intro h;exact Mine.et.noConfusion h)) ⟨[],(cI _).symm⟩
 ·refine aG S.u λes e h=>⟨es,u.a _ _ e (ne B.w<|by intro h;exact Mine.et.noConfusion h),by rw [a];exact(Kj (cM h a) a)⟩
 ·intro j x q;clear a kp h5 t5 t4 S sz T B;rcases me j x q with⟨rfl,rfl⟩|⟨q1,X⟩
  ·rw [mn];exact hp.1
  rw [ma j q1];exact h4 j x X
 ·refine(?_:A.e<z.length);exact(eY (bz t1 t6) hl)
 ·refine(?_:A.f<z.length);exact(eY (bz t2 t6) hl)
 ·refine(?_:A.d<z.length);exact(eY (bz t3 t6) hl)
 ·intro j x q;refine(?_:(A.g n.g.length p z.length).a j+9<z.length);clear a kp h5 h4 t5 S sz T B;rcases me j x q with⟨rfl,rfl⟩|⟨q1,X⟩
  ·rw [mn];exact(eY hp.2 hl)
  rw [ma j q1];haveI:=t4 j x X;exact(eY (bz this t6) hl)
 ·intro i c e;refine(?_:A.b i+2<z.length);haveI:=t5 i c e;exact(eY (bz this t6) hl)
 ·refine(?_:k+6<=z.length);exact(sJ (nV hp.1 hp.2) hl)
 ·intro j x q d hd;clear a h5 h4 t5 t4 S sz T;rcases me j x q with⟨rfl,rfl⟩|⟨q1,X⟩
  ·rw [mn];refine(?_:(if p<=p+d/\p+d<=p+9 then J (et.b n.g.length<|p+d-p)else R<|p+d)=_);rw [if_pos ⟨(aV Y (.a Y Z) [] U),(aV (.a Y Z) (.p 0 9) [.l Z<|.n 9] U hd)⟩,Rf]
  rw [ma j q1];exact kp<|B.v j x X d hd
 intro l r h;unfold Rl.c at h;split at h;·rename_i q;exact⟨(eY (cN q.2 hp.2) hl),(.inr<|aH hp.1 q.1)⟩
 exact hl▸B.f l r h
theorem aBK:(ik es a v).length<=es.length+1:=by
 unfold ik;split;·rw [ai];exact vo _
 rw [b9];exact aK _
theorem Bd.Q(B:Bd H k n A K R)(u:am H A.d (.e es) p)(z:es.length<=n.g.length):Bd p k n A K R:=by
 have S:=B.W.b;refine uT S.p λX t2 t3 t4 t5 t6 t7=>?_;have a:∀{l r},R l=J r->r≠.e->l≠A.d:=λh q e=>q<|by rw [e,B.w]at h;exact(ao h).symm
 refine⟨⟨B.W.c.g u (B.f _ _ B.w).2,⟨u.a _ _ S.b (a B.D<|by intro h;exact Mine.et.noConfusion h),?_,?_,λj x q=>(S.d j x q).n (λd o hd h=>u.a _ _ h (a (B.v j x q d hd)<|by intro h;exact Mine.et.noConfusion h)) ⟨[],(cI _).symm⟩,λj m e=>(S.f j m e).c (λo h=>u.a _ _ h (a (B.E j m e 0<|by decide)<|by intro h;exact Mine.et.noConfusion h)) ⟨[],(cI _).symm⟩,S.g,⟨es,u.b,z⟩,S.r,S.o,X,t2,t3,t4,t5,u.c▸t6,t7⟩⟩,B.D,B.t,B.w,B.C,B.v,B.E,λl r h=>u.c▸B.f l r h⟩;·refine aG S.q λc e h=>bU c (u.a _ _ e (a B.t<|by intro h;exact Mine.et.noConfusion h)) h
 refine aG S.s λc e h=>?_;exact bU c (u.a _ _ e (a B.C<|by intro h;exact Mine.et.noConfusion h)) h
theorem aBL(h:a=1\/a=3)(q:Q (.d (if a=3 then 1 else 0:Nat)) H):aa (n+1) 26 [.d (a:Nat),.d 0] H Q:=by refine gG (fn:=PT) [J _,J _] rfl rfl rfl ?_;rcases h with rfl|rfl<;>exact q
theorem aBM(h:a=1\/a=3)(q:Q (.d<|-1) H):aa (n+1) 25 [s,.d (a:Nat)] H Q:=by refine gG (fn:=PS) [J _,J _] rfl rfl rfl ?_;rcases h with rfl|rfl<;>exact q
end
section
noncomputable def ju(a c:Nat)(base:Option Ty):dh:=⟨a,if a=3 then 1 else 0,base,c,[],[],[]⟩
theorem GC(B:Bd H k d A K R)(hs:so=1\/so=3)(hb:(base=aA/\bv=.d (-1))\/∃t,base=J t/\At K bv t) (hn:(V.k nm).p=true) (hw:H[I]?=J (.a a)) (Dv:R I=aA) (hpk:I<k\/k+6<=I) (P:a.length<1000) (sz:d.g.length+1<1000)
  (q:∀H' A' R',Bd H' k (d.k<|ju so a.length base) A' K R'->A'.s=A.s->Go true k [] H R H' R'->Q (aP d.g.length) H'):
  aa (n+3) 27 [.j A.s,.d 0,.k nm,.d (so:Nat),.d 0,bv,.j I] H Q:=by
 refine ce (fn:=QO) rfl rfl ?_;intro rr;have W:=B.W;haveI ko:=bw W.c.d;refine hJ W.b.q λts em w JV=>?_;have v:dC (aa<|n+2) (PU.a 1) [J<|.j A.s,J<|.d 0,J<|.k nm,J<|.d (so:Nat),J<|.d 0,J bv,J<|.j I,aA,aA] H (gX Q):=by
  refine aL W.b.b<|gR em rfl (by have:=W.b.g.1;exact(ae<|Bh w sz)) ?_;rw [w];refine aL W.b.b<|dE (dj em)<|aBL (n:=n+1) hs<|bX λh0 z=>?_;haveI l0:=z.c;haveI EY:=bw em;haveI hpl:=bw hw;refine Mj (n:=n+1) z.b l0 (z.a _ _ hw) hpl P ?_;intro h1 X l1 o1 g1 g2 g6 g7;have Rp:∀l,H.length<=l->R l=none:=λl h=>by
   induction e:R l with
   |none=>rfl|some r=>exact absurd (B.f l r e).1<|ve<|by assumption
  haveI B1:Bd h1 k d A K R:=X.j (B.F z) ⟨Rp _<|aK _,(aV cJ Z [.t bu Z] U ko)⟩;have m:=X.d _ _ (z.a _ _ em)<|aj EY;refine dE rfl ?_;refine eB m (by have:=W.b.g.1;exact(ae<|Bh w sz)) ?_;have D:=am.d (o:=.a<|ts++[.j H.length]) m;revert D;generalize h1.set A.e _=p;intro D;haveI T:TD h1 K H.length d.g.length (ju so a.length base):=by
   refine⟨⟨_,bv,_,_,_,o1,rfl,?_⟩,⟨[],g1,bB.f⟩,⟨a,g2,rfl⟩,g6,⟨[],g7,.d⟩⟩;clear B1 o1 W q B;rcases hb with⟨rfl,rfl⟩|⟨t,rfl,h⟩
   ·rfl
   exact h
  have B2:=B1.P T ⟨(aV cJ Z [.t bu Z] U ko),(be (.p 0 9) Z [.g Z nR] U l1)⟩ (λl h _=>Rp l h) m D sz;have G2:Go true k [] H R p (R.c d.g.length H.length):=by refine⟨by rw [D.c];exact dN (by rw [l0];exact vo _) X.g,λl h=>if_neg λq=>(nU<|cN q.1 h),λl o h r c x=>D.a _ _ (X.d _ _ (z.a _ _ h) (by have:=bw h;exact(aj this))) λe=>?_⟩;exact aBD (e▸B.t) r
  refine aG W.b.u λes en UH=>?_;haveI hnl:=bw en;haveI w2:=G2.i _ _ hw (.inl Dv) hpk c_;haveI W2:=B2.W;haveI s2:=W2.b.b;haveI ntl:A.d≠A.e:=λe=>by haveI:=B.w;rw [e,B.t]at this;cases this
  have C:p[A.d]?=J (.e es):=D.a _ _ (X.d _ _ (z.a _ _ en)<|aj hnl) ntl;refine gR w2 rfl (ae P) ?_;refine aL s2 ?_;haveI hk:(V.m [.d 0,.k nm,.d (a.length:Nat)]).B=true:=by
   haveI h:=hn;refine(?_:((V.m [.d 0,.k nm,.d (a.length:Nat)]).u&&_&&_)=true);haveI hp:(V.k nm).u=true:=(bi.mp h).1;have:(V.m [.d 0,.k nm,.d (a.length:Nat)]).u=true:=by refine(?_:(true&&((V.k nm).u&&(true&&true&&true)&&true)&&true)=true);rw [hp];rfl
   rw [this];rfl
  haveI ci:eK bW p .a (V.m [.d 0,.k nm,.d (a.length:Nat)]) (.j A.d)=J (!(gK es<|V.m [.d 0,.k nm,.d (a.length:Nat)]).isSome):=by exact congrArg (oV (!·))<|(f0 (f:=mG<|V.m [.d 0,.k nm,.d (a.length:Nat)]) C).trans<|Nr hk
  refine bK ci ?_;haveI fC:=q p _ _ B2 rfl G2;cases hb:(gK es<|V.m [.d 0,.k nm,.d (a.length:Nat)]).isSome with
  |true=>exact fC|false=>
   refine aL s2 ?_;haveI st:qL (.e es) (V.m [.d 0,.k nm,.d (a.length:Nat)]) (aP d.g.length)=J (.e<|ik es (V.m [.d 0,.k nm,.d (a.length:Nat)])<|aP d.g.length):=by refine(?_:(if(V.m [.d 0,.k nm,.d (a.length:Nat)]).B&&aJ (es.length<1000000)then _ else _)=_);rw [hk,decide_eq_true (by haveI:=W.b.g.1;exact(ae<|VE UH sz))];rfl
   refine jS C st ?_;haveI u3:am p A.d (.e<|ik es (V.m [.d 0,.k nm,.d (a.length:Nat)])<|aP d.g.length) (p.set (A.g d.g.length H.length p.length).d<|.e<|ik es (V.m [.d 0,.k nm,.d (a.length:Nat)])<|aP d.g.length):=am.d C;revert u3;generalize p.set (A.g d.g.length H.length p.length).d _=h3;intro u3;haveI B3:=B2.Q u3 (by have:(d.k<|ju so a.length base).g.length=d.g.length+1:=b9;rw [this];exact dN aBK<|iW UH);exact q h3 _ _ B3 rfl (G2.t u3<|.inr<|.inr<|aBE B2.w)
 clear W q B;rcases hb with⟨wE,rfl⟩|⟨t,wE,h⟩
 ·refine aBM (n:=n+1) hs<|v
 refine oE h.i λi bT=>?_;clear h;subst bT;exact v
end
structure Lw(H:Hp)(k:Nat)(σ:az)(A:eW)(K:List Ty)(R:Rl)(la ta nu:Nat)(ls:List cC)(i:Nat)(ns:List Nat):Prop where
 B:Bd H k σ A K R
 L:LL H la ls
 f:R la=J .g
 w:R ta=J .a
 d:∀n l,ls[n]?=J l->R l.e=J (.l n)/\R l.f=J (.m n)
 D:H[ta]?=J (.a [aP i])
 G:H[nu]?=J (.a<|ns.map aP)
 C:R nu=aA/\(nu<k\/k+6<=nu)
 F:0<ns.length/\ns.length<1000
section
theorem Bd.L(B:Bd H k X A K R)(u:am H l o H')(h:R l=J r)(e:r.h):Bd H' k X A K R:=by
 have S:=B.W.b;refine uT S.p λt1 t2 t3 t4 t5 t6 t7=>?_;haveI nx:∀{q:et},q.h->q≠.k/\q≠.c/\q≠.e/\q≠.f/\(∀i d,q≠.b i d)/\∀j d,q≠.o j d:=by rintro q (rfl|rfl|⟨n,rfl⟩|⟨n,rfl⟩)<;>exact⟨nofun,nofun,nofun,nofun,λ_ _=>nofun,λ_ _=>nofun⟩
 obtain⟨n1,n2,n3,n4,n5,n6⟩:=nx e;have p:∀{m s},R m=J s->r≠s->m≠l:=λa b c=>b<|by rw [c,h]at a;exact ao a
 refine⟨⟨B.W.c.g u (B.f _ _ h).2,⟨u.a _ _ S.b<|p B.D n1,?_,?_,λj x q=>(S.d j x q).n (λd o hd h=>u.a _ _ h<|p (B.v j x q d hd)<|n5 _ _) ⟨[],(cI _).symm⟩,λj m e=>(S.f j m e).c (λo h=>u.a _ _ h<|p (B.E j m e 0<|by decide)<|n6 _ _) ⟨[],(cI _).symm⟩,S.g,?_,S.r,S.o,t1,t2,t3,t4,t5,u.c▸t6,t7⟩⟩,B.D,B.t,B.w,B.C,B.v,B.E,λl r h=>u.c▸B.f l r h⟩;·refine aG S.q λz e h=>bU z (u.a _ _ e<|p B.t n2) h
 ·refine aG S.s λz e h=>bU z (u.a _ _ e<|p B.C n4) h
 refine aG S.u λes e h=>?_;exact bU es (u.a _ _ e<|p B.w n3) h
theorem GD(h:0<b)(c:b<1000000000):mF .e (.d (a:Nat)) (.d (b:Nat))=J (aP<|a%b):=by refine(?_:(if(0:Int)<(b:Nat)/\((b:Nat):Int)<1000000000 then J (V.d<|IF a b)else aA)=_);rw [if_pos ⟨(fT.mpr<|bA bQ Y [.t bQ Y] U h),(fT.mpr<|bA Y wh [.t Y wh] U c)⟩,aHm _<|j1 _];rfl
theorem GF(h:0<b)(c:b<1000000000):mF .f (.d (a:Nat)) (.d (b:Nat))=J (aP<|a/b):=by refine(?_:(if(0:Int)<(b:Nat)/\((b:Nat):Int)<1000000000 then J (V.d<|Int.fdiv a b)else aA)=_);rw [if_pos ⟨(fT.mpr<|bA bQ Y [.t bQ Y] U h),(fT.mpr<|bA Y wh [.t Y wh] U c)⟩,Int.fdiv_eq_ediv_of_nonneg _<|j1 _];rfl
theorem Ml(c:a<1000000000):mF .g (.d (a:Nat)) (.d (b:Nat))=J (aP<|a*b):=by refine(?_:(if(0:Int)<=(a:Nat)/\((a:Nat):Int)<1000000000 then J (V.d<|(a:Int)*b)else aA)=_);rw [if_pos ⟨(j1 _),(fT.mpr<|bA Y wh [.t Y wh] U c)⟩];rfl
theorem CM(W:Lw H k D A K R I p x P i d)(hi:i<100000)(hm:0<m/\m<1000)(q:∀z r,r<m->Lw z k D A K R I p x P (i+1) d->Go false k [] H R z R->Q (aP r) z):aa (n+1) 69 [.j x,.j p,.d (m:Nat)] H Q:=by
 refine ce (fn:=QD) rfl rfl ?_;intro rr;refine du (j:=0) W.D rfl (by decide) ?_;refine jS W.D (Bv (i:=0) (by decide) (show 0<1 by decide)) ?_;have u:am H p (.a [aP<|i+1]) (H.set p<|.a<|[aP i].set 0<|.d<|(i:Int)+1):=am.d W.D;revert u;generalize H.set p _=B;intro u;have t:∀{l:Nat}{r:Option et},R l=r->r≠J .a->l≠p:=λa b c=>b<|by rw [<-a,c,W.w]
 have e:=u.a _ _ W.G<|t W.C.1 nofun;haveI W1:Lw B k D A K R I p x P (i+1) d:=by
  refine⟨W.B.L u W.w<|.inr<|.inl rfl,⟨u.a _ _ W.L.b<|t W.f nofun,λl m=>?_,λl m=>?_⟩,W.f,W.w,W.d,u.b,e,W.C,W.F⟩;·refine oE (mM m) λn C=>?_;exact u.a _ _ (W.L.c l m)<|t (W.d n l C).1 nofun
  refine oE (mM m) λn C=>?_;exact u.a _ _ (W.L.d l m)<|t (W.d n l C).2 nofun
 haveI G1:Go false k [] H R B R:=Go.f.t u<|.inr<|.inr<|F_ W.w;haveI v:=W.F.1;haveI w:=W.F.2;refine gR e rfl (by rw [ai];exact(ae w)) ?_;rw [ai];refine bK (GD v<|ae w) ?_;haveI X:i%d.length<d.length:=aHn _ v;refine du e (by rw [jJ,f7 X];rfl) (ae<|ae X w)<|bK (GF v<|ae w)<|du (j:=0) e (by rw [jJ,f7 v];rfl) (by decide) ?_;refine bK (GD (b:=7) (by decide)<|by decide) ?_;refine bK (Ml (a:=3)<|by decide) ?_;haveI dl:i/d.length<1000000000:=lV (Rh _ _)<|ae hi;refine bK (Ml (b:=d[0]%7+3*i) dl)<|bK (GD (a:=d[i%d.length]+i/d.length*(d[0]%7+3*i)) hm.1<|ae hm.2)<|q B _ (aHn _ hm.1) W1 G1
end
section
variable{ls:List cC}
theorem Lw.P(W:Lw H k l A n R a c e ls i m):a<H.length/\c<H.length/\e<H.length:=⟨bw W.L.b,bw W.D,bw W.G⟩
theorem Mm(e:r=J s)(h:s.h):Kp true r:=.inr ⟨rfl,s,e,h⟩
theorem Lw.M(W:Lw H k σ A K R x z nu ls i ns)(B:Bd c k p A' K' t)(a:Go true k [] H R c t):Lw c k p A' K' t x z nu ls i ns:=by
 refine fk W.P λl1 l2 l3=>?_;have g:∀{l o s},H[l]?=J o->R l=J s->s.h->c[l]?=J o:=λh r e=>a.i _ _ h (Mm r e) (W.B.f _ _ r).2 c_;refine⟨B,⟨g W.L.b W.f<|.inl rfl,λl m=>?_,λl m=>?_⟩,(a.g _ l1).trans W.f,(a.g _ l2).trans W.w,λn l h=>?_,g W.D W.w<|.inr<|.inl rfl,a.i _ _ W.G (.inl W.C.1) W.C.2 c_,⟨(a.g _ l3).trans W.C.1,W.C.2⟩,W.F⟩;·refine oE (mM m) λn q=>?_;exact g (W.L.c l m) (W.d n l q).1<|.inr<|.inr<|.inl ⟨n,rfl⟩
 ·refine oE (mM m) λn q=>?_;exact g (W.L.d l m) (W.d n l q).2<|.inr<|.inr<|.inr ⟨n,rfl⟩
 have v:=dU h;exact⟨(a.g _<|bw<|W.L.c l v).trans (W.d n l h).1,(a.g _<|bw<|W.L.d l v).trans (W.d n l h).2⟩
theorem Lw.E(W:Lw H k c A t R e l n ls i p)(a:Nx k H t q K'):Lw q k c A K' R e l n ls i p:=W.M (W.B.I a λ_ m=>by exact bR m)<|Go.s a
theorem Lw.I(W:Lw H k a A p R c e l ls i m)(u:nz H o n):Lw n k a A p R c e l ls i m:=W.M (W.B.F u)<|Go.f.n u
theorem Lw.S(W:Lw H k t A K R v z q ls i ns)(u:am H l o H')(c:l<k\/k+6<=l)(r:R l=aA)(e:l≠q):Lw H' k t A K R v z q ls i ns:=by
 have p:∀{m s},R m=J s->m≠l:=λa b=>by rw [b,r]at a;exact aX a
 refine⟨W.B.N u c r,⟨u.a _ _ W.L.b<|p W.f,λx m=>?_,λx m=>?_⟩,W.f,W.w,W.d,u.a _ _ W.D<|p W.w,u.a _ _ W.G<|iX e,W.C,W.F⟩;·refine oE (mM m) λn e=>?_;exact u.a _ _ (W.L.c x m)<|p (W.d n x e).1
 refine oE (mM m) λn e=>?_;exact u.a _ _ (W.L.d x m)<|p (W.d n x e).2
theorem Mn(h:ls[m]?=J l)(e:fG l'=fG l):(ls.set m l').map fG=ls.map fG:=by
 rw [Hz,e];refine ID λj=>?_;by_cases q:m=j
 ·subst q;have a:m<ls.length:=by
   refine aU (fV m ls.length) ?_ ?_;·intro z;exact z
   intro z;rw [ey z]at h;exact aX h
  rw [vg<|by rw [ai];exact a,jJ,h];rfl
 rw [qY q]
theorem xQ(h:ls[m]?=J l)(e:(ls.set m a)[j]?=J x):(j=m/\x=a)\/(j≠m/\ls[j]?=J x):=by
 by_cases q:m=j
 ·subst q;have c:m<ls.length:=by
   refine aU (fV m ls.length) ?_ ?_;·intro z;exact z
   intro z;rw [ey z]at h;exact aX h
  rw [vg c]at e;exact .inl ⟨rfl,(ao e).symm⟩
 rw [qY q]at e;exact .inr ⟨λz=>q z.symm,e⟩
theorem Lw.T(W:Lw H k σ A K R la ta nu ls i ns)(h:ls[m]?=J l)(u:am H l.e (.a<|(l.c++[x]).map qI) H'):Lw H' k σ A K R la ta nu (ls.set m {l with c:=l.c++[x]}) i ns:=by
 have p:=(W.d m l h).1;have t:∀{j s},R j=J s->s≠.l m->j≠l.e:=λa b c=>b<|by rw [c,p]at a;exact(ao a).symm
 have nn:nu≠l.e:=λe=>by have:=W.C.1;rw [e,p]at this;exact iC this
 refine⟨W.B.L u p<|.inr<|.inr<|.inl ⟨m,rfl⟩,⟨?_,λy v=>?_,λy v=>?_⟩,W.f,W.w,λj y e=>?_,u.a _ _ W.D<|t W.w nofun,u.a _ _ W.G nn,W.C,W.F⟩;·rw [Mn (l':={l with c:=l.c++[x]}) h rfl];exact u.a _ _ W.L.b<|t W.f nofun
 ·refine oE (mM v) λj n=>?_;clear v nn p;rcases xQ h n with⟨rfl,rfl⟩|⟨q,n⟩
  ·exact u.b
  exact u.a _ _ (W.L.c y<|dU n)<|t (W.d j y n).1 λz=>q<|et.l.inj z
 ·refine oE (mM v) λj n=>?_;clear v nn p;rcases xQ h n with⟨rfl,rfl⟩|⟨q,n⟩
  ·exact u.a _ _ (W.L.d l<|dU h)<|t (W.d _ l h).2 nofun
  exact u.a _ _ (W.L.d y<|dU n)<|t (W.d j y n).2 nofun
 clear nn t p u;rcases xQ h e with⟨rfl,rfl⟩|⟨q,e⟩
 ·exact W.d _ l h
 exact W.d j y e
theorem Lw.V(W:Lw H k σ A K R la ta nu ls i ns)(h:ls[m]?=J l)(u:am H l.f (.a<|(l.d++[x]).map iR) H'):Lw H' k σ A K R la ta nu (ls.set m {l with d:=l.d++[x]}) i ns:=by
 have p:=(W.d m l h).2;have t:∀{j s},R j=J s->s≠.m m->j≠l.f:=λa b c=>b<|by rw [c,p]at a;exact(ao a).symm
 have nn:nu≠l.f:=λe=>by have:=W.C.1;rw [e,p]at this;exact iC this
 refine⟨W.B.L u p<|.inr<|.inr<|.inr ⟨m,rfl⟩,⟨?_,λy v=>?_,λy v=>?_⟩,W.f,W.w,λj y e=>?_,u.a _ _ W.D<|t W.w nofun,u.a _ _ W.G nn,W.C,W.F⟩;·rw [Mn (l':={l with d:=l.d++[x]}) h rfl];exact u.a _ _ W.L.b<|t W.f nofun
 ·refine oE (mM v) λj n=>?_;clear v nn p;rcases xQ h n with⟨rfl,rfl⟩|⟨q,n⟩
  ·exact u.a _ _ (W.L.c l<|dU h)<|t (W.d _ l h).1 nofun
  exact u.a _ _ (W.L.c y<|dU n)<|t (W.d j y n).1 nofun
 ·refine oE (mM v) λj n=>?_;clear v nn p;rcases xQ h n with⟨rfl,rfl⟩|⟨q,n⟩
  ·exact u.b
  exact u.a _ _ (W.L.d y<|dU n)<|t (W.d j y n).2 λz=>q<|et.m.inj z
 clear nn t p u;rcases xQ h e with⟨rfl,rfl⟩|⟨q,e⟩
 ·exact W.d _ l h
 exact W.d j y e
end
noncomputable def sM(a:az)(i:Nat)(c:dh)(nm:List Nat)(fr:Bool)(u:Ty):az:=(a.l ⟨i,nm,if fr then 6 else 2,u⟩).h i {c with a:=c.a++[a.a.length]}
noncomputable def lM(l:cC)(x:jh):cC:={l with c:=l.c++[x]}
noncomputable def lE(l:cC)(x:Ev):cC:={l with d:=l.d++[x]}
section
theorem GG(W:Lw H k a A K R la ta nu D i ns)(h:D[m]?=J l)(hc:a.b (66+m)=J c)(hn:nm=[109]\/nm=[106]\/nm=[101])(hu:Wt u)(sz:a.a.length+1<1000)(hl:c.a.length<1000)(w:l.c.length<1000)
  (q:∀x I K' P,Lw x k (sM a (66+m) c nm fr u) I K' P la ta nu (D.set m<|lM l (a.a.length,nm,u,fr)) i ns->I.s=A.s->(∃r,K'=K++r)->Go false k [] H R x P->Q (aP a.a.length) x):
  aa (n+9) 74 [.j A.s,.d (m:Nat),.j l.e,.k nm,.k<|bH u,.n fr] H Q:=by
 refine gG (fn:=QT) [J _,J _,J _,J _,J _,J _,aA,aA] rfl rfl rfl ?_;haveI e:∀fl:Nat,fl=(if fr then 6 else 2)->dC (aa<|n+8) (QI.a 1) [J<|.j A.s,J<|.d (m:Nat),J<|.j l.e,J<|.k nm,J<|.k<|bH u,J<|.n fr,J<|.d (fl:Nat),aA] H (gX Q):=by
  intro fl p;refine aL W.B.W.b.b<|lK (n:=n) W.B.W.c hu ?_;intro H1 K1 v z a1;haveI X:=W.E z;haveI ff:fl=2\/fl=6\/fl=14:=by rw [p];induction fr<;>decide
  refine GB (n:=n+5) (i:=66+m) X.B hc a1 hn ff sz hl ?_;intro B A2 R2 B2 eA G2;have C:=X.M B2 G2;haveI d:=C.L.c l<|dU h;refine dE (dj d)<|eB d (by rw [ai];exact(ae w)) ?_;haveI t:am B l.e (.a<|(l.c++[(a.a.length,nm,u,fr)]).map qI) (B.set l.e<|.a<|l.c.map qI++[V.m [aP a.a.length,.k nm,.k<|bH u,.n fr]]):=by rw [cL];exact am.d d
  revert t;generalize B.set l.e (.a<|l.c.map qI++[V.m [aP a.a.length,.k nm,.k<|bH u,.n fr]])=h3;intro t;haveI W3:=C.T h t;rw [p]at W3;exact q h3 A2 K1 R2 W3 eA z.t<|(((Go.s z).d G2.v).t t<|.inr<|.inr<|F_ (C.d m l h).1)
 clear q;induction fr with
 |true=>exact e 6 rfl|false=>exact e 2 rfl
end
set_option backward.match.sparseCases false
noncomputable def dQ(f:Ty):List Nat:=if a_ f=1 then [109]else [106]
noncomputable def kY(nm:List Nat)(u:Ty)(o:jh):Bool:=aJ (o.2.1=nm)&&aJ (o.2.2.1=u)
noncomputable def gw(d:az)(m:Nat)(c:dh)(l:cC)(f a:Ty)(w fr:Bool):az×cC:=
 if w then((sM d (66+m) c [101] true a).h (66+m) {{c with a:=c.a++[d.a.length]}with b:=c.b++[(d.a.length,f,a_ f)]},lE (lM l (d.a.length,[101],a,true)) (f,a_ f,d.a.length))
 else match l.c.find? (kY (dQ f) a)with|some o=>(d,lE l (f,a_ f,o.1))|none=>(sM d (66+m) c (dQ f) fr a,lE (lM l (d.a.length,dQ f,a,fr)) (f,a_ f,d.a.length))
section
theorem Mo(h:p.length<100):oJ bW H (.k<|x::p) (.d 0)=J (.k [x]):=by
 refine(?_:(if(x::p).length<1000000 then(oI (x::p).length 0).bind λj=>((x::p)[j]?).map λc=>V.k [c]else aA)=_);haveI l:(x::p).length=p.length+1:=rfl;haveI e:oI (x::p).length 0=J 0:=by unfold oI;rw [if_pos<|by decide,if_pos<|by rw [l];exact(fT.mpr<|bA bQ aR [] U)];rfl
 rw [if_pos<|be Y eX [.t Z lj,.e Y aY] U h l,e];rfl
theorem Lw.O(W:Lw H k p A K R t z nu c i ns)(h:c[m]?=J l)(hl:l.d.length<1000)(hv:v=iR x)(q:∀a,Lw a k p A K R t z nu (c.set m<|lE l x) i ns->Go false k [] H R a R->Kk .o a):CB (.j l.f) v H Kk:=by
 haveI e:=W.L.d l<|dU h;refine eB e (by rw [ai];exact(ae hl)) ?_;haveI n:am H l.f (.a<|(l.d++[x]).map iR) (H.set l.f<|.a<|l.d.map iR++[v]):=by rw [cL,hv];exact am.d e
 exact q _ (W.V h n)<|Go.f.t n<|.inr<|.inr<|F_ (W.d m l h).2
theorem aBN(W:Lw H k d A K R la ta nu D i ns)(h:D[m]?=J l)(hc:d.b (66+m)=J c)(hf:dY f)(B:f=.m c0 a)(sz:d.a.length+1<1000)(hl:c.a.length<1000)(qc:l.c.length<1000)(wK:l.d.length<1000)(JN:c.b.length<1000)
    (I:∀o∈l.c,0<o.1/\(V.k o.2.1).p=true/\Wt o.2.2.1) (JJ:∀e∈c.b,e.1<d.a.length) (hm0:0<d.a.length)
    (q:∀H' A' K' R',Lw H' k (gw d m c l f a (aJ<|X=0) fr).1 A' K' R' la ta nu (D.set m (gw d m c l f a (aJ<|X=0) fr).2) i ns->A'.s=A.s->(∃r,K'=K++r)->Go false k [] H R H' R'->Q .o H'):
    aa (n+10) 75 [.j A.s,.d (m:Nat),fG l,.k<|bH f,.d (X:Nat),.n fr] H Q:=by
  refine ce (fn:=QU) rfl rfl ?_;intro rr
  haveI wf:Wt f:=.inr hf
  have wa:Wt a:=by
    obtain⟨b,hb,e|e⟩:=hf<;>(rw [B]at e;cases e;exact .inl hb)
  have sl:(bH f).length<1000000:=by haveI:=jf wf;exact(ae this)
  have tl:(bH f).tail=bH a:=by rw [B];rfl
  haveI sa:=jf wa
  haveI pl:=(ux wa).2.2.2.2
  haveI UI:(bH a).length<100:=by unfold bH;rw [b9];refine(?_:(dK a).length+1<_);omega
  haveI BB:dC (aa<|n+9) (HO.a 1) [J<|.j A.s,J<|.d (m:Nat),J<|fG l,J<|.k<|bH f,J<|.d (X:Nat),J<|.n fr,J<|.d (a_ f:Nat),aA,aA,aA,aA] H (gX Q):=by
    refine bS rfl ?_
    by_cases hw:X=0
    · refine jC (show((X:Nat):Int)=0 from(congrArg ip<|bj (cA Y bQ [.e Y bQ] U hw)<|cA bQ Y [] U)) ?_
      rw [decide_eq_true hw]at q
      refine uX _ rfl (uy f) sl ?_
      rw [tl]
      refine GG (n:=n) W h hc (.inr<|.inr rfl) wa sz hl qc ?_
      intro H1 A1 K1 R1 W1 eA pr G1
      haveI s1:=W1.B.W.b.b
      haveI hc1:(sM d (66+m) c [101] true a).b (66+m)=J {c with a:=c.a++[d.a.length]}:=by
        refine(?_:((d.l _).h (66+m) _).b (66+m)=_)
        rw [vA (c:=c) (show(d.l _).b (66+m)=J c from hc),if_pos rfl]
      rw [eA]at s1
      refine aL s1<|
          lK (n:=n+1) W1.B.W.c wf ?_
      intro H2 K2 fv N2 af
      have W2:=W1.E N2
      rw [<-eA]
      refine aBH (n:=n+7) (A:=A1) (i:=66+m) (f:=f) W2.B hc1 af (λe me=>j0<|JJ e me) JN ?_
      intro H3 B3 G3
      haveI W3:=W2.M B3 G3
      have v:(D.set m<|lM l (d.a.length,[101],a,true))[m]?=J (lM l (d.a.length,[101],a,true)):=by
        haveI lt:m<D.length:=by
          refine aU (fV m D.length) ?_ ?_
          · intro z;exact z
          · intro z;rw [ey z]at h;exact aX h
        exact vg lt
      refine bS rfl ?_
      refine dE (dj<|W3.L.d (lM l (d.a.length,[101],a,true))<|dU v)<|
          W3.O (l:=lM l (d.a.length,[101],a,true)) (x:=(f,a_ f,d.a.length)) v wK rfl ?_
      intro H4 W4 G4
      rw [IG]at W4
      clear W1 W;obtain⟨r1,rfl⟩:=pr
      clear W3 B3 W2 af;obtain⟨r2,rfl⟩:=N2.t
      exact q H4 A1 _ R1 W4 eA ⟨r1++r2,d6 _ _ _⟩<|((G1.d<|Go.s N2).d G3.v).d G4
    · refine dt (sV hw) ?_
      rw [decide_eq_false hw]at q
      haveI UJ:dQ f=[109]\/dQ f=[106]:=by unfold dQ;split<;>simp
      haveI mnp:(V.k<|dQ f).p=true:=by rcases UJ with e|e<;>rw [e]<;>rfl
      have bo:dC (aa (n+9)) (.cons (.d 8 (.h (.d 0)))
     (.cons (.l (.a 10) (.e (.I (.g 7)))
       ((.cons (.f (.H (.w .c (.p (.g 10) (.h (.d 1))) (.g 9)) (.w .c (.p (.g 10) (.h (.d 2))) (.L (.g 3))))
          ((.cons (.d 8<|.p (.g 10)<|.h<|.d 0) .nil))
          (.nil)) .nil)))
     (.cons (.f (.w .c (.g 8) (.h (.d 0)))
       ((.cons (.d 8<|.j 74<|.cons (.g 0)<|.cons (.g 1)<|.cons (.g 7)<|.cons (.g 9)<|.cons (.L<|.g 3)<|.cons (.g 5) .nil) .nil))
       (.nil)) .nil))) [J (.j A.s),J (.d (m:Nat)),J (fG l),J (.k (bH f)),J (.d (X:Nat)),J (.n fr),J (.d (a_ f:Nat)),J (.j l.e),aA,J (.k (dQ f)),aA] H λfl G h=>match fl with
          |.a=>dC (aa<|n+9) (HO.a 3) G h<|gX Q
          |fl=>gX Q fl G h:=by
        haveI lm:=dU h
        haveI pm:=W.L.c l lm
        refine zI pm (by rw [ai];exact(ae qc))<|
            bX λh1 u1=>?_
        haveI W1:=W.I u1
        refine fq u1.b<|
            fp (λeC G h'=>h'=h1/\X3 λ(S P:List jh)(mU:Option V)=>A3 (eC=S.map qI) (l.c.reverse=P++S)<|G=[J<|.j A.s,J<|.d (m:Nat),J<|fG l,J<|.k<|bH f,J<|.d (X:Nat),J<|.n fr,J<|.d (a_ f:Nat),J<|.j l.e,J<|aP<|((P.reverse.find?<|kY (dQ f) a).map (·.1)).getD 0,J<|.k<|dQ f,mU]) ?_ ?_ ?_ ?_
        · exact⟨rfl,l.c.reverse,[],aA,by rw [RU],rfl,rfl⟩
        · rintro eC G h' ⟨rfl,_⟩;exact .inl u1.b
        · rintro G h' ⟨rfl,S,P,mU,eS,eP,rfl⟩
          obtain rfl:S=[]:=by induction S using bk with|nil=>rfl|cons _ _=>exact iN eS
          rw [cI]at eP
          rw [<-eP,IA]
          induction p:l.c.find? (kY (dQ f) a)with
          |some o=>
            haveI op:=(I o<|oX p).1
            refine dt (show ¬((o.1:Nat):Int)=0 from(mt hZ.mp<|a9<|bA bQ Y [.t bQ Y] U op))<|
                bS rfl ?_
            refine dE (dj<|W1.L.d l lm)<|
                W1.O (x:=(f,a_ f,o.1)) h wK rfl ?_
            intro H4 W4 G4
            haveI es:gw d m c l f a false fr=(d,lE l (f,a_ f,o.1)):=by
              unfold gw;rw [p];rfl
            rw [es]at q
            exact q H4 A K R W4 rfl ⟨[],(cI _).symm⟩ ((Go.f.n u1).d G4)
          |none=>
            haveI es:gw d m c l f a false fr=(sM d (66+m) c (dQ f) fr a,lE (lM l (d.a.length,dQ f,a,fr)) (f,a_ f,d.a.length)):=by
              unfold gw;rw [p];rfl
            rw [es]at q
            refine uX _ rfl (uy f) sl ?_
            rw [tl]
            refine GG (n:=n) W1 h hc (UJ.elim .inl λz=>.inr<|.inl z) wa sz hl qc ?_
            intro H2 A2 K2 R2 W2 eA pr G2
            haveI v:(D.set m<|lM l (d.a.length,dQ f,a,fr))[m]?=J (lM l (d.a.length,dQ f,a,fr)):=by
              haveI lt:m<D.length:=by
                refine aU (fV m D.length) ?_ ?_
                · intro z;exact z
                · intro z;rw [ey z]at h;exact aX h
              exact vg lt
            refine bS rfl ?_
            refine dE (dj<|W2.L.d (lM l (d.a.length,dQ f,a,fr))<|dU v)<|
                W2.O (l:=lM l (d.a.length,dQ f,a,fr)) (x:=(f,a_ f,d.a.length)) v wK rfl ?_
            intro H4 W4 G4
            rw [IG]at W4
            exact q H4 A2 K2 R2 W4 eA pr<|((Go.f.n u1).d G2).d G4
        · rintro w bo G h' ⟨rfl,S,P,mU,eS,eP,fB⟩ K2 lZ yR
          apply cQ fB;intro rr
          induction S using bk with
          |nil=>exact hI eS
          |cons o S=>
            haveI cG:=(dP eS).1;haveI bT:=(dP eS).2;clear eS;subst cG;subst bT
            obtain⟨x,on,t,of⟩:=o
            haveI mo:((x,on,t,of):jh)∈l.c:=xx.mp<|eP▸dT _ (.head _)
            refine fk (I _ mo) λw0 w2 w1=>?_
            haveI w1:Wt t:=w1
            haveI w2:(V.k on).p=true:=w2
            haveI lg:qI (x,on,t,of)=V.m [aP x,.k on,.k<|bH t,.n of]:=rfl
            rw [lg]
            have next:∀sl b,kY (dQ f) a (x,on,t,of)=b->sl=(if b then x else((P.reverse.find?<|kY (dQ f) a).map (·.1)).getD 0)->K2 .a [J<|.j A.s,J<|.d (m:Nat),J<|fG l,J<|.k<|bH f,J<|.d (X:Nat),J<|.n fr,J<|.d (a_ f:Nat),J<|.j l.e,J<|aP sl,J<|.k<|dQ f,J<|V.m [aP x,.k on,.k<|bH t,.n of]] h':=by
              intro sl b hb e
              have:((((P++[(x,on,t,of)]).reverse.find?<|kY (dQ f) a).map (·.1)).getD 0)=sl:=by
                rw [RW]
                refine(?_:((((((x,on,t,of):jh)::P.reverse).find?<|kY (dQ f) a).map (·.1)).getD 0)=sl)
                rw [M8,hb,e]
                induction b<;>rfl
              rw [<-this]
              exact(lZ _ _ ⟨rfl,S,P++[(x,on,t,of)],_,rfl,by rw [eP,d6];rfl,rfl⟩).1
            refine bS rfl ?_
            refine bK (gI w2 mnp) ?_
            by_cases C:on=dQ f
            · refine iO (decide_eq_true C)<|
                  bS rfl ?_
              refine uX _ rfl (uy f) sl ?_
              rw [tl]
              refine bK (gI xP xP) ?_
              haveI hi:=Fu w1 wa
              by_cases hs:t=a
              · refine iO (decide_eq_true<|hi.mpr hs)<|
                    bS rfl ?_
                refine next x true ?_ rfl
                refine(?_:(aJ (on=dQ f)&&aJ (t=a))=true)
                rw [decide_eq_true C,decide_eq_true hs];rfl
              · refine hM (decide_eq_false λz=>hs<|hi.mp z)<|
                    next _ false ?_ rfl
                refine(?_:(aJ (on=dQ f)&&aJ (t=a))=false)
                rw [decide_eq_false hs,IB]
            · refine hM (decide_eq_false C)<|
                  next _ false ?_ rfl
              refine(?_:(aJ (on=dQ f)&&_)=false)
              rw [decide_eq_false C,DU]
      by_cases hd:a_ f=1
      · refine jC (show((a_ f:Nat):Int)=1 from(congrArg ip<|bj (cA Y au [.e Y au] U hd)<|cA au Y [.g Y au] U hd)) ?_
        have e:dQ f=[109]:=if_pos hd
        rw [e]at bo
        exact bo
      · refine dt (sV<|by omega) ?_
        have e:dQ f=[106]:=if_neg hd
        rw [e]at bo
        exact bo
  obtain⟨b,hb,e|e⟩:=hf
  · clear hb tl sl wf q;subst e
    cases B
    refine bS (Mo (x:=73) (p:=bH a) UI)<|
        bK (gI rfl rfl)<|
        BB
  · clear hb tl sl wf q;subst e
    cases B
    refine bS (Mo (x:=74) (p:=bH a) UI)<|
        bK (gI rfl rfl)<|
        BB
end
set_option backward.match.sparseCases true
noncomputable def K0:List Ty:=(cF 16).map Ty.l
theorem Mp:mA K0 where
 f:=⟨[],by decide⟩
 g:=by decide
 c:=λs c u d=>by refine aG (bc.mp c) λi _ a=>?_;clear c;subst a;exact bR d
 d:=λs c=>by refine aG (bc.mp c) λi e a=>?_;clear c;subst a;exact decide_eq_true<|oU.mp e
section
noncomputable def jF(i:Nat):V:=V.m [.d 1,.d (i:Nat)]
def aBO(k:Nat)(H c:Hp)(i:Nat)(G:aS)(h:Hp):Prop:=∀a:Prop,(∀(d e:Option V)(l:i<=16)(m:In k H h)(n:h.length=k+6)(p:h[k]?=c[k]?)(q:h[k+1]?=J (.a<|(cF i).map jF))(t:h[k+2]?=J (.e<|(cF i).map λj=>(jF j,aP j))) (v:h[k+3]?=J (.a<|(cF i).map λ_=>.d 1)) (w:h[k+4]?=J (.a<|(cF i).map λ_=>.d 1)) (x:h[k+5]?=J (.a<|(cF i).map λ_=>.d 0)) (z:G=[J<|.j k,d,e]),a)->a
theorem aBP(e:H[k]?=J (.b 98 []))(a:H.length=k+1)(q:∀H',In k H H'->H'.length=k+6->KT H' k K0->Q .o H'):aa (n+1) 0 [.j k] H Q:=by
 refine ce (fn:=Ou) rfl rfl ?_;intro rr;refine bX λh1 u1=>?_;rw [a];have l1:=u1.c;refine dO (u1.a _ _ e) rfl λh2 u2=>?_;have c:=u2.c;refine bX λh3 u3=>?_;rw [show h2.length=k+2 from(bj (de Y kQ [.e aB aY,.e aI bN,.e Y aI] U a l1 c)<|de cm Z [.g aB aR,.g aI bN,.g Z aI] U a l1 c)];have d:=u3.c;refine dO (u3.a _ _ u2.b) rfl λh4 u4=>?_;have l:=u4.c;refine bX λh5 u5=>?_;rw [show h4.length=k+3 from(bj (mY Y (.p 1 3) [.e aB aY,.e aI bN,.e bF aI,.e bO dq,.e Y bO] U a l1 c d l)<|mY fL Z [.g aB aR,.g aI bN,.g bF aI,.g bO dq,.g Z bO] U a l1 c d l)];have p:=u5.c;refine dO (u5.a _ _ u4.b) rfl λh6 u6=>?_;have v:=u6.c;refine bX λh7 R=>?_;rw [show h6.length=k+4 from(bj (sI Y (.p 1 4) [.e aB aY,.e aI bN,.e bF aI,.e bO dq,.e cR bO,.e cU ky,.e Y cU] U a l1 c d l p v)<|sI fZ Z [.g aB aR,.g aI bN,.g bF aI,.g bO dq,.g cR bO,.g cU ky,.g Z cU] U a l1 c d l p v)];have l7:=R.c;refine dO (R.a _ _ u6.b) rfl λh8 W=>?_;have l8:=W.c;refine bX λh9 B=>?_;rw [show h8.length=k+5 from(bj (Bg Y oq [.e aB aY,.e aI bN,.e bF aI,.e bO dq,.e cR bO,.e cU ky,.e dJ cU,.e gg<|.p 8 1,.e Y gg] U a l1 c d l p v l7 l8)<|Bg bu Z [.g aB aR,.g aI bN,.g bF aI,.g bO dq,.g cR bO,.g cU ky,.g dJ cU,.g gg<|.p 8 1,.g Z gg] U a l1 c d l p v l7 l8)];have l9:=B.c;refine dO (B.a _ _ W.b) rfl λC D=>?_;haveI la:=D.c;haveI I:In k H C:=((((((((((In.i.f u1).b u2<|.inl rfl).f u3).b u4<|.inl rfl).f u5).b u6<|.inl rfl).f R).b W<|.inl rfl).f B).b D<|.inl rfl)
 haveI ob:C[k]?=J (.b 98 [(0,.j<|k+1),(1,.j<|k+2),(2,.j<|k+3),(3,.j<|k+4),(4,.j<|k+5)]):=D.b;haveI g1:C[k+1]?=J (.a []):=by have:=u1.b;rw [a]at this;exact D.a _ _ (B.a _ _<|W.a _ _ (R.a _ _<|u6.a _ _ (u5.a _ _<|u4.a _ _ (u3.a _ _<|u2.a _ _ this<|a9<|gE a a)<|a9<|gE a a)<|a9<|gE a a)<|a9<|gE a a)<|a9<|gE a a
 haveI g2:C[k+2]?=J (.e []):=by have:=u3.b;rw [show h2.length=k+2 from(bj (de Y kQ [.e aB aY,.e aI bN,.e Y aI] U a l1 c)<|de cm Z [.g aB aR,.g aI bN,.g Z aI] U a l1 c)]at this;exact D.a _ _ (B.a _ _<|W.a _ _ (R.a _ _<|u6.a _ _ (u5.a _ _<|u4.a _ _ this<|a9<|bP _<|aK _)<|a9<|bP _<|aK _)<|a9<|bP _<|aK _)<|a9<|bP _<|aK _
 haveI g3:C[k+3]?=J (.a []):=by have:=u5.b;rw [show h4.length=k+3 from(bj (mY Y (.p 1 3) [.e aB aY,.e aI bN,.e bF aI,.e bO dq,.e Y bO] U a l1 c d l)<|mY fL Z [.g aB aR,.g aI bN,.g bF aI,.g bO dq,.g Z bO] U a l1 c d l)]at this;exact D.a _ _ (B.a _ _<|W.a _ _ (R.a _ _<|u6.a _ _ this<|a9<|bP _<|aK _)<|a9<|bP _<|aK _)<|a9<|bP _<|aK _
 haveI g4:C[k+4]?=J (.a []):=by have:=R.b;rw [show h6.length=k+4 from(bj (sI Y (.p 1 4) [.e aB aY,.e aI bN,.e bF aI,.e bO dq,.e cR bO,.e cU ky,.e Y cU] U a l1 c d l p v)<|sI fZ Z [.g aB aR,.g aI bN,.g bF aI,.g bO dq,.g cR bO,.g cU ky,.g Z cU] U a l1 c d l p v)]at this;exact D.a _ _ (B.a _ _<|W.a _ _ this<|a9<|bP _<|aK _)<|a9<|bP _<|aK _
 haveI g5:C[k+5]?=J (.a []):=by have:=B.b;rw [show h8.length=k+5 from(bj (Bg Y oq [.e aB aY,.e aI bN,.e bF aI,.e bO dq,.e cR bO,.e cU ky,.e dJ cU,.e gg<|.p 8 1,.e Y gg] U a l1 c d l p v l7 l8)<|Bg bu Z [.g aB aR,.g aI bN,.g bF aI,.g bO dq,.g cR bO,.g cU ky,.g dJ cU,.g gg<|.p 8 1,.g Z gg] U a l1 c d l p v l7 l8)]at this;exact D.a _ _ this<|a9<|bP _<|aK _
 refine⟨16,rfl,by decide,?_⟩;refine qC (aBO k H C) (si 16) ?_ ?_ ?_;·exact λ_ k=>k aA aA (by decide) I (bj (dy [_,_,_,_,_,_,_,_,_,_,_,_] Y (.p 1 6) [.e aB aY,.e aI bN,.e bF aI,.e bO dq,.e cR bO,.e cU ky,.e dJ cU,.e gg<|.p 8 1,.e gW gg,.e o_<|.p 10 1,.e Y o_] U a l1 c d l p v l7 l8 l9 la)<|dy [_,_,_,_,_,_,_,_,_,_,_,_] cJ Z [.g aB aR,.g aI bN,.g bF aI,.g bO dq,.g cR bO,.g cU ky,.g dJ cU,.g gg<|.p 8 1,.g gW gg,.g o_<|.p 10 1,.g Z o_] U a l1 c d l p v l7 l8 l9 la) rfl g1 g2 g3 g4 g5 rfl
 ·intro G h q0;refine q0 _ λy1 y2 _ I' hl e0 k1 k2 k3 k4 k5 X=>?_;apply cQ X;intro rr;refine q h I' hl ⟨Mp,e0.trans ob,?_,?_,?_,?_,?_⟩;·rw [k1];unfold K0;rw [iv];rfl
  ·rw [k2];have:(K0.map λt=>(dM K0 t,cP K0 t))=(cF 16).map λj=>(jF j,aP j):=by
    unfold K0;rewrite [iv];refine mL λi P=>(?_:(jF i,cP K0<|.l i)=(jF i,aP i))
    unfold cP;rw [xB Mp<|oU.mp P];rfl
   rw [this]
  ·rw [k3];unfold K0;rw [iv];rfl
  ·rw [k4];unfold K0;rw [iv];rfl
  rw [k5];unfold K0;rw [iv];rfl
 intro i G h P q0;refine q0 _ λy1 y2 _ I' hl e0 k1 k2 k3 k4 k5 X=>?_;intro K' kn kr;apply cQ X;intro rr;rw [ob]at e0;refine aL e0<|dE (dj k1)<|eB k1 (by rw [ai,te];exact(ae P)) ?_;have m:am h (k+1) (.a<|(cF<|i+1).map jF) (h.set (k+1)<|.a<|(cF i).map jF++[jF i]):=by rw [kg,cL];exact am.d k1
 revert m;refine(?_:_->dC _ _ _ (h.set (k+1)<|.a<|(cF i).map jF++[jF i]) _);generalize h.set (k+1) _=a1;intro m;refine aL (m.a _ _ e0<|aj<|gE a a) ?_;haveI i2:=m.a _ _ k2<|a9<|bA aR cm [] U;haveI tn:gK ((cF i).map λj=>(jF j,aP j)) (jF i)=none:=by unfold gK;rw [Hx,xz];intro e me he;refine aG (bc.mp me) λj hj bM=>?_;clear me;subst bM;haveI he:jF j=jF i:=of_decide_eq_true he;exact absurd (hZ.mp<|V.d.inj (V.r.inj (V.r.inj he).2).1)<|j0<|oU.mp hj
 haveI st:qL (.e<|(cF i).map λj=>(jF j,aP j)) (jF i) (aP i)=J (.e<|(cF<|i+1).map λj=>(jF j,aP j)):=by refine(?_:(if(jF i).B&&aJ (((cF i).map λj=>(jF j,aP j)).length<1000000)then _ else _)=_);rw [decide_eq_true<|by rw [ai,te];exact(ae P),LV tn,kg,cL];rfl
 refine jS i2 st ?_;have w:=am.d (o:=.e<|(cF<|i+1).map λj=>(jF j,aP j)) i2;revert w;generalize a1.set (k+2) _=a2;intro w;haveI e2:=w.a _ _ (m.a _ _ e0<|aj<|gE a a)<|aj<|bP _<|aK _;refine aL e2 ?_;haveI i3:=w.a _ _ (m.a _ _ k3<|a9<|bA aR fL [] U)<|a9<|bA cm fL [] U;refine dE (dj i3)<|eB i3 (by rw [ai,te];exact(ae P)) ?_;have x:am a2 (k+3) (.a<|(cF<|i+1).map λ_=>.d 1) (a2.set (k+3)<|.a<|(cF i).map (λ_=>V.d 1)++[.d 1]):=by rw [kg,cL];exact am.d i3
 revert x;generalize a2.set (k+3) _=a3;intro x;haveI e3:=x.a _ _ e2<|aj<|bP _<|aK _;refine aL e3 ?_;haveI i4:=x.a _ _ (w.a _ _ (m.a _ _ k4<|a9<|bA aR fZ [] U)<|a9<|bA cm fZ [] U)<|a9<|bA fL fZ [] U;refine dE (dj i4)<|eB i4 (by rw [ai,te];exact(ae P)) ?_;have z:am a3 (k+4) (.a<|(cF<|i+1).map λ_=>.d 1) (a3.set (k+4)<|.a<|(cF i).map (λ_=>V.d 1)++[.d 1]):=by rw [kg,cL];exact am.d i4
 revert z;generalize a3.set (k+4) _=a4;intro z;haveI e4:=z.a _ _ e3<|aj<|bP _<|aK _;refine aL e4 ?_;haveI i5:=z.a _ _ (x.a _ _ (w.a _ _ (m.a _ _ k5<|a9<|bA aR bu [] U)<|a9<|bA cm bu [] U)<|a9<|bA fL bu [] U)<|a9<|bA fZ bu [] U;refine dE (dj i5)<|eB i5 (by rw [ai,te];exact(ae P)) ?_;have A:am a4 (k+5) (.a<|(cF<|i+1).map λ_=>.d 0) (a4.set (k+5)<|.a<|(cF i).map (λ_=>V.d 0)++[.d 0]):=by rw [kg,cL];exact am.d i5
 revert A;generalize a4.set (k+5) _=a5;intro A;refine(kn _ _ λ_ k=>k _ _ P (((((I'.b m<|.inr<|lu a).b w<|.inr<|aV Y kQ [.e Y aY] U a).b x<|.inr<|aV Y (.p 1 3) [.e Y aY] U a).b z<|.inr<|aV Y (.p 1 4) [.e Y aY] U a).b A<|.inr<|aV Y oq [.e Y aY] U a) (by rw [A.c,z.c,x.c,w.c,m.c];exact hl) ?_ ?_ ?_ ?_ ?_ A.b rfl).1;·rw [ob];exact A.a _ _ e4<|aj<|bP _<|aK _
 ·exact A.a _ _ (z.a _ _ (x.a _ _ (w.a _ _ m.b<|aj<|bA aR cm [] U)<|aj<|bA aR fL [] U)<|aj<|bA aR fZ [] U)<|aj<|bA aR bu [] U
 ·exact A.a _ _ (z.a _ _ (x.a _ _ w.b<|aj<|bA cm fL [] U)<|aj<|bA cm fZ [] U)<|aj<|bA cm bu [] U
 ·exact A.a _ _ (z.a _ _ x.b<|aj<|bA fL fZ [] U)<|aj<|bA fL bu [] U
 exact A.a _ _ z.b<|aj<|bA fZ bu [] U
end
section
theorem aBQ(e:H[s]?=J (.b 329 []))(a:H.length=s+1)
  (q:∀w,In s H w->w.length=s+12->KT w (s+1) K0->w[s]?=J (.b 329 [(37,.j (s+1)),(38,.j (s+7)),(39,.j (s+8)),(17,.j (s+9)),(40,.j (s+10)),(41,.j (s+11)),(42,.d 0)])->
   w[s+7]?=J (.a [.o])->w[s+9]?=J (.a [.o])->w[s+10]?=J (.e [])->Q .o w):aa (n+2) 23 [.j s] H Q:=by
 refine ce (fn:=PQ) rfl rfl ?_;intro rr
 refine bX λh1 u1=>?_
 rw [a]
 haveI l1:=u1.c
 haveI g1:=u1.b
 rw [a]at g1
 refine aBP (n:=n) g1 (bj (bb Y (.a aY au) [.e aB aY,.e Y bN] U a l1)<|bb (.a aR au) Z [.g aB aR,.g Z bN] U a l1) ?_
 intro h2 I2 c S2
 refine dE rfl ?_
 haveI e2:=I2.d _ _ (u1.a _ _ e)<|aj<|gE a a
 refine dO e2 rfl λh3 u3=>?_
 haveI S3:=S2.g u3<|.inl<|gE a a
 have d:=u3.c
 refine bX λh4 u4=>?_
 rw [show h3.length=s+7 from(bj (bb Y (.p 1 7) [.e aB<|.a aY fh,.e Y aB] U c d)<|bb (.p 0 7) Z [.g aB<|.a aR fh,.g Z aB] U c d)]
 have m:=u4.c
 refine dO (u4.a _ _ u3.b) rfl λh5 u5=>?_
 haveI S5:=(S3.m u4).g u5<|.inl<|gE a a
 have p:=u5.c
 refine bX λh6 u6=>?_
 rw [show h5.length=s+8 from(bj (jt Y (.p 1 8) [.e aB<|.a aY fh,.e aI aB,.e bF fM,.e Y bF] U c d m p)<|jt (.p 0 8) Z [.g aB<|.a aR fh,.g aI aB,.g bF fM,.g Z bF] U c d m p)]
 have t:=u6.c
 refine dO (u6.a _ _ u5.b) rfl λh7 u7=>?_
 haveI S7:=(S5.m u6).g u7<|.inl<|gE a a
 have v:=u7.c
 refine bX λh8 W=>?_
 rw [show h7.length=s+9 from(bj (ye Y (.p 1 9) [.e aB<|.a aY fh,.e aI aB,.e bF fM,.e bO bF,.e cR ku,.e Y cR] U c d m p t v)<|ye (.p 0 9) Z [.g aB<|.a aR fh,.g aI aB,.g bF fM,.g bO bF,.g cR ku,.g Z cR] U c d m p t v)]
 have z:=W.c
 refine dO (W.a _ _ u7.b) rfl λh9 X=>?_
 haveI S9:=(S7.m W).g X<|.inl<|gE a a
 have A:=X.c
 refine bX λha B=>?_
 rw [show h9.length=s+10 from(bj (qk Y (.p 1 10) [.e aB<|.a aY fh,.e aI aB,.e bF fM,.e bO bF,.e cR ku,.e cU cR,.e dJ<|.p 7 1,.e Y dJ] U c d m p t v z A)<|qk nR Z [.g aB<|.a aR fh,.g aI aB,.g bF fM,.g bO bF,.g cR ku,.g cU cR,.g dJ<|.p 7 1,.g Z dJ] U c d m p t v z A)]
 have la:=B.c
 refine dO (B.a _ _ X.b) rfl λhb C=>?_
 haveI Sb:=(S9.m B).g C<|.inl<|gE a a
 have lb:=C.c
 refine bX λhc D=>?_
 rw [show hb.length=s+11 from(bj (yf Y (.p 1 11) [.e aB<|.a aY fh,.e aI aB,.e bF fM,.e bO bF,.e cR ku,.e cU cR,.e dJ<|.p 7 1,.e gg dJ,.e gW oz,.e Y gW] U c d m p t v z A la lb)<|yf (.p 0 11) Z [.g aB<|.a aR fh,.g aI aB,.g bF fM,.g bO bF,.g cR ku,.g cU cR,.g dJ<|.p 7 1,.g gg dJ,.g gW oz,.g Z gW] U c d m p t v z A la lb)]
 haveI lc:=D.c
 refine dO (D.a _ _ C.b) rfl λhd P=>?_
 haveI Sd:=(Sb.m D).g P<|.inl<|gE a a
 haveI ld:=P.c
 refine dO P.b rfl λhe R=>?_
 haveI Se:=Sd.g R<|.inl<|gE a a
 haveI le:=R.c
 haveI I:In s H h2:=⟨by have:=I2.g;exact(VC a c),λl o h x=>I2.d _ _ (u1.a _ _ h) (by have:=bw h;exact(aj<|nY this a))⟩
 refine q he ((((((((((((I.b u3<|.inl rfl).f u4).b u5<|.inl rfl).f u6).b u7<|.inl rfl).f W).b X<|.inl rfl).f B).b C<|.inl rfl).f D).b P<|.inl rfl).b R<|.inl rfl) (bj (dy [_,_,_,_,_,_,_,_,_,_,_,_,_,_] Y (.p 1 12) [.e aB<|.a aY fh,.e aI aB,.e bF fM,.e bO bF,.e cR ku,.e cU cR,.e dJ<|.p 7 1,.e gg dJ,.e gW oz,.e o_ gW,.e lr<|.p 11 1,.e (.v 13) lr,.e Y<|.v 13] U c d m p t v z A la lb lc ld le)<|dy [_,_,_,_,_,_,_,_,_,_,_,_,_,_] (.p 0 12) Z [.g aB<|.a aR fh,.g aI aB,.g bF fM,.g bO bF,.g cR ku,.g cU cR,.g dJ<|.p 7 1,.g gg dJ,.g gW oz,.g o_ gW,.g lr<|.p 11 1,.g (.v 13) lr,.g Z<|.v 13] U c d m p t v z A la lb lc ld le) Se R.b ?_ ?_ ?_
 ·have:=u4.b;rw [show h3.length=s+7 from(bj (bb Y (.p 1 7) [.e aB<|.a aY fh,.e Y aB] U c d)<|bb (.p 0 7) Z [.g aB<|.a aR fh,.g Z aB] U c d)]at this
  exact R.a _ _ (P.a _ _ (D.a _ _<|C.a _ _ (B.a _ _<|X.a _ _ (W.a _ _<|u7.a _ _ (u6.a _ _<|u5.a _ _ this<|a9<|bP _<|aK _)<|a9<|bP _<|aK _)<|a9<|bP _<|aK _)<|a9<|bP _<|aK _)<|a9<|bP _<|aK _)<|a9<|bP _<|aK _
 ·have:=W.b;rw [show h7.length=s+9 from(bj (ye Y (.p 1 9) [.e aB<|.a aY fh,.e aI aB,.e bF fM,.e bO bF,.e cR ku,.e Y cR] U c d m p t v)<|ye (.p 0 9) Z [.g aB<|.a aR fh,.g aI aB,.g bF fM,.g bO bF,.g cR ku,.g Z cR] U c d m p t v)]at this
  exact R.a _ _ (P.a _ _ (D.a _ _<|C.a _ _ (B.a _ _<|X.a _ _ this<|a9<|bP _<|aK _)<|a9<|bP _<|aK _)<|a9<|bP _<|aK _)<|a9<|bP _<|aK _
 ·have:=B.b;rw [show h9.length=s+10 from(bj (qk Y (.p 1 10) [.e aB<|.a aY fh,.e aI aB,.e bF fM,.e bO bF,.e cR ku,.e cU cR,.e dJ<|.p 7 1,.e Y dJ] U c d m p t v z A)<|qk nR Z [.g aB<|.a aR fh,.g aI aB,.g bF fM,.g bO bF,.g cR ku,.g cU cR,.g dJ<|.p 7 1,.g Z dJ] U c d m p t v z A)]at this
  exact R.a _ _ (P.a _ _ (D.a _ _<|C.a _ _ this<|a9<|bP _<|aK _)<|a9<|bP _<|aK _)<|a9<|bP _<|aK _
end
noncomputable def Rl.a(R:Rl)(m p:Nat):Rl:=λl=>if l=p then J (.l m)else if l=p+1 then J (.m m)else R l
section
variable{R R' EX:Rl}
theorem Mq(a:R p=aA)(c:R (p+1)=aA)(h:R l=J r):R.a m p l=J r:=by
 unfold Rl.a;haveI d:l≠p:=λe=>by rw [e,a]at h;exact aX h
 haveI n:l≠p+1:=λe=>by rw [e,c]at h;exact aX h
 rw [if_neg d,if_neg n];exact h
theorem Bd.aa(B:Bd H k z A K R)(X:R p=aA)(h2:R (p+1)=aA)(n:k+6<=p/\p+1<H.length):Bd H k z A K (R.a m p):=by
 have a:∀{l r},R l=J r->R.a m p l=J r:=λh=>Mq X h2 h;refine⟨B.W,a B.D,a B.t,a B.w,a B.C,λi c e d hd=>a<|B.v i c e d hd,λj x e d hd=>a<|B.E j x e d hd,λl r h=>?_⟩;unfold Rl.a at h;split at h;·rename_i q;rw [q];exact⟨(uR n.2),.inr n.1⟩
 split at h;·rename_i q;rw [q];exact⟨n.2,.inr<|dF _ n.1⟩
 exact B.f l r h
theorem Lw.X(W:Lw H k σ A K R la ta nu n i ns)(h1:R p=aA)(h2:R (p+1)=aA)(hp:k+6<=p/\p+1<H.length)(n1:nu≠p/\nu≠p+1)(g1:H[p]?=J (.a []))(g2:H[p+1]?=J (.a []))(e1:l.e=p)(e2:l.f=p+1)(e3:l.c=[])(e4:l.d=[])(u:am H la (.a<|(n++[l]).map fG) H'):Lw H' k σ A K (R.a n.length p) la ta nu (n++[l]) i ns:=by
 have v:∀{l r},R l=J r->R.a n.length p l=J r:=λh=>Mq h1 h2 h;have t:∀{j s},R j=s->s≠J .g->j≠la:=λa b c=>b<|by rw [<-a,c,W.f]
 haveI B:=(W.B.aa (m:=n.length) h1 h2 hp).L u (v W.f)<|.inl rfl;have get:∀{j x},(n++[l])[j]?=J x->(j<n.length/\n[j]?=J x)\/(j=n.length/\x=l):=λ{j x} e=>by
  refine aU (fV j n.length) ?_ ?_;·intro q;rw [jL q]at e;exact .inl ⟨q,e⟩
  intro q;rw [kf q]at e;refine aU (Nat.eq_or_lt_of_le q) ?_ ?_;·intro z;rw [<-z,lX]at e;exact .inr ⟨z.symm,(ao e).symm⟩
  intro z;rw [ey<|by refine(?_:1<=_);exact(bb au Y [.t Z aB,.g (.a Y Z) aB] U z<|bY<|aV Y Z [.l Y Z] U q)]at e;exact aX e
 refine⟨B,⟨u.b,λx m=>?_,λx m=>?_⟩,v W.f,v W.w,λj x e=>?_,u.a _ _ W.D<|t W.w nofun,u.a _ _ W.G<|t W.C.1 nofun,⟨?_,W.C.2⟩,W.F⟩
 ·rcases eO.mp m with m|m
  ·refine oE (mM m) λj hj=>?_;exact u.a _ _ (W.L.c x m)<|t (W.d j x hj).1 nofun
  rw [bg.mp m];rw [e1,e3];exact u.a _ _ g1<|t h1 nofun
 ·rcases eO.mp m with m|m
  ·refine oE (mM m) λj hj=>?_;exact u.a _ _ (W.L.d x m)<|t (W.d j x hj).2 nofun
  rw [bg.mp m];rw [e2,e4];exact u.a _ _ g2<|t h2 nofun
 ·clear B u e4 e3;rcases get e with⟨q,e⟩|⟨rfl,rfl⟩
  ·exact⟨v (W.d j x e).1,v (W.d j x e).2⟩
  rw [e1,e2];exact⟨if_pos rfl,by unfold Rl.a;rw [if_neg<|a9<|gE e2 e2,if_pos rfl]⟩
 unfold Rl.a;rw [if_neg n1.1,if_neg n1.2];exact W.C.1
end
set_option backward.match.sparseCases false
noncomputable def fH:Ty->Ty|.m _ a=>a|t=>t
def eJ(d:Nat)(f:Ty):Prop:=∃a:Ty,a.k d=true/\(f=.m 64 a\/f=.m 65 a)
structure vB(ms:List jh)(EZ:List (Nat×Ty×Nat))(e:Ev):Prop where
 d:e.2.1=a_ e.1
 a:eJ 4 e.1
 c:((e.2.2,[101],fH e.1,true)∈ms/\(e.2.2,e.1,e.2.1)∈EZ)\/∃o,ms.find? (kY (dQ e.1)<|fH e.1)=J o/\o.1=e.2.2
structure vD(σ:az)(m s0:Nat)(x:jh):Prop where
 a:σ.d x.1=J ⟨66+m,x.2.1,if x.2.2.2 then 6 else 2,x.2.2.1⟩
 f:x.2.1=[109]\/x.2.1=[106]\/(x.2.1=[101]/\x.2.2.2=true)
 d:x.2.2.1.k 4=true
 b:s0<=x.1
structure LI(σ:az)(m s0:Nat)(l:cC)(c:dh):Prop where
 d:σ.b (66+m)=J c
 t:c.d=1
 v:c.f=0
 y:c.g=2
 A:c.e=J (if m=0 then .l 12 else .o (66+(m-1)) l.a l.b)
 k:c.a=l.c.map (·.1)
 g:∀x∈l.c,vD σ m s0 x
 B:(l.c.map (·.1)).Nodup
 i:σ.a.length=s0+l.c.length
 n:2<s0
 j:∀e∈c.b,(e.2.1,e.2.2,e.1)∈l.d/\(e.1,[101],fH e.2.1,true)∈l.c
 p:(c.b.map λe=>e.2.1).Sublist<|l.d.map (·.1)
 C:∀e∈l.d,vB l.c c.b e
 q:(l.d.map (·.1)).Nodup
structure oG(eT σ:az)(m s0:Nat):Prop where
 a:∀i,i≠66+m->σ.b i=eT.b i
 b:∀j x,eT.d j=J x->σ.d j=J x
 d:σ.g.length=eT.g.length
theorem aBR{l r:List a}{p:a->Bool}{o:a}(h:l.find? p=J o):(l++r).find? p=J o:=by rw [DR,h];rfl
section
theorem LI.F(I:LI a m e l c)(h:x∈l.c):x.1<a.a.length:=CL (I.g x h).a
theorem aBS:(sM a i c nm fr u).a.length=a.a.length+1:=b9
theorem Ms:(sM a i c nm fr u).d j=if j=a.a.length then J ⟨i,nm,if fr then 6 else 2,u⟩else a.d j:=GA (σ:=a)
theorem Mt(d:a.b i=J c):(sM a i c nm fr u).b j=if j=i then J {c with a:=c.a++[a.a.length]}else a.b j:=
 vA (σ:=a.l ⟨i,nm,if fr then 6 else 2,u⟩) (c:=c) d
theorem vB.f(h:vB m l e):vB (m++r) (l++s) e:=
 ⟨h.d,h.a,h.c.elim (λz=>.inl ⟨dI _ z.1,dI _ z.2⟩) λ⟨o,n,z2⟩=>.inr ⟨o,aBR n,z2⟩⟩
theorem vD.e(h:vD l m n x)(g:∀j y,l.d j=J y->c.d j=J y):vD c m n x:=⟨g _ _ h.a,h.f,h.d,h.b⟩
theorem Mu:∀j y,a.d j=J y->(sM a i c nm fr u).d j=J y:=λj y h=>by rw [Ms,if_neg<|j0<|CL h];exact h
theorem LI.D(I:LI w m P l c){nm:List Nat}{fr:Bool}{u:Ty}(Q:nm=[109]\/nm=[106]\/(nm=[101]/\fr=true))(R:u.k 4=true):
  LI (sM w (66+m) c nm fr u) m P (lM l (w.a.length,nm,u,fr)) {c with a:=c.a++[w.a.length]}:=by
 haveI W:∀x∈l.c,x.1≠w.a.length:=λx h=>j0<|I.F h;refine⟨by rw [Mt I.d,if_pos rfl],I.t,I.v,I.y,I.A,?_,?_,?_,?_,I.n,?_,I.p,?_,I.q⟩;·refine(?_:c.a++[_]=(l.c++[_]).map _);rw [cL,I.k];rfl
 ·intro x h;rcases eO.mp h with h|h;·exact(I.g x h).e Mu
  rw [bg.mp h];exact⟨by rw [Ms,if_pos rfl],Q,R,by refine(?_:P<=w.a.length);rw [I.i];exact(aV Y (.a Y Z) [] U)⟩
 ·refine(?_:((l.c++[_]).map _).Nodup);rw [cL];refine iu.mpr ⟨I.B,gN.mpr ⟨c_,fU⟩,λa X b hb=>?_⟩;refine aG (bc.mp X) λx hx z=>?_;rw [<-z];rw [bg.mp hb];exact W x hx
 ·rw [aBS,I.i];rw [b9];rfl
 ·exact λe h=>⟨(I.j e h).1,dI _ (I.j e h).2⟩
 intro e h;haveI:=(I.C e h).f (r:=[(w.a.length,nm,u,fr)]) (s:=[]);rw [cI]at this;exact this
theorem Mv{l:List c}{f:c}(h:l.Nodup)(d:f∉l):(l++[f]).Nodup:=
 iu.mpr ⟨h,gN.mpr ⟨c_,fU⟩,λa m b n=>by rw [bg.mp n];exact λe=>d<|e▸m⟩
theorem LI.E(I:LI a m w l c)(x:eJ 4 f)(z:f∉l.d.map (·.1))(P:l.c.find? (kY (dQ f)<|fH f)=J o):LI a m w (lE l (f,a_ f,o.1)) c:=by
 refine⟨I.d,I.t,I.v,I.y,I.A,I.k,I.g,I.B,I.i,I.n,λe h=>⟨dI _ (I.j e h).1,(I.j e h).2⟩,?_,?_,?_⟩;·refine(?_:aHo _<|(l.d++[_]).map _);rw [cL];exact I.p.trans<|List.sublist_append_left _ _
 ·intro e h;rcases eO.mp h with h|h;·exact I.C e h
  rw [bg.mp h];exact⟨rfl,x,.inr ⟨o,P,rfl⟩⟩
 refine(?_:((l.d++[_]).map _).Nodup);rw [cL];exact Mv I.q z
theorem LI.G(I:LI w m P l c)(Q:eJ 4 f)(R:f∉l.d.map (·.1))(a:(b,[101],fH f,true)∈l.c):
  LI (w.h (66+m) {c with b:=c.b++[(b,f,a_ f)]}) m P (lE l (f,a_ f,b)) {c with b:=c.b++[(b,f,a_ f)]}:=by
 refine⟨by rw [vA I.d,if_pos rfl],I.t,I.v,I.y,I.A,I.k,(λx h=>(I.g x h).e λ_ _ z=>z),I.B,I.i,I.n,?_,?_,?_,?_⟩
 ·intro e h;rcases eO.mp h with h|h;·exact⟨dI _ (I.j e h).1,(I.j e h).2⟩
  rw [bg.mp h];exact⟨dT _<|.head _,a⟩
 ·refine(?_:aHo ((c.b++[_]).map _)<|(l.d++[_]).map _);rw [cL,cL];exact I.p.append<|Ri _
 ·intro e h;rcases eO.mp h with h|h;·haveI:=(I.C e h).f (r:=[]) (s:=[(b,f,a_ f)]);rw [cI]at this;exact this
  rw [bg.mp h];exact⟨rfl,Q,.inl ⟨a,dT _<|.head _⟩⟩
 refine(?_:((l.d++[_]).map _).Nodup);rw [cL];exact Mv I.q R
theorem LI.H(I:LI e m w l c){a:List Ty}:LI (e.h (66+m) {c with c:=a}) m w l {c with c:=a}:=
 ⟨by rw [vA I.d,if_pos rfl],I.t,I.v,I.y,I.A,I.k,(λx h=>(I.g x h).e λ_ _ z=>z),I.B,I.i,I.n,I.j,I.p,I.C,I.q⟩
theorem oG.g:oG c c m l:=⟨λ_ _=>rfl,λ_ _ h=>h,rfl⟩
theorem oG.f(h:oG l n m p)(t:n.b (66+m)=J c):oG l (n.h (66+m) v) m p:=
 ⟨λi q=>by rw [vA t,if_neg q];exact h.a i q,h.b,vh.trans h.d⟩
theorem oG.e(h:oG l n m p)(t:n.b (66+m)=J c):oG l (sM n (66+m) c nm fr u) m p:=
 ⟨λi q=>by rw [Mt t,if_neg q];exact h.a i q,λj x z=>Mu _ _<|h.b j x z,vh.trans h.d⟩
theorem aBT:kY nm u (i,nm,u,fr)=true:=by refine(?_:(aJ (nm=nm)&&aJ (u=u))=true);rw [decide_eq_true rfl,decide_eq_true rfl];rfl
theorem LI.K(I:LI z m W l c)(Kp:oG X z m W){f:Ty}{w fr:Bool}(P:eJ 4 f)(hn:f∉l.d.map (·.1)):∃Q,Eo (LI (gw z m c l f (fH f) w fr).1 m W (gw z m c l f (fH f) w fr).2 Q) (oG X (gw z m c l f (fH f) w fr).1 m W) (Q.c=c.c) ((gw z m c l f (fH f) w fr).2.d.map (·.1)=l.d.map (·.1)++[f]) ((gw z m c l f (fH f) w fr).2.c.length<=l.c.length+1) ((gw z m c l f (fH f) w fr).2.a=l.a) ((gw z m c l f (fH f) w fr).2.b=l.b) (∀e∈c.b,e∈Q.b) (w=true->∃b,(b,f,a_ f)∈Q.b/\(gw z m c l f (fH f) w fr).2.d=l.d++[(f,a_ f,b)]) (∀e∈l.d,e∈(gw z m c l f (fH f) w fr).2.d):=by
 have ta:(fH f).k 4=true:=by obtain⟨a,ha,rfl|rfl⟩:=P<;>exact ha
 induction w with
 |true=>
  haveI R:=I.D (nm:=[101]) (fr:=true) (u:=fH f) (.inr<|.inr ⟨rfl,rfl⟩) ta
  have I2:=R.G (f:=f) (b:=z.a.length) P hn<|dT _<|.head _
  refine⟨_,I2,(Kp.e I.d).f R.d,rfl,?_,?_,rfl,rfl,λe h=>dI _ h,λ_=>⟨_,dT _<|.head _,rfl⟩,λe h=>dI _ h⟩
  ·refine(?_:(l.d++[_]).map _=_)
   rw [cL];rfl
  ·refine(?_:(l.c++[_]).length<=_)
   rw [b9];exact aK _
 |false=>
  induction x:l.c.find? (kY (dQ f)<|fH f)with
  |some o=>
   haveI e1:Mine.gw z m c l f (fH f) false fr=(z,lE l (f,a_ f,o.1)):=by unfold Mine.gw;rw [x];rfl
   rw [e1]
   refine⟨c,I.E P hn x,Kp,rfl,?_,vo _,rfl,rfl,λe h=>h,(λh=>by exact ft h),λe h=>dI _ h⟩
   refine(?_:(l.d++[_]).map _=_)
   rw [cL];rfl
  |none=>
   haveI e1:Mine.gw z m c l f (fH f) false fr=(sM z (66+m) c (dQ f) fr<|fH f,lE (lM l (z.a.length,dQ f,fH f,fr)) (f,a_ f,z.a.length)):=by unfold Mine.gw;rw [x];rfl
   rw [e1]
   haveI R:=I.D (nm:=dQ f) (fr:=fr) (u:=fH f) (by unfold dQ;split<;>simp) ta
   haveI I2:=R.E (f:=f) (o:=(z.a.length,dQ f,fH f,fr)) P hn (by
    refine(?_:(l.c++[_]).find? _=_)
    rw [DR,x]
    refine(?_:List.find? _ [_]=_)
    rw [gA,aBT])
   refine⟨_,I2,Kp.e I.d,rfl,?_,?_,rfl,rfl,λe h=>h,(λh=>by exact ft h),λe h=>dI _ h⟩
   ·refine(?_:(l.d++[_]).map _=_)
    rw [cL];rfl
   ·refine(?_:(l.c++[_]).length<=_)
    rw [b9];exact aK _
end
set_option backward.match.sparseCases true
structure d0(H:Hp)(R:Rl)(k nu l:Nat)(o:O):Prop where
 b:H[l]?=J o
 d:R l=aA
 c:k+6<=l
 i:l≠nu
section
theorem Go.A(a:Go m k X H R z B)(h:∀x∈X,x∈p):Go m k p H R z B:=⟨a.q,a.g,λl o e r c y=>a.i l o e r c λx=>y<|h l x⟩
theorem Go.w(a:Go m k [] H R e l):Go m k c H R e l:=a.A λ_ h=>nomatch h
theorem d0.f(L:d0 H R k m l o)(e:Go false k X H R p q)(h:l∉X):d0 p q k m l o:=⟨e.i _ _ L.b (.inl L.d) (.inr L.c) h,(e.g _<|bw L.b).trans L.d,L.c,L.i⟩
theorem d0.a(L:d0 H R k m l o)(e:Go false k [] H R p q):d0 p q k m l o:=L.f e c_
theorem Lw.Q(W:Lw H k a A t R c m n p i q)(h:H.length<=l):R l=none:=by
 induction e:R l with
 |none=>rfl|some r=>exact absurd (W.B.f l r e).1<|ve h
theorem Lw.N(W:Lw H k e A q R l m a n i p)(u:nz H o c):d0 c R k a H.length o:=by haveI t:=W.B.W.b.p.2.2.2.2.2;haveI:=W.P.2.2;exact⟨u.b,W.Q<|aK _,(aH t.2 t.1),(a9 this)⟩
theorem Lw.aa(W:Lw H k c A v R e m a n i p)(L:d0 H R k a l o)(u:am H l t q):Lw q k c A v R e m a n i p:=W.S u (.inr L.c) L.d L.i
theorem d0.n(L:d0 H R k e l o)(u:am H l m p):d0 p R k e l m:=⟨u.b,L.d,L.c,L.i⟩
theorem d0.g(L:d0 H R k e l o):l<H.length:=bw L.b
theorem Mw{c:List Ty}:(c.map dW).all V.p=true:=by rw [eI];intro x m;refine aG (bc.mp m) λt _ a=>?_;rw [<-a];exact xP
theorem CN{a:List Ty}{t:Ty}(e:H[l]?=J (.a<|a.map dW))(d:Wt t)(hm:∀u∈a,Wt u):eK bW H .a (.k<|bH t) (.j l)=J (!aJ (t∈a)):=by refine(congrArg (oV (!·))<|(f0 (f:=mG<|.k<|bH t) e).trans<|zb xP Mw).trans ?_;show J (!aJ _)=_;congr 2;refine decide_eq_decide.mpr ⟨λm=>?_,λm=>bc.mpr ⟨t,m,rfl⟩⟩;refine aG (bc.mp m) λu c n=>(Fu (hm u c) d).mp (V.k.inj n)▸c
theorem aBU(e:H[l]?=J (.a<|a.map dW))(c:H[r]?=J (.a [])):eK bW H .d (.j l) (.j r)=J (!aJ (a=[])):=by refine(congrArg (oV (!·)) (show(H[l]?).bind (λo=>(H[r]?).bind λp=>tH o p)=J (aJ<|a.map dW=[])from(f0 e).trans<|(f0 c).trans<|Nq Mw rfl)).trans ?_;show J (!aJ _)=_;congr 2;exact decide_eq_decide.mpr<|by induction a<;>simp
noncomputable def T8:List Ty:=[.j 0,.j 1,.l 7,.j 0,.j 1,.r<|.j 0,.l 13,.r<|.j 1]
theorem aBV(h:r<8):∃t,T8[r]?=J t/\t.k 1=true:=by
 haveI a:∀r:Fin 8,∃t,T8[r.val]?=J t/\t.k 1=true:=by intro r;refine bU (T8[r.val]'r.isLt) (f7 r.isLt) ?_;revert r;decide
 exact a ⟨r,h⟩
theorem CO{K':V->Prop}(e:H[a]?=J (.a<|T8.map dW))(h:r<8)(q:∀t:Ty,t.k 1=true->K' (.k<|bH t)):mj (.j a) (aP r) H K':=by refine aG (aBV h) λt c d=>du e (by rw [jJ,c];rfl) (ae h) (q t d)
theorem vF(h:eJ d f)(hd:d<=8:=by decide):Wt f:=Fw h hd
theorem oH(h:eJ d f)(hd:d<=e:=by decide):eJ e f:=by refine aG h λa c l=>bU a (cS c hd) l
theorem aBW(h:eJ d f):∃c,f=.m c (fH f):=by obtain⟨a,e,rfl|rfl⟩:=h<;>exact⟨_,rfl⟩
theorem Mx{l:cC}{c:dh}{f a:Ty}{w fr:Bool}:(gw d m c l f a w fr).2.e=l.e/\(gw d m c l f a w fr).2.f=l.f:=by
 induction w with
 |true=>exact⟨rfl,rfl⟩|false=>
  induction n:l.c.find? (kY (dQ f) a)with
  |some o=>
   haveI e:Mine.gw d m c l f a false fr=(d,lE l (f,a_ f,o.1)):=by unfold Mine.gw;rw [n];rfl
   rw [e];exact⟨rfl,rfl⟩
  |none=>
   haveI e:Mine.gw d m c l f a false fr=(sM d (66+m) c (dQ f) fr a,lE (lM l (d.a.length,dQ f,a,fr)) (f,a_ f,d.a.length)):=by unfold Mine.gw;rw [n];rfl
   rw [e];exact⟨rfl,rfl⟩
structure Lv(H:Hp)(k s:Nat)(A:eW)(K:List Ty)(R:Rl)(la ta nu:Nat)(ls:List cC)(ns:List Nat)(eT σ:az)(s0 i:Nat)(lw l:cC)(c:dh):Prop where
 W:Lw H k σ A K R la ta nu (ls++[l]) i ns
 g:A.s=s
 I:LI σ ls.length s0 l c
 j:oG eT σ ls.length s0
 d:l.a=lw.a/\l.b=lw.b/\l.e=lw.e/\l.f=lw.f
theorem CP{a:List c}{l:c}:(a++[l])[a.length]?=J l:=by rw [kf<|aK _,lX];rfl
theorem My{a:List d}{l c:d}:(a++[l]).set a.length c=a++[c]:=by rw [List.set_append_right _ _<|aK _,lX];rfl
theorem Lv.a(V:Lv H k s A K R B w z P X v σ s0 i lw lv c)(hi:i<100000)(hm:0<m/\m<1000)(q:∀e r,r<m->Lv e k s A K R B w z P X v σ s0 (i+1) lw lv c->Go false k [] H R e R->Q (aP r) e):aa (n+1) 69 [.j z,.j w,.d (m:Nat)] H Q:=
 CM V.W hi hm λe r h W l=>q e r h ⟨W,V.g,V.I,V.j,V.d⟩ l
theorem Lv.t(V:Lv H k s A X R l m n q v e w B i P z c)(W:Lw Q k w A K' R l m n (q++[z]) i v):Lv Q k s A K' R l m n q v e w B i P z c:=⟨W,V.g,V.I,V.j,V.d⟩
theorem Lv.C(V:Lv H k s A X R l m n q v e w z i B P c)(N:Nx k H X Q K'):Lv Q k s A K' R l m n q v e w z i B P c:=V.t<|V.W.E N
theorem Lv.D(V:Lv H k s A Q R l m n q v e w z i B P c):KT H k Q:=V.W.B.W.c
theorem Lv.E{u:Ty}{fr:Bool}(V:Lv H k s A K R la ta nu ls ns z σ s0 i lw v c)(hu:u.k 4=true)(B:s0+v.c.length<900)
  (q:∀l P K' w X l' c',Lv l k s P K' w la ta nu ls ns z X s0 i lw l' c'->Go false k [] H R l w->l'.d=v.d->c'.c=c.c->l'.c.length=v.c.length+1->Q (aP σ.a.length) l):
  aa (n+9) 74 [.j s,.d (ls.length:Nat),.j lw.e,.k [109],.k<|bH u,.n fr] H Q:=by
 obtain rfl:=V.g;have I:=V.I;haveI e:=congrArg gB I.k;rw [ai]at e;rw [<-V.d.2.2.1];refine GG V.W CP I.d (.inl rfl) (.inl<|cS hu) (by rw [I.i];exact(be (.a (.a Y Z) au) dz [.t (.a Y Z) pz] U B)) (dg Y dz [.t (.a Z aB) pz,.e Y aB] U B e) (be Y dz [.t (.a Z Y) pz] U B) λl P K' w W eA _ m=>?_;rw [My]at W;exact q l P K' w _ (lM v (σ.a.length,[109],u,fr)) _ ⟨W,eA,I.D (.inl rfl) hu,V.j.e I.d,V.d⟩ m rfl rfl b9
theorem Lv.y{fr:Bool}{wv:Nat}(V:Lv H k s A K R la ta nu ls ns eT σ s0 i lw m c)(hf:eJ 4 f)(hn:f∉m.d.map (·.1))(sz:s0+m.c.length<900)(w:m.d.length<900)
  (q:∀B A' K' X gf l' v,Lv B k s A' K' X la ta nu ls ns eT gf s0 i lw l' v->Go false k [] H R B X->v.c=c.c->l'.d.map (·.1)=m.d.map (·.1)++[f]->l'.c.length<=m.c.length+1->(∀e∈c.b,e∈v.b)->(wv=0->∃b,(b,f,a_ f)∈v.b/\l'.d=m.d++[(f,a_ f,b)])->Q .o B):
  aa (n+10) 75 [.j s,.d (ls.length:Nat),fG lw,.k<|bH f,.d (wv:Nat),.n fr] H Q:=by
 obtain rfl:=V.g;have I:=V.I;haveI e:=congrArg gB I.k;rw [ai]at e;haveI e2:=I.p.length_le;rw [ai,ai]at e2;refine oE (aBW hf) λc0 hc0=>?_;obtain⟨v,I',Kp',h1,h2,h3,h4,h5,h6,h7,h8⟩:=I.K (w:=aJ<|wv=0) (fr:=fr) V.j hf hn;have l:=V.d;haveI el:fG lw=fG m:=by unfold fG;rw [l.1,l.2.1,l.2.2.1,l.2.2.2]
 rw [el];refine aBN V.W CP I.d (oH hf) hc0 (by rw [I.i];exact(be (.a (.a Y Z) au) dz [.t (.a Y Z) pz] U sz)) (dg Y dz [.t (.a Z aB) pz,.e Y aB] U sz e) (be Y dz [.t (.a Z Y) pz] U sz) (ae w) (ae<|cN e2 w) (λo ho=>?_) (λz hz=>?_) (by rw [I.i];haveI:=I.n;omega) λB A' K' X W eA _ P=>?_;·haveI M:=I.g o ho;refine⟨kE (by have:=I.n;omega) M.b,?_,.inl<|cS M.d⟩;rcases M.f with z|z|⟨z,-⟩<;>rw [z]<;>rfl
 ·exact CL (I.g _ (I.j z hz).2).a
 rw [My]at W;exact q B A' K' X _ _ v ⟨W,eA,I',Kp',h4.trans l.1,h5.trans l.2.1,Mx.1.trans l.2.2.1,Mx.2.trans l.2.2.2⟩ P h1 h2 h3 h6 λz=>h7<|decide_eq_true z
theorem Lv.F(V:Lv H k s A K R P X nu z ns m σ s0 i lw lv c)(hv:At K v f)(hl:c.c.length<1000)
  (q:∀l w,Lv l k s A K R P X nu z ns m w s0 i lw lv {c with c:=dG c.c f}->Go false k [] H R l R->Q .o l):
  aa (n+1) 28 [.j s,.d ((66+z.length:Nat):Int),v] H Q:=by
 obtain rfl:=V.g;refine Mk V.W.B V.I.d hv hl λl B e=>q l _ ⟨V.W.M B e,rfl,V.I.H,V.j.f V.I.d,V.d⟩ e.v
theorem Lv.p(V:Lv H k s A X R n q m v w e z B i P Q c)(u:nz H o l):Lv l k s A X R n q m v w e z B i P Q c/\d0 l R k m H.length o/\Go false k [] H R l R:=
 ⟨V.t<|V.W.I u,V.W.N u,Go.f.n u⟩
theorem Lv.x(V:Lv H k s A K R q v e w z m B P i Q X c)(L:d0 H R k e l o)(u:am H l o' n):Lv n k s A K R q v e w z m B P i Q X c/\d0 n R k e l o'/\Go false k [l] H R n R:=
 ⟨V.t<|V.W.aa L u,L.n u,Go.f.t u<|.inl<|.head _⟩
end
section
noncomputable abbrev pI(s t v w x k m z:Nat)(a:cC)(A:V)(c lD d e l n p q:Option V):aS:=
 [J<|.j s,J<|.j t,J<|.j v,J<|.j w,J<|.j x,J<|.j k,J<|.d (m:Nat),J<|.j z,J<|gJ a.a a.b,J A,J<|fG a,c,lD,d,e,l,n,p,q]
def aBX(k:Nat)(H:Hp)(R:Rl)(d:az)(w x e i s D I P l:Nat)(z:List cC)(Q:List Nat)(A:cC)(c:dh)(W:V)(j:Nat)(G:aS)(h:Hp):Prop:=∀a:Prop,(∀(X:eW)(K':List Ty)(m:Rl)(n:az)(B:Nat)(p:cC)(C:dh)(T:List Ty)(q t v:Option V)(w0:Lv h k s X K' m w x e z Q d n D B A p C)(w1:Go false k [l] H R h m)(w2:d0 h m k e l<|.a<|T.map dW)(w3:∀u∈T,u.k 1=true) (w4:T.length<=j) (w5:p.d=[]) (w6:C.c=c.c) (w7:p.c.length<=j) (w8:B<=i+1+2*j) (w9:G=pI s e x w I k z.length P A W (J<|.j l) q t v aA aA aA aA),a)->a
theorem aBY(W:Lv H k s A K R la ta z ls ns X σ s0 i lw lv c)(Lt:d0 H R k z tr<|.a<|T8.map dW)(Lh:d0 H R k z v<|.a [])(ne:tr≠v)(h1:lv.c=[])(h2:lv.d=[])(hi:i<50000)(hs:s0<800)
  (q:∀H' A' K' B a i' w C e l p,Lv H' k s A' K' B la ta z ls ns X a s0 i' lw w C->w.d=[]->C.c=c.c->w.c.length<=2->i'<=i+5->Go false k [v] H R H' B->
   dC (aa (n+10)) (tM.a 11) (pI s z ta la fa k ls.length tr lw bv (J (.j v)) e l p aA aA aA aA) H' Q):
  dC (aa<|n+10) (tM.a 10) (pI s z ta la fa k ls.length tr lw bv (J<|.j v) aA aA aA aA aA aA aA) H Q:=by
 refine W.a (n:=n+9) (m:=2) (ae hi) (by decide) ?_
 intro H1 r d V1 G1
 refine⟨1+r,congrArg V.d (vj 1 r).symm,(bA (.a au Y) eX [.t Y dB] U d),?_⟩
 refine qC (aBX k H R X la ta z i s s0 fa tr v ls ns lw c bv) (si _) ?_ ?_ ?_
 ·exact λ_ k=>k A K R σ (i+1) lv c ([]) aA aA aA V1 G1.w (Lh.a G1) (λ_ h=>nomatch h) (aK _) h2 rfl (by rw [h1];exact aK _) (aK _) rfl
 ·intro G h q0;refine q0 _ λA' K' B a i' w C T e l p V' G' _ _ _ e1 e2 e3 D x=>?_
  apply cQ x;intro rr
  exact q h A' K' B a i' w C e l p V' e1 e2 (aV Y dB [.t Z dB,.l Y<|.a au Z] U d e3) (bb Y oq [.t aB dB,.t aB dB,.l Y<|.a aY<|.m 2<|.a au aB] U d d D) G'
 ·intro j G h I q0;refine q0 _ λA' K' B a i' w C T e l p V' G' L' hT lT e1 e2 e3 D x=>?_;intro K2 kn kr
  apply cQ x;intro rr
  refine V'.a (n:=n+9) (m:=8) (jA Y qj [.t Z sH,.t aB dB,.t aB dB,.t aI<|.a au aB,.t aI<|.a au aB,.l Y<|.a aY<|.m 2 aI] U hi d d I I D) (by decide) ?_
  intro h2 r2 pj V2 G2
  haveI Jr:=(Lt.f G'<|by simpa using ne).a G2
  refine CO Jr.b pj λt ht=>
    V2.a (n:=n+9) (m:=3) (jA aR qj [.t Z sH,.t aB dB,.t aB dB,.t aI<|.a au aB,.t aI<|.a au aB,.l Y<|.a aY<|.m 2 aI] U hi d d I I D) (by decide) ?_
  intro h3 r3 E1 V3 G3
  have P:=(L'.a G2).a G3
  have UL:=(G'.d G2.w).d G3.w
  refine bK (CN P.b (.inl<|cS ht) λu m=>.inl<|cS<|hT u m) ?_
  by_cases m:t∈T
  ·refine hM (by rw [decide_eq_true m];rfl)<|
     (kn _ _ λ_ k=>k A' K' B a _ w C T _ _ _ V3 UL P hT (dF _ lT) e1 e2 (dF _ e3) (bb (.a aR au) (.a aY<|.m 2 bN) [.l Y<|.a aY<|.m 2 aB] U D) rfl).1
  ·refine iO (by rw [decide_eq_false m];rfl)<|
     dE (dj P.b)<|
     eB P.b (by rw [ai];exact(dg Y eX [.t Z dB,.t aB<|.a au Z,.l Y aB] U d I lT)) ?_
   have u:am h3 v (.a<|(T++[t]).map dW) (h3.set v<|.a<|T.map dW++[.k<|bH t]):=by rw [cL];exact am.d P.b
   revert u
   generalize h3.set v (.a<|T.map dW++[.k<|bH t])=h4
   intro u
   refine fk (V3.x P u) λV4 L4 G4=>
     bS rfl ?_
   refine V4.E (n:=n+1) (cS ht) (jA (.a Y Z) pz [.t Y<|.n 800,.t aB dB,.t aI<|.a au aB,.l Z aI] U hs d I e3) ?_
   intro h5 A5 K5 R5 Js l5 c5 V5 G5 f1 f2 f3
   refine(kn _ _ λ_ k=>k A5 K5 R5 Js _ l5 c5 (T++[t]) _ _ _ V5 ((UL.d G4).d G5.w) (L4.a G5) ?_ (by rw [b9];exact iW lT) (f1.trans e1) (f2.trans e2) (bb Y aY [.l aB Z,.e Y bN] U e3 f3) (bb (.a aR au) (.a aY<|.m 2 bN) [.l Y<|.a aY<|.m 2 aB] U D) rfl).1
   intro u hu
   refine aU (eO.mp hu) ?_ ?_
   ·intro hu;exact hT u hu
   ·intro hu;rw [bg.mp hu];exact ht
end
theorem jV:∀{b a:List Ty},x∈cB a b↔x∈a\/x∈b|[],a=>by simp [cB]|y::b,a=>by refine(?_:x∈cB (dG a y) b↔_);rw [jV,FO,dA,or_assoc]
theorem Mz:∀{b:List Ty},(∀x∈b,x∈a)->cB a b=a|[],_=>rfl|y::b,h=>by refine(?_:cB (dG a y) b=a);rw [show dG a y=a from if_pos<|h y<|.head _];exact Mz λx m=>h x<|.tail _ m
theorem sn:∀{b a:List Ty},a.Nodup->(cB a b).Nodup|[],_,h=>h|y::b,a,h=>by refine(?_:(cB (dG a y) b).Nodup);exact sn<|Lj h
theorem aBZ(h:eJ d f):cB bs [f,.m 64<|fH f]=cB bs (cq f):=by
 obtain⟨a,-,rfl|rfl⟩:=h;·refine(?_:dG (dG bs _) _=dG bs _);exact if_pos<|FO.mpr<|.inr rfl
 rfl
theorem aB0:cB [] ((dG a f).flatMap cq)=cB (cB []<|a.flatMap cq) (cq f):=by
 by_cases m:f∈a;·rw [show dG a f=a from if_pos m,Mz λx c=>jV.mpr<|.inr<|rU.mpr ⟨f,m,c⟩]
 rw [show dG a f=a++[f]from if_neg m,nD,nj];rw [kc,IH,cI]
section
theorem aB1{K':V->Prop}(h:r<3)(q:∀x,x=73\/x=74->K' (.k [x])):mj (.k [73,74,73]) (aP r) H K':=by
 haveI a:∀r:Fin 3,∃x,oJ bW [] (.k [73,74,73]) (aP r.val)=J (.k [x])/\(x=73\/x=74):=by
  intro r;rcases r with⟨_|_|_|r,h⟩
  ·exact bU 73 rfl (.inl rfl)
  ·exact bU 74 rfl (.inr rfl)
  ·exact bU 73 rfl (.inl rfl)
  exact(nQ [_] [.t (.a (.a aR au) au) bq] U h)
 refine aG (a ⟨r,h⟩) λx c d=>bS c (q x d)
def aB2(k:Nat)(H:Hp)(R:Rl)(d:az)(A B e i s P Q W l:Nat)(C:List cC)(X:List Nat)(D:cC)(bv:V)(m n p:Option V)(j:Nat)(G:aS)(h:Hp):Prop:=∀a:Prop,(∀(A':eW)(K':List Ty)(q:Rl)(t:az)(I:Nat)(v:cC)(c:dh)(bs:List Ty)(w x z:Option V)(w0:Lv h k s A' K' q A B e C X d t P I D v c)(w1:Go false k [l] H R h q)(w2:d0 h q k e l<|.a<|bs.map dW)(w3:∀f∈bs,eJ 1 f) (w4:∀f∈c.c,eJ 1 f) (w5:bs.length<=2*j) (w6:c.c.length<=j) (w7:v.d.map (·.1)=bs) (w8:cB [] (c.c.flatMap cq)=bs) (w9:v.c.length<=2+2*j) (w10:I<=i+1+6*j) (w11:G=pI s e B A Q k C.length W D bv m w n p (J<|.j l) x z aA),a)->a
def aB3(k:Nat)(c:az)(z A d s I Q R e:Nat)(B:List cC)(W:List Nat)(C:cC)(X:V)(l m n:Option V)(j:Nat)(R':Rl)(i':Nat)(l':cC)(c':dh)(bs:List Ty)(t f:Ty)(h6:Hp)(p:List V)(G:aS)(h:Hp):Prop:=∀a:Prop,(∀(S P:List Ty)(A7:eW)(K7:List Ty)(q:Rl)(v:az)(D:Nat)(w:cC)(H:dh)(x:Option V)(w0:p=S.map dW)(w1:[f,.m 64 t]=P++S)(w2:Lv h k s A7 K7 q z A d B W c v I D C w H)(w3:Go false k [e] h6 R' h q)(w4:d0 h q k d e<|.a<|(cB bs P).map dW)(w5:(cB bs P).length<=bs.length+P.length)(w6:w.d.map (·.1)=cB bs P)(w7:H.c=dG c'.c f)(w8:w.c.length<=l'.c.length+P.length)(w9:D<=i'+2+2*P.length)(w10:G=pI s d A z Q k B.length R C X l (J<|aP j) m n (J<|.j e) (J<|.k<|bH f) x aA),a)->a
theorem aB4(fJ:Lv H k s A K R la ta nu ls ns eT σ s0 i lw lv c)(Lt:d0 H R k nu tr<|.a<|T8.map dW)(Lb:d0 H R k nu W<|.a [])(ne:tr≠W)(h1:lv.c.length<=2)(h2:lv.d=[])(h3:c.c=[])(hi:i<50000)(hs:s0<800)
  (q:∀H' A' K' X gf i' l' c' bs iZ i_ D,Lv H' k s A' K' X la ta nu ls ns eT gf s0 i' lw l' c'->d0 H' X k nu W (.a (bs.map dW))->l'.d.map (·.1)=bs->cB [] (c'.c.flatMap cq)=bs->(∀f∈bs,eJ 1 f)->(∀f∈c'.c,eJ 1 f)->c'.c.length<=2->bs.length<=4->l'.c.length<=6->i'<=i+13->Go false k [W] H R H' X->
   dC (aa (n+10)) (tM.a 13) (pI s nu ta la fa k ls.length tr lw bv r_ iZ jq jr (J (.j W)) i_ D aA) H' Q):
  dC (aa<|n+10) (tM.a 12) (pI s nu ta la fa k ls.length tr lw bv r_ iZ jq jr (J<|.j W) aA aA aA) H Q:=by
 refine fJ.a (n:=n+9) (m:=3) (ae hi) (by decide) ?_
 intro H1 r a V1 G1
 refine qB r rfl (ae a) ?_
 refine qC (aB2 k H R eT la ta nu i s s0 fa tr W ls ns lw bv r_ jq jr) (si _) ?_ ?_ ?_
 ·exact λ_ k=>k A K R σ (i+1) lv c ([]) _ _ _ V1 G1.w (Lb.a G1) (λ_ h=>nomatch h) (by rw [h3];exact λ_ h=>nomatch h) (aK _) (by rw [h3];exact aK _) (by rw [h2];rfl) (by rw [h3];rfl) h1 (aK _) rfl
 ·intro G h z;refine z _ λA' K' X gf i' l' c' bs iZ i_ D V' G' L' e1 e2 e3 e4 e5 e6 e7 e8 l=>?_
  apply cQ l;intro rr
  exact q h A' K' X gf i' l' c' bs _ _ _ V' L' e5 e6 e1 e2 (aV Y dB [.t Z bq,.l Y Z] U a e4) (aV Y (.n 4) [.t Z bq,.t Z bq,.l Y<|.m 2 Z] U a a e3) (aV Y fh [.t Z bq,.t Z bq,.l Y<|.a dB<|.m 2 Z] U a a e7) (bb Y (.p 1 13) [.t aB bq,.t aB bq,.t aB bq,.t aB bq,.t aB bq,.t aB bq,.l Y<|.a aY<|.m 6 aB] U a a a a a a e8) G'
 ·intro j G h d z;refine z _ λA' K' X gf i' l' c' bs iZ i_ D V' G' L' e1 e2 e3 e4 e5 e6 e7 e8 l=>?_;intro K2 kn kr
  apply cQ l;intro rr
  refine V'.a (n:=n+9) (m:=3) (jA Y qj [.t Z sH,.t aB bq,.t aB bq,.t aB bq,.t aB bq,.t aB bq,.t aB bq,.t aI aB,.t aI aB,.t aI aB,.t aI aB,.t aI aB,.t aI aB,.l Y<|.a aY<|.m 6 aI] U hi a a a a a a d d d d d d e8) (by decide) ?_
  intro h2 r2 pj V2 G2
  refine aB1 pj λxc hxc=>
    V2.a (n:=n+9) (m:=6) (jA aR qj [.t Z sH,.t aB bq,.t aB bq,.t aB bq,.t aB bq,.t aB bq,.t aB bq,.t aI aB,.t aI aB,.t aI aB,.t aI aB,.t aI aB,.t aI aB,.l Y<|.a aY<|.m 6 aI] U hi a a a a a a d d d d d d e8) (by decide) ?_
  intro h3 r3 E1 V3 G3
  haveI Lt3:=((Lt.f G'<|by simpa using ne).a G2).a G3
  refine CO Lt3.b (ae E1) λt ht=>?_
  haveI wt:Wt t:=.inl<|cS ht
  have BC:=jf wt
  refine bK (add_str<|by refine(?_:1+(bH t).length<1000000);exact(bA (.a au Y) eX [.t Y dz] U BC)) ?_
  obtain⟨f,hf,ef,ea⟩:∃f,A3 (eJ 1 f) (bH f=[xc]++bH t) (fH f=t):=by
   refine aU hxc ?_ ?_
   ·intro e;rw [e];exact uY (.m 64 t) ⟨t,ht,.inl rfl⟩ rfl rfl
   ·intro e;rw [e];exact uY (.m 65 t) ⟨t,ht,.inr rfl⟩ rfl rfl
  rw [<-ef]
  have wf:Wt f:=vF hf
  refine lK (n:=n+2) V3.D wf ?_
  intro h4 K4 fv N4 a4
  haveI V4:=V3.C N4
  have G4:Go false k [] h3 X h4 X:=Go.s N4
  haveI e66:(66:Int)+(ls.length:Nat)=((66+ls.length:Nat):Int):=(vj 66 _).symm
  rw [e66]
  refine V4.F (n:=n+9) a4 (ae<|ae (cN e4 d) a) ?_
  intro h5 Js V5 G5
  haveI E2:=jf wf
  refine uX _ rfl (uy f) (ae E2) ?_
  haveI tf:(bH f).tail=bH t:=by rw [ef];rfl
  rw [tf]
  refine bK (add_str<|by refine(?_:1+(bH t).length<1000000);exact(bA (.a au Y) eX [.t Y dz] U BC)) ?_
  refine bX λh6 u6=>
    fk (V5.p u6) λV6 L6 G6=>?_
  haveI G06:=((((G'.d G2.w).d G3.w).d G4.w).d G5.w).d G6.w
  have L'6:=((((L'.a G2).a G3).a G4).a G5).a G6
  haveI gq:d0 h6 X k nu h5.length (.a<|[f,.m 64 t].map dW):=L6
  haveI nq:h5.length≠W:=by haveI:=(((L'.a G2).a G3).a G4).a G5|>.g;exact(a9 this)
  refine fq gq.b ?_
  clear L6
  refine fp (aB3 k eT la ta nu s s0 fa tr W ls ns lw bv r_ jq jr j X i' l' c' bs t f h6) ?_ ?_ ?_ ?_
  ·exact λ_ k=>k _ ([]) A' K4 X Js _ l' _ _ rfl rfl V6 Go.f L'6 (aK _) e5 rfl (aK _) (aK _) rfl
  ·intro eC G h z;refine z _ λS P A7 K7 R7 E8 i7 l7 c7 D _ _ _ G7 _ _ _ _ _ _ _=>?_
   exact .inl (gq.f G7<|by simpa using nq).b
  ·intro G h z;refine z _ λS P A7 K7 R7 E8 i7 l7 c7 D eS eP V7 G7 L7 p B v C x l=>?_
   apply cQ l;intro rr
   obtain rfl:S=[]:=by induction S using bk with|nil=>rfl|cons _ _=>exact iN eS
   rw [cI]at eP
   clear l gq V6 u6 tf E2 V5 a4 wf ef BC wt;clear z;subst eP
   haveI it:=aBZ (bs:=bs) hf
   rw [ea]at it
   haveI tx:∀g∈c7.c,eJ 1 g:=λg m=>by
    rw [v]at m
    refine aU (FO.mp m) ?_ ?_
    ·intro m;exact e2 g m
    ·intro e;clear m it x C B p L7 v z ea;subst e;exact hf
   refine(kn _ _ λ_ k=>k A7 K7 R7 E8 i7 l7 c7 (cB bs [f,.m 64 t]) _ _ _ V7 (G06.d G7) L7 ?_ tx (by have p:_<=bs.length+2:=p;exact(bb Y (.m 2 aY) [.l aB<|.m 2 Z,.l Y<|.p 2 2] U e3 p)) ?_ B ?_ (by have C:_<=l'.c.length+2:=C;exact(bb Y (.a dB<|.m 2 aY) [.l aB<|.a dB<|.m 2 Z,.l Y<|.p 2 2] U e7 C)) (by have x:_<=i'+2+2*2:=x;exact(de Y (.a aY<|.m 6 bN) [.l aI<|.a aY<|.m 6 aB,.l Y<|.a (.p 3 2)<|.m 2 dB] U e8 x)) rfl).1
   ·intro g m
    refine aU (jV.mp m) ?_ ?_
    ·intro m;exact e1 g m
    ·intro m;refine aU (dA.mp m) ?_ ?_
     ·intro e;rw [e];exact hf
     ·intro m;rw [bg.mp m]
      exact bU t ht<|.inl rfl
   ·rw [v]
    unfold dG;split
    ·exact(dF _ e4)
    ·rw [b9];exact iW e4
   ·rw [v,aB0,e6,it]
  ·intro w bo G h z;refine z _ λS P A7 K7 R7 E8 i7 l7 c7 D eS eP V7 G7 L7 p B v C x l=>?_;intro K3 I TL
   apply cQ l;intro rr
   induction S using bk with
   |nil=>exact hI eS
   |cons g S=>
    haveI cG:=(dP eS).1;haveI bT:=(dP eS).2;rw [cG];clear eS;clear z;subst bT
    haveI mg:g∈[f,.m 64 t]:=eP▸dT _ (.head _)
    have hg:eJ 1 g:=by
     refine aU (dA.mp mg) ?_ ?_
     ·intro e;clear mg I z cG eP l v gq V6 u6 tf E2 V5 a4 wf ea ef;subst e;exact hf
     ·intro m;clear mg I z cG eP gq u6 tf ea ef BC wt;obtain rfl:=bg.mp m
      exact bU t ht<|.inl rfl
    have pl:P.length<=1:=by
     haveI:=congrArg gB eP
     rw [b9]at this
     have:2=P.length+(S.length+1):=this
     exact(aV Y au [.g dB<|.a Y aY] U this)
    haveI hP:∀g∈cB bs P,eJ 1 g:=λg m=>by
     refine aU (jV.mp m) ?_ ?_
     ·intro m;exact e1 g m
     ·intro m;have m:g∈[f,.m 64 t]:=eP▸dI _ m
      refine aU (dA.mp m) ?_ ?_
      ·intro e;clear m mg I eP l v gq V6 u6 tf E2 V5 a4 wf ea ef;clear m z;subst e;exact hf
      ·intro m;clear mg I eP gq u6 tf ea ef BC wt;clear z;obtain rfl:=bg.mp m
       exact bU t ht<|.inl rfl
    have BD:[f,.m 64 t]=(P++[g])++S:=by rw [eP,d6];rfl
    haveI ei:cB bs (P++[g])=dG (cB bs P) g:=nj _ _ _
    have lp:(P++[g]).length=P.length+1:=b9
    haveI sg:dW g=.k (bH g):=rfl
    rw [sg]
    refine bK (CN L7.b (vF hg) λu m=>vF<|hP u m) ?_
    by_cases m:g∈cB bs P
    ·refine hM (by rw [decide_eq_true m];rfl) ?_
     have e0:cB bs (P++[g])=cB bs P:=by rw [ei];exact if_pos m
     exact(I _ _ λ_ k=>k S (P++[g]) A7 K7 R7 E8 i7 l7 c7 _ rfl BD V7 G7 (by rw [e0];exact L7) (by rw [e0,lp];exact(bb Y (.a Z bN) [.l Y<|.a Z aB] U p)) (by rw [e0];exact B) v (by omega) (de Y (.a kQ<|.m 2 aB) [.l Y<|.a kQ<|.m 2 aI,.l aI au,.g aB fM] U x pl lp) rfl).1
    ·refine iO (by rw [decide_eq_false m];rfl) ?_
     have e0:cB bs (P++[g])=cB bs P++[g]:=by rw [ei];exact if_neg m
     refine dE (dj L7.b)<|
       eB L7.b (by rw [ai];exact(fe [_,_,_,_,_] Y eX [.t Z bq,.t Z bq,.t aB Z,.t aB Z,.l aI<|.m 2 aB,.l Y<|.a aI bF,.l bF au] U a a d d e3 p pl)) ?_
     haveI u:am h W (.a<|(cB bs<|P++[g]).map dW) (h.set W<|.a<|(cB bs P).map dW++[.k<|bH g]):=by rw [e0,cL];exact am.d L7.b
     revert u
     generalize h.set W (.a<|(cB bs P).map dW++[.k<|bH g])=h8
     intro u
     refine fk (V7.x L7 u) λV8 L8 G8=>
       V8.a (n:=n+9) (m:=3) (yg Y qj [.t Z sH,.t aB bq,.t aB bq,.t aB bq,.t aB bq,.t aB bq,.t aB bq,.t aI aB,.t aI aB,.t aI aB,.t aI aB,.t aI aB,.t aI aB,.l bF<|.a aY<|.m 6 aI,.l Y<|.a (.p 4 2)<|.m 2 bO,.l bO au,.l bO au] U hi a a a a a a d d d d d d e8 x pl pl) (by decide) ?_
     intro h9 r9 hr9 V9 G9
     refine V9.a (n:=n+9) (m:=2) (yg aR qj [.t Z sH,.t aB bq,.t aB bq,.t aB bq,.t aB bq,.t aB bq,.t aB bq,.t aI aB,.t aI aB,.t aI aB,.t aI aB,.t aI aB,.t aI aB,.l bF<|.a aY<|.m 6 aI,.l Y<|.a (.p 4 2)<|.m 2 bO,.l bO au,.l bO au] U hi a a a a a a d d d d d d e8 x pl pl) (by decide) ?_
     intro ha' ra hra Va Ga
     haveI Jt:l7.d.length=(cB bs P).length:=by rw [<-B,ai]
     refine Va.y (n:=n) (oH hg) (by rw [B];exact m) (yg (.a Y Z) pz [.t Y<|.n 800,.t aB bq,.t aB bq,.t aI aB,.t aI aB,.l bF<|.a dB<|.m 2 aI,.l Z<|.a bF bO,.l bO au] U hs a a d d e7 C pl) (yg Y pz [.t Z bq,.t Z bq,.t aB Z,.t aB Z,.l aI<|.m 2 aB,.l bF<|.a aI bO,.l bO au,.e Y bF] U a a d d e3 p pl Jt) ?_
     intro hb Ab Kb Rb UM lb cb Vb Gb g1 g2 g3 g4 g5
     exact(I _ _ λ_ k=>k S (P++[g]) Ab Kb Rb UM _ lb cb _ rfl BD Vb ((((G7.d G8).d G9.w).d Ga.w).d Gb.w) (((L8.a G9).a Ga).a Gb) (by rw [e0,b9,lp];exact iW p) (by rw [g2,B,e0]) (g1.trans v) (jt Y (.a Z aB) [.l aI<|.a Z bF,.g aB dq,.l Y fM] U C lp g3) (de (.a aR au) (.a kQ<|.m 2 aB) [.l Y<|.a kQ<|.m 2 aI,.g aB fM,.g aB fM] U x lp lp) rfl).1
end
theorem CQ(h:eJ d f)(l:x.k 1=true)(m:y.k 1=true):eJ (d+1) (f.e [x,y]):=by
 refine aG h λa c e=>bU (a.e [x,y]) (hQ l m c) ?_;clear c h;rcases e with rfl|rfl
 ·exact .inl rfl
 exact .inr rfl
section
variable{fs bs:List Ty}
def aB5(k:Nat)(H:Hp)(R:Rl)(K:List Ty)(D m:az)(A:eW)(z B n i s I Q W X d:Nat)(C:List cC)(ns:List Nat)(e lv:cC)(c:dh)(bv:V)(fs bs:List Ty)(p lD q t:Option V)(H1:Hp)(v:List V)(G:aS)(h:Hp):Prop:=∀a:Prop,(∀(S P l:List Ty)(w x:Option V)(w0:v=S.map dW)(w1:fs=P++S)(w2:Lv h k s A K R z B n C ns m D I i e lv c)(w3:Go false k [H.length] H1 R h R)(w4:d0 h R k n H.length<|.a<|l.map dW)(w5:bs++l=cB bs (P.map<|Ty.e [e.a,e.b]))(w6:l.length<=P.length)(w7:∀f∈l,eJ (d+1) f) (w8:G=pI s n B z Q k C.length W e bv p lD q t (J<|.j X) w x (J<|.j H.length)),a)->a
theorem aB6(fJ:Lv H k s A K R la ta t ls ns eT σ s0 i a lv c)(Lf:d0 H R k t fa<|.a<|fs.map dW)(Lb:d0 H R k t ba<|.a<|bs.map dW)(h1:lv.d.map (·.1)=bs)(h2:∀f∈fs,eJ d f) (hd:d<=3) (h3:fs.length<500) (h4:bs.length<=4) (hb:∀f∈bs,eJ 1 f) (h5:lv.c.length<=6) (B:a.a.k 1=true/\a.b.k 1=true) (hi:i<60000) (hs:s0<800)
  (q:∀C A' K' I v i' x D fb l,Lv C k s A' K' I la ta t ls ns eT v s0 i' a x D->d0 C I k t fb (.a<|(bs++l).map dW)->bs++l=cB bs (fs.map<|Ty.e [a.a,a.b])->D.c=c.c->(∃ex,x.d.map (·.1)=bs++ex/\ex.Sublist l)->(∀e∈x.d,e.1∉bs->(e.2.2,e.1,e.2.1)∈D.b)->x.c.length<=7->i'<=i+2->Q (.j fb) C):
  dC (aa<|n+10) (tM.a 13) (pI s t ta la fa k ls.length tr a bv r_ lD wL wM (J<|.j ba) x16 x17 aA) H (gX Q):=by
 refine bX λH1 u1=>fk (fJ.p u1) λV1 Lr1 G1=>?_;haveI BE:=Lf.a G1;haveI UN:=Lb.a G1;haveI wa:Wt a.a:=.inl<|cS B.1;haveI wb:Wt a.b:=.inl<|cS B.2;haveI nf:fa≠H.length:=j0 Lf.g;haveI nb:ba≠H.length:=j0 Lb.g;refine fq BE.b<|fp (aB5 k H R K σ eT A la ta t i s s0 fa tr ba d ls ns a lv c bv fs bs r_ lD wL wM H1) ?_ ?_ ?_ ?_;·exact λ_ k=>k fs ([]) ([]) _ _ rfl rfl V1 Go.f Lr1 (cI _) (aK _) (λ_ m=>nomatch m) rfl
 ·intro eC G h q0;refine q0 _ λS P l i_ p _ _ _ aO _ _ _ _ _=>?_;exact .inl (BE.f aO<|by simpa using nf).b
 ·intro G h q0;refine q0 _ λS P l i_ p eS eP V2 G2 W e1 X e3 fB=>?_;apply cQ fB;intro rr;obtain rfl:S=[]:=by induction S using bk with|nil=>rfl|cons _ _=>exact iN eS
  rw [cI]at eP;clear q0 BE h2 Lf;subst eP;haveI Ju:=UN.f G2<|by simpa using nb
  have fC:∀(C:Hp)(A':eW)(K':List Ty)(I:Rl)(v:az)(i':Nat)(x:cC)(D:dh),Lv C k s A' K' I la ta t ls ns eT v s0 i' a x D->d0 C I k t ba (.a<|bs.map dW)->d0 C I k t H.length (.a<|l.map dW)->D.c=c.c->(∃ex,x.d.map (·.1)=bs++ex/\ex.Sublist l)->(∀e∈x.d,e.1∉bs->(e.2.2,e.1,e.2.1)∈D.b)->x.c.length<=7->i'<=i+2->
    dC (aa<|n+10) (tM.a 16) (pI s t ta la fa k ls.length tr a bv r_ lD wL wM (J<|.j ba) i_ p<|J<|.j H.length) C (gX Q):=by
   intro C A' K' I v i' x D V' Lb' L' f1 f2 f3 f4 f5;refine⟨rfl,aL Lb'.b ?_⟩;refine aL L'.b<|⟨by rw [ai,ai];exact(dg (.a Y Z) eX [.t aB<|.n 500,.l Y<|.n 4,.l Z aB] U h3 h4 X),bX λH8 u8=>?_⟩
   refine fk (V'.p u8) λV8 L8 G8=>?_;rw [<-cL]at L8;exact q H8 A' K' I v i' x D _ l V8 L8 e1 f1 f2 f3 f4 f5
  have z:∀e∈lv.d,e.1∉bs->(e.2.2,e.1,e.2.1)∈c.b:=λe m hn=>absurd (h1▸bc.mpr ⟨e,m,rfl⟩) hn;refine bX λH3 u3=>fk (V2.p u3) λV3 L3 G3=>?_;have UO:=Ju.a G3;have Jv:=W.a G3;refine bK (aBU Jv.b L3.b) ?_;by_cases hr:l=[];·refine hM (by rw [decide_eq_true hr];rfl)<|fC _ _ _ _ _ _ _ _ V3 UO Jv rfl ⟨[],by rw [cI];exact h1,Rj _⟩ z (cY h5) (dF _<|aK _)
  refine iO (by rw [decide_eq_false hr];rfl)<|V3.a (n:=n+9) (m:=2) (ae hi) (by decide) ?_;intro H4 r4 EW V4 G4;haveI UP:=UO.a G4;haveI Jw:=Jv.a G4;by_cases h0:(r4:Int)=0
  ·refine jC h0<|
     gR Jw.b rfl (by rw [ai];exact(ae<|cN X h3)) ?_
   rw [ai];haveI pos:0<l.length:=List.length_pos_iff.mpr hr;refine V4.a (n:=n+9) (m:=l.length) (bA aR qj [.t Y<|.n 60000] U hi) ⟨pos,(ae<|cN X h3)⟩ ?_;intro H5 r5 UQ V5 G5;haveI Lb5:=UP.a G5;haveI UR:=Jw.a G5;have g5:=f7 UQ;generalize l[r5]=f at g5;have mf:f∈l:=dU g5;refine du UR.b (by rw [jJ,g5];rfl) (ae<|ae (bz UQ X) h3) ?_;haveI E9:bs.Nodup:=h1▸V5.I.q;haveI nda:(bs++l).Nodup:=e1▸sn E9;haveI nin:f∉bs:=λm=>(iu.mp nda).2.2 f m f mf rfl;haveI Jt:lv.d.length=bs.length:=by rw [<-h1,ai]
   refine V5.y (n:=n) (wv:=0) (oH (e3 f mf)<|cN hd) (by rw [h1];exact nin) (be (.a Y Z) pz [.l Z fh,.t Y<|.n 800] U h5 hs) (cN<|mZ Jt h4) ?_;intro H6 A6 K6 R6 σ6 l6 c6 V6 G6 g1 g2 g3 g4 g5;refine aG (g5 rfl) λb b1 b2=>fC H6 A6 K6 R6 σ6 _ l6 c6 V6 (Lb5.a G6) (UR.a G6) g1 ⟨[f],by rw [g2,h1],List.singleton_sublist.mpr mf⟩ ?_ (aV Y (.n 7) [.l Z fh,.l Y aY] U h5 g3) (cA (.a aR au) cm [] U);intro e me hn;rw [b2]at me;refine aU (eO.mp me) ?_ ?_;·intro me;exact g4 _<|z e me hn
   intro me;rw [bg.mp me];exact b1
  refine dt h0<|fC _ _ _ _ _ _ _ _ V4 UP Jw rfl ⟨[],by rw [cI];exact h1,Rj _⟩ z (cY h5) (bP _<|aK _)
 intro w bo G h q0;refine q0 _ λS P l i_ p eS eP V2 G2 W e1 X e3 fB=>?_;intro K3 kn kr;apply cQ fB;intro rr;induction S using bk with
 |nil=>exact hI eS|cons f S=>
  refine on (dP eS) λcG bT=>?_;rw [cG];clear eS q0;subst bT;haveI mf:f∈fs:=eP▸dT _ (.head _);have ff:=h2 f mf;haveI sf:dW f=.k (bH f):=rfl;rw [sf];haveI Ju:=UN.f G2<|by simpa using nb
  refine uz (n:=n+9) (vF ff<|cY hd) (jf wa) (jf wb) ?_;have fx:=CQ ff B.1 B.2;have wx:=vF fx<|cN hd;have BD:fs=(P++[f])++S:=by rw [eP,d6];rfl
  have ei:cB bs ((P++[f]).map<|Ty.e [a.a,a.b])=dG (bs++l) (f.e [a.a,a.b]):=by rw [cL,nj,e1];rfl
  have lp:(P++[f]).length=P.length+1:=b9;refine bK (CN Ju.b wx λu m=>vF<|hb u m) ?_;have fS:f.e [a.a,a.b]∈bs++l->∀p,K3 .a (pI s t ta la fa k ls.length tr a bv r_ lD wL wM (J<|.j ba) (J<|.k<|bH f) p<|J<|.j H.length) h:=λm p=>(kn _ _ λ_ k=>k S (P++[f]) l _ _ rfl BD V2 G2 W (by rw [ei];exact(if_pos m).symm) (cM X lp) e3 rfl).1;by_cases m1:f.e [a.a,a.b]∈bs;·refine hM (by rw [decide_eq_true m1];rfl)<|fS (dI _ m1) _
  refine iO (by rw [decide_eq_false m1];rfl)<|bK (CN W.b wx λu m=>vF (e3 u m)<|cN hd) ?_;by_cases m2:f.e [a.a,a.b]∈l;·refine hM (by rw [decide_eq_true m2];rfl)<|fS (dT _ m2) _
  refine iO (by rw [decide_eq_false m2];rfl) ?_;haveI gO:P.length<500:=by haveI:=congrArg gB eP;rw [b9]at this;exact(dg Y (.n 500) [.t Z<|.n 500,.g Z<|.a Y aB] U h3 this)
  refine dE (dj W.b)<|eB W.b (by rw [ai];exact(ae<|cN X gO)) ?_;haveI u:am h H.length (.a<|(l++[f.e [a.a,a.b]]).map dW) (h.set H.length<|.a<|l.map dW++[.k<|bH<|f.e [a.a,a.b]]):=by rw [cL];exact am.d W.b
  revert u;generalize h.set H.length (.a<|l.map dW++[.k<|bH<|f.e [a.a,a.b]])=h4;intro u;refine fk (V2.x W u) λV4 L4 G4=>(kn _ _ λ_ k=>k S (P++[f]) (l++[f.e [a.a,a.b]]) _ _ rfl BD V4 (G2.d G4) L4 ?_ (by rw [b9,lp];exact iW X) ?_ rfl).1;·rw [ei,show dG (bs++l) (f.e [a.a,a.b])=bs++l++[f.e [a.a,a.b]]from if_neg λm=>(eO.mp m).elim m1 m2,d6]
  intro g m;refine aU (eO.mp m) ?_ ?_;·intro m;exact e3 g m
  intro m;rw [bg.mp m];exact fx
end
set_option backward.match.sparseCases false
noncomputable def dD(a:az)(d:List cC):Nat->List Ty|0=>[]|n+1=>match d[n]?,a.b (66+n)with|some l,J c=>cB []<|c.c.flatMap cq++(dD a d n).map (Ty.e [l.a,l.b])|_,_=>[]
structure fy(σ:az)(ls:List cC)(n:Nat)(l:cC)(c:dh):Prop where
 a:σ.b (66+n)=J c
 s:c.d=1
 G:c.f=0
 C:c.g=2
 B:c.e=J (if n=0 then .l 12 else .o (66+(n-1)) l.a l.b)
 w:c.a=l.c.map (·.1)
 b:∀x∈l.c,vD σ n 3 x
 D:(l.c.map (·.1)).Nodup
 d:∀e∈c.b,(e.2.1,e.2.2,e.1)∈l.d/\(e.1,[101],fH e.2.1,true)∈l.c
 H:(c.b.map λe=>e.2.1).Sublist<|l.d.map (·.1)
 g:∀e∈l.d,vB l.c c.b e
 E:(l.d.map (·.1)).Nodup
 k:l.a.k 1=true/\l.b.k 1=true
 v:∀f∈c.c,eJ 1 f
 r:c.c.length<=2
 y:∀f∈c.c.flatMap cq,f∈l.d.map (·.1)
 A:(l.d.map (·.1)).Sublist<|dD σ ls<|n+1
 I:∀e∈l.d,e.1∉c.c.flatMap cq->(e.2.2,e.1,e.2.1)∈c.b
 F:l.c.length<=7
structure pJ(σ:az)(ls:List cC):Prop where
 F:jR σ
 j:σ.d 1=J ⟨64,[109],14,.j 0⟩
 k:σ.d 2=J ⟨65,[106],14,.j 0⟩
 o:∃c,σ.b 1=J c/\c.d=1/\c.f=0/\c.e=aA/\c.c=[]/\c.a=[]/\c.b=[]
 p:σ.g.length=66+ls.length
 i:∀n l,ls[n]?=J l->∃c,fy σ ls n l c
 d:3<=σ.a.length/\σ.a.length<=3+7*ls.length
 q:ls.length<=3
section
theorem vG(h:a[n]?=J l)(e:d.b (66+n)=J c):dD d a (n+1)=cB [] (c.c.flatMap cq++(dD d a n).map (Ty.e [l.a,l.b])):=by show(match a[n]?,d.b (66+n)with|some l,J c=>_|_,_=>_)=_;rw [h,e]
theorem GH(e:∀i,i<66+a.length->d.b i=m.b i):∀{n:Nat},n<=a.length->dD d (a++[l']) n=dD m a n|0,_=>rfl|n+1,h=>by haveI p:=GH e (l':=l')<|AO h;haveI q:(a++[l'])[n]?=a[n]?:=jL h;refine(?_:(match(a++[l'])[n]?,d.b (66+n)with|some l,J c=>cB [] (c.c.flatMap cq++(dD d (a++[l']) n).map (Ty.e [l.a,l.b]))|_,_=>[])=_);rw [q,e _<|be (.a cg Y) (.a cg Z) [.l aR Z] U h,p];rfl
theorem fy.T(L:fy p m n l c)(q:n<m.length)(t:∀i,i<66+m.length->e.b i=p.b i) (hm:∀j x,p.d j=J x->e.d j=J x):fy e (m++[z]) n l c:=
 ⟨(t _<|be (.a cg Y) (.a cg Z) [.t Y Z] U q).trans L.a,L.s,L.G,L.C,L.B,L.w,λx h=>(L.b x h).e hm,L.D,L.d,L.H,L.g,L.E,L.k,L.v,L.r,L.y,by rw [GH t q];exact L.A,L.I,L.F⟩
theorem CR:∀{b a:List Ty},(cB a b).length<=a.length+b.length
 |[],_=>aK _|y::b,a=>by
  haveI:=CR (a:=dG a y) (b:=b);have:(dG a y).length<=a.length+1:=by
   unfold dG;split;·exact(dF _<|aK _)
   rw [b9];exact aK _
  exact dN (CR (a:=dG a y) (b:=b))<|bb (.a Y aB) (.a Z bN) [.l Y aY] U this
theorem aB7(t:Ty):(cq t).length<=2:=FP t
theorem M_(h:eJ d f)(m:g∈cq f):eJ d g:=by
 obtain⟨a,c,rfl|rfl⟩:=h;·rw [bg.mp m];exact bU a c<|.inl rfl
 rcases dA.mp m with rfl|m;·exact bU a c<|.inr rfl
 rw [bg.mp m];exact bU a c<|.inl rfl
theorem GI:∀{is:List Ty},(is.flatMap cq).length<=2*is.length|[]=>aK _|t::is=>by rw [kc,b9,rV];exact bb (.a Y Z) (.m 2 bN) [.l Y dB,.l Z<|.m 2 aB] U (aB7 t)<|GI (is:=is)
theorem pJ.r(I:pJ t a):∀{n:Nat},n<=a.length->(∀f∈dD t a n,eJ n f)/\(Mine.dD t a n).length<=4*n/\(Mine.dD t a n).Nodup
 |0,_=>⟨(λ_ m=>nomatch m),aK _,fU⟩|n+1,h=>by
  refine fk (I.r<|AO h) λw x z=>?_;haveI e:=f7 h;generalize a[n]=l at e;refine oE (I.i n l e) λc L=>?_;rw [vG e L.a];refine⟨λf m=>?_,?_,sn fU⟩
  ·refine aU (jV.mp m) ?_ ?_
   ·intro m;exact bR m
   intro m;refine aU (eO.mp m) ?_ ?_;·intro m;refine aG (rU.mp m) λg m1 m2=>?_;exact oH (M_ (L.v g m1) m2)<|cA au aR [] U
   intro m;refine aG (bc.mp m) λg m1 v=>?_;rw [<-v];exact CQ (w g m1) L.k.1 L.k.2
  haveI:=CR (a:=[]) (b:=c.c.flatMap cq++(Mine.dD t a n).map (Ty.e [l.a,l.b]));rw [b9,ai]at this;exact jt Y (.m 4 aY) [.l Y<|.a bQ<|.a aB aI,.l aB<|.m 2 bF,.l bF dB,.l bF dB,.l aI<|.m 4 Z] U this (GI (is:=c.c)) L.r L.r x
end
section
theorem d0.j(L:d0 H R k q x o)(l:x<p)(u:am H t z v)(w:R t=J .g):d0 v (R.a m p) k q x o:=by
 refine⟨u.a _ _ L.b λe=>?_,?_,L.c,L.i⟩;·haveI:=L.d;rw [e,w]at this;exact iC this
 unfold Rl.a;rw [if_neg<|aj l,if_neg<|aj<|bP _<|jB l];exact L.d
set_option maxHeartbeats 1000000 in
theorem aB8(W:Lw H k P A K R la ta X p i ns)(I:pJ P p)(hl:p.length<=2)(Lf:d0 H R k X fa<|.a<|(dD P p p.length).map dW)(hi:i<40000)
  (q:∀H' A' K' R' gf i' l fb,Lw H' k gf A' K' R' la ta X (p++[l]) i' ns->A'.s=A.s->pJ gf (p++[l])->d0 H' R' k X fb (.a<|(dD gf (p++[l])<|p.length+1).map dW)->i'<=i+25->Q (.j fb) H'):
  aa (n+11) 76 [.j A.s,.j X,.j ta,.j la,.j fa] H Q:=by
 refine ce (fn:=QV) rfl rfl ?_;intro rr;refine aL W.B.W.b.b<|gR W.L.b rfl (by rw [ai];exact(cN hl)) ?_;rw [ai];refine bX λH1 u1=>?_;haveI W1:=W.I u1;have Jx:d0 H1 R k X H.length (.a<|T8.map dW):=W.N u1;haveI BE:d0 H1 R k X fa _:=Lf.a<|Go.f.n u1;have BB:∀(H2:Hp)(K2:List Ty)(i2:Nat)(a b:Ty)(bv:V),Lw H2 k P A K2 R la ta X p i2 ns->Go false k [] H1 R H2 R->i2<=i+2->a.k 1=true->b.k 1=true->At K2 bv (if p.length=0 then .l 12 else .o (66+(p.length-1)) a b)->
   dC (aa<|n+10) (tM.a 6) [J<|.j A.s,J<|.j X,J<|.j ta,J<|.j la,J<|.j fa,J<|.j k,J<|.d (p.length:Nat),J<|.j H.length,J<|gJ a b,J bv,aA,aA,aA,aA,aA,aA,aA,aA,aA] H2 (gX Q):=by
  intro H2 K2 i2 a b bv W2 G2 h2 US UT abv;haveI Jr:=Jx.a G2;haveI Lf2:=BE.a G2;refine bX λH3 u3=>?_;have W3:=W2.I u3;haveI L3:=W2.N u3;have G3:Go false k [] H2 R H3 R:=Go.f.n u3;haveI sz:=W3.B.W.b.g;haveI gO:=I.p;refine GC (n:=n+7) (so:=1) (nm:=[67]) (bv:=bv) (base:=J _) W3.B (.inl rfl) (.inr ⟨_,rfl,abv⟩) rfl L3.b L3.d (.inr L3.c) (show 2<1000 by decide) (by omega) ?_;intro t A4 R4 B4 eA4 G4;haveI W4:=W3.M B4 G4;haveI UU:=(Jr.a G3).a G4.v;haveI UV:=(Lf2.a G3).a G4.v;refine bX λH5 u5=>?_;haveI W5:=W4.I u5;haveI Lp5:=W4.N u5;haveI Lt5:=UU.a<|Go.f.n u5;haveI Lf5:=UV.a<|Go.f.n u5;refine bX λH6 u6=>?_;have W6:=W5.I u6;haveI Ea:=W5.N u6;haveI l5:=u5.c;haveI l6:=u6.c;haveI Eb:=Lp5.a<|Go.f.n u6;haveI Lt6:=Lt5.a<|Go.f.n u6;haveI Lf6:=Lf5.a<|Go.f.n u6;haveI l4t:=UU.g;haveI l4f:=UV.g;rw [l5]at Ea;haveI eL:(p++[(⟨a,b,[],[],t.length,t.length+1⟩:cC)]).map fG=p.map fG++[V.m [gJ a b,.j t.length,.j<|t.length+1]]:=by rw [cL];rfl
  rw [show H5.length=t.length+1 from l5];refine dE (dj W6.L.b)<|eB W6.L.b (by rw [ai];exact(cN hl)) ?_;have u7:am H6 la (.a<|(p++[(⟨a,b,[],[],t.length,t.length+1⟩:cC)]).map fG) (H6.set la<|.a<|p.map fG++[V.m [gJ a b,.j t.length,.j<|t.length+1]]):=by rw [eL];exact am.d W6.L.b
  revert u7;generalize H6.set la (.a<|p.map fG++[V.m [gJ a b,.j t.length,.j<|t.length+1]])=H7;intro u7;haveI W7:=W6.X (p:=t.length) (l:=⟨a,b,[],[],t.length,t.length+1⟩) Eb.d Ea.d ⟨Eb.c,(Ki l5 l6)⟩ ⟨iX Eb.i,iX Ea.i⟩ Eb.b Ea.b rfl rfl rfl rfl u7;have Jy:=Lt6.j (m:=p.length) l4t u7 W6.f;haveI UW:=Lf6.j (m:=p.length) l4f u7 W6.f;haveI cn:(P.k<|ju 1 2<|J (if p.length=0 then .l 12 else .o (66+(p.length-1)) a b)).b (66+p.length)=J (ju 1 2<|J (if p.length=0 then .l 12 else .o (66+(p.length-1)) a b)):=by rw [zP,if_pos gO.symm]
  haveI I7:LI (P.k<|ju 1 2<|J (if p.length=0 then .l 12 else .o (66+(p.length-1)) a b)) p.length P.a.length ⟨a,b,[],[],t.length,t.length+1⟩ (ju 1 2<|J (if p.length=0 then .l 12 else .o (66+(p.length-1)) a b)):=
   ⟨cn,rfl,rfl,rfl,rfl,rfl,(λ_ m=>nomatch m),fU,rfl,by have:=I.d.1;exact(bz (by decide) this),(λ_ m=>nomatch m),Ri _,(λ_ m=>nomatch m),fU⟩
  haveI V7:Lv H7 k A.s A4 K2 (R4.a p.length t.length) la ta X p ns _ _ P.a.length i2 ⟨a,b,[],[],t.length,t.length+1⟩ _ _:=⟨W7,eA4,I7,oG.g,rfl,rfl,rfl,rfl⟩
  clear I7 W7;refine bX λH8 u8=>fk (V7.p u8) λV8 Lh8 G8=>?_;haveI UX:=Jy.a G8;haveI Lf8:=UW.a G8;haveI mls:=I.d.2;refine aBY (n:=n) V8 UX Lh8 (j0 Jy.g) rfl rfl (be Y sH [.t Z<|.n 40000,.l Y kQ] U hi h2) (by omega) ?_;intro H9 A9 K9 R9 σ9 i9 l9 c9 iZ jq jr V9 e1 e2 e3 e4 G9;haveI UY:=UX.f G9 (by have:=Jy.g;simpa using j0 this);haveI UZ:=Lf8.f G9 (by have:=UW.g;simpa using j0 this);refine bX λHa ua=>fk (V9.p ua) λVa Lba Ga=>aB4 (n:=n) Va (UY.a Ga) Lba (j0 UY.g) e3 e1 e2 (dg Y sH [.t Z<|.n 40000,.l aB kQ,.l Y<|.p 2 5] U hi h2 e4) (by omega) ?_;intro Hb Ab Kb Rb UM ib lb cb bs mc Bl Bm Vb Lbb g1 g2 g3 g4 g5 g6 g7 g8 Gb;haveI Lfb:=(UZ.a Ga).f Gb (by have:=UZ.g;simpa using j0 this);refine fk (I.r<|aK _) λf1 f2 _=>aB6 (n:=n) (d:=p.length) Vb Lfb Lbb g1 f1 (cY hl) (be Y (.n 500) [.l Z dB,.l Z dB,.l Z dB,.l Z dB,.l Y<|.m 4 Z] U hl hl hl hl f2) g6 g3 g7 ⟨US,UT⟩ (jA Y (.n 60000) [.t Z<|.n 40000,.l aB kQ,.l aI<|.p 2 5,.l Y<|.p 3 13] U hi h2 e4 g8) (by omega) ?_;intro Hc Ac Kc Rc B ic lc cc fb rs Vc Lfc k1 k2 k3 k4 k5 k6;have v:=Vc.I;haveI Jz:=Vc.j;haveI lnc:B.g.length=66+(p.length+1):=by rw [Jz.d];rw [b9,gO];rfl
  have w:∀j,j<66+p.length->B.b j=P.b j:=λj C=>by rw [Jz.a j<|aj C,zP,if_neg<|aj<|eY C gO]
  have D:∀j x,P.d j=J x->B.d j=J x:=λj x h=>Jz.b j x h;refine qo Vc.d λEc Ed _ _=>?_;haveI Ec:lc.a=a:=Ec;haveI Ed:lc.b=b:=Ed;have fN:dD B (p++[lc]) (p.length+1)=bs++rs:=by rw [vG CP v.d,GH w<|aK _,nj,k2,g2,Ec,Ed];exact k1.symm
  have mb:∀f,f∈cc.c.flatMap cq↔f∈bs:=λf=>by rw [k2,<-g2,jV];simp
  refine q Hc Ac Kc Rc B ic lc fb Vc.W Vc.g ⟨?_,D _ _ I.j,D _ _ I.k,?_,?_,?_,?_,?_⟩ (by rw [fN];exact Lfc)<|jt Y (.p 1 25) [.l aB kQ,.l aI<|.p 2 5,.l bF<|.p 3 13,.l Y<|.p 4 2] U h2 e4 g8 k6;·refine aG I.F.i λci r7 h1=>aG I.F.j λcj qf h2=>⟨⟨ci,(w _<|bA (.n 64) (.a cg Y) [] U).trans r7,h1⟩,⟨cj,(w _<|bA (.n 65) (.a cg Y) [] U).trans qf,h2⟩⟩
  ·refine aG I.o λco ho h1=>bU co ((w _<|bA au (.a cg Y) [] U).trans ho) h1
  ·rw [lnc,b9];rfl
  ·intro j l C;refine aU (fV j p.length) ?_ ?_;·intro z;rw [jL z]at C;refine oE (I.i j l C) λc L=>⟨c,L.T z w D⟩
   intro z;haveI z':j<(p++[lc]).length:=by
     refine aU (fV j (p++[lc]).length) ?_ ?_;·intro y;exact y
     intro y;rw [ey y]at C;exact aX C
   rw [b9]at z';have:j=p.length:=by have:[lc].length=1:=rfl;exact(bj (bb Y Z [.t Y<|.a Z aB,.e aB au] U z' this)<|aV Y Z [.l Y Z] U z)
   clear z';subst this;rw [CP]at C;(replace C:=ao C;subst C);refine aG k3 λex U0 k3b=>⟨cc,v.d,v.t,v.v,v.y,v.A,v.k,λx h=>⟨(v.g x h).a,(v.g x h).f,(v.g x h).d,by haveI:=(v.g x h).b;haveI:=I.d.1;omega⟩,v.B,v.j,v.p,v.C,v.q,?_,?_,?_,?_,?_,?_,k5⟩
   ·rw [Ec,Ed];exact⟨US,UT⟩
   ·rw [k2];exact g4
   ·rw [k2];exact g5
   ·intro f m;rw [U0];exact dI _<|(mb f).mp m
   ·rw [fN,U0];exact(Ri _).append k3b
   exact λe m hn=>k4 e m λz=>hn<|(mb _).mpr z
  ·have:(p++[lc]).length=p.length+1:=b9;haveI:=v.i;haveI:=I.d.1;omega
  have:(p++[lc]).length=p.length+1:=b9;exact(aV Y bq [.l Z dB,.e Y aY] U hl this)
 by_cases h0:p.length=0
 ·refine dt (show ¬((p.length:Nat):Int)>0 from(AM.mpr<|AI.mpr<|cA Y bQ [.e Y bQ] U h0))<|
    BB H1 K i (.j 0) (.j 1) (.d 12) W1 Go.f (dF _<|aK _) rfl rfl ?_
  rw [if_pos h0];exact At.d W1.B.W.c.a (i:=12)<|by decide
 refine jC (show((p.length:Nat):Int)>0 from(fT.mpr<|bA bQ Y [.t bQ Y] U<|nF h0))<|CM (n:=n+9) (m:=8) W1 (ae hi) (by decide) ?_;intro H2 r2 pj W2 G2;refine CO (Jx.a G2).b pj λa ha=>CM (n:=n+9) (m:=8) W2 (bA aR qj [.t Y<|.n 40000] U hi) (by decide) ?_;intro H3 r3 E1 W3 G3;refine CO ((Jx.a G2).a G3).b E1 λb hb=>?_;haveI e1:((p.length:Nat):Int)-1=((p.length-1:Nat):Int):=yx<|nF h0;refine(?_:aa (n+10) 71 [.j k,.d<|((p.length:Nat):Int)-1,gJ a b] H3 _);rw [e1];refine CI (n:=n+1) W3.B.W.c (cS ha) (cS hb) (be Y (.n 14) [.l Z dB,.e aR Z] U hl<|bY<|cA au Y [.t bQ Y] U<|nF h0) ?_;intro t K4 v4 N4 a4;refine BB t K4 (i+1+1) a b v4 (W3.E N4) ((G2.d G3).d<|Go.s N4) (cA (.a aR au) cm [] U) ha hb ?_;rw [if_neg h0];exact a4
end
set_option backward.match.sparseCases true
theorem rB:∀{t:Ty},(t.e [A,B]).e [x,y]=t.e [A.e [x,y],B.e [x,y]]|.j 0=>rfl|.j 1=>rfl|.j (n+2)=>rfl|.l _=>rfl|.u _=>rfl|.r t=>congrArg Ty.r<|rB (t:=t)|.m c t=>congrArg (Ty.m c)<|rB (t:=t)|.o c s t=>by refine(?_:Ty.o c _ _=Ty.o c _ _);rw [rB (t:=s),rB (t:=t)]
theorem jv:∀{t:Ty},t.e [.j 0,.j 1]=t|.j 0=>rfl|.j 1=>rfl|.j (n+2)=>rfl|.l _=>rfl|.u _=>rfl|.r t=>congrArg Ty.r<|jv (t:=t)|.m c t=>congrArg (Ty.m c)<|jv (t:=t)|.o c s t=>by refine(?_:Ty.o c _ _=Ty.o c _ _);rw [jv (t:=s),jv (t:=t)]
theorem vH{t:Ty}(h:t.k d=true):t.w 2=true:=by
 induction d generalizing t with
 |zero=>induction t using Ty.casesOn with
  |l n=>rfl|j n=>rcases rA.2 n h with q|q|q|q<;>cases q<;>rfl
  |_=>exact ft h
 |succ d a=>induction t using Ty.casesOn with
  |l n=>rfl|j n=>rcases rA.2 n h with q|q|q|q<;>cases q<;>rfl
  |r t=>exact a (t:=t) h|_=>exact ft h
theorem sp{t:Ty}(h:t.k d=true):t.v<=d:=by
 induction d generalizing t with
 |zero=>induction t using Ty.casesOn with|l n=>exact aK _|j n=>exact aK _|_=>exact ft h
 |succ d a=>induction t using Ty.casesOn with|l n=>exact jI _|j n=>exact jI _|r t=>exact iW<|a (t:=t) h|_=>exact ft h
theorem M':∀{L B:List Ty},cB A ((cB B L).map f)=cB A ((B++L).map f)
 |[],B=>by rw [cI];rfl|y::L,B=>by
  refine(?_:cB A ((cB (dG B y) L).map f)=_);rw [M' (B:=dG B y)];unfold dG;split;·rename_i m;rw [cL,cL,nj,nj];refine(?_:_=cB (dG _<|f y) (L.map f));rw [show dG (cB A<|B.map f) (f y)=cB A (B.map f)from if_pos<|jV.mpr<|.inr<|bc.mpr ⟨y,m,rfl⟩]
  rw [d6];rfl
theorem NH:∀{L A:List Ty},(A++L).Nodup->cB A L=A++L|[],A,_=>(cI A).symm|y::L,A,h=>by haveI n:y∉A:=λm=>(iu.mp h).2.2 y m y (.head _) rfl;refine(?_:cB (dG A y) L=_);rw [show dG A y=A++[y]from if_neg n];rw [NH (A:=A++[y])<|by rw [d6];exact h,d6];rfl
theorem aB9(h:eJ d f):cq (f.e c)=(cq f).map (Ty.e c):=by obtain⟨a,-,rfl|rfl⟩:=h<;>rfl
section
noncomputable def dH:Ty×Ty:=(.j 0,.j 1)
noncomputable def xR(x y:Ty)(p:Ty×Ty):Ty×Ty:=(p.1.e [x,y],p.2.e [x,y])
theorem aCa:jg a p (xR x y q)=xR x y (jg a p q):=by
 unfold jg;induction a[p]? with
 |none=>rfl|some l=>refine(?_:(_,_)=(_,_));rw [rB,rB];rfl
theorem NI:dZ a up bD (x,y)=xR x y (dZ a up bD dH):=by
 haveI c:∀(L:List Nat)(q:Ty×Ty),L.foldl (λd i=>jg a (bD-i) d) (xR x y q)=xR x y (L.foldl (λd i=>jg a (bD-i) d) q):=by
  intro L;induction L with
  |nil=>intro q;rfl|cons i L e=>intro q;refine(?_:L.foldl _ (jg a (bD-i)<|xR x y q)=_);rw [aCa];exact e _
 exact c _ dH
theorem sq:dZ c bD bD a=a:=by unfold dZ;rw [lX];rfl
theorem NJ(h:up<bD):dZ a up bD c=jg a (up+1) (dZ a (up+1) bD c):=by
 unfold dZ;haveI e:bD-up=(bD-(up+1))+1:=(bj (de Y aY [.e (.a Y aB) aI,.g (.a Z bN) aI] U (bY<|aV Y Z [.t Y Z] U h)<|bY<|aV aR Z [.t Y Z] U h)<|de aR Z [.g (.a Z aB) aI,.e (.a Y bN) aI] U (bY<|aV Y Z [.t Y Z] U h)<|bY<|aV aR Z [.t Y Z] U h)
 rw [e,kg,oW];refine(?_:jg a (bD-(bD-(up+1))) _=_);rw [Nat.sub_sub_self h]
theorem zQ(c:∀l∈a,l.a.k 1=true/\l.b.k 1=true) (v:x.k d=true) (w:y.k d=true):(dZ a up bD (x,y)).1.k (d+(bD-up))=true/\(dZ a up bD (x,y)).2.k (d+(bD-up))=true:=by
 unfold dZ;generalize bD-up=m;induction m with
 |zero=>exact⟨v,w⟩|succ m t=>
  rw [kg,oW];refine(?_:(jg a (bD-m) _).1.k _=true/\(jg a (bD-m) _).2.k _=true);haveI n:=t.1;haveI p:=t.2;generalize(cF m).foldl (λz i=>jg a (bD-i) z) (x,y)=q at n p;unfold jg;induction e:a[bD-m]? with
  |none=>exact⟨cS n<|aV (.a Y Z) (.a Y aY) [] U,cS p<|aV (.a Y Z) (.a Y aY) [] U⟩|some l=>haveI A:=(c l<|dU e).1;haveI B:=(c l<|dU e).2;haveI C:=hQ n p A;haveI D:=hQ n p B;rw [show d+(m+1)=1+(d+m)from(bj (aV (.a Y aY) (.a au<|.a Y Z) [] U)<|aV (.a au<|.a Y Z) (.a Y aY) [] U)];exact⟨C,D⟩
noncomputable def cX(c:List cC)(a:Nat)(d:Ty×Ty)(n:Nat):Ty:=.o (66+n) (dZ c n a d).1 (dZ c n a d).2
noncomputable def dn(c:List cC)(a:Nat)(d:Ty×Ty):Nat->List Ty|0=>[.l 12]|n+1=>cX c a d n::dn c a d n
theorem zR:∀{n:Nat},(dn c a d n).reverse=.l 12::(cF n).map (cX c a d)|0=>rfl|n+1=>by rw [jn,zR,kg,cL];rfl
theorem sw:∀{n:Nat},(dn c a d n).length=n+1|0=>rfl|n+1=>congrArg (· +1) sw
theorem s_:∀{n:Nat},t∈dn c a d n->t=.l 12\/∃j,j<n/\t=cX c a d j
 |0,h=>.inl<|bg.mp h|n+1,h=>by
  refine aU (dA.mp h) ?_ ?_;·intro h;exact .inr ⟨n,tc _,h⟩
  intro h;refine aU (s_ h) ?_ ?_;·intro h;exact .inl h
  refine λe=>aG e λj l m=>?_;exact .inr ⟨j,x_ l,m⟩
theorem CT:cX ls n dH n=cr (66+n):=by unfold cX;rw [sq];rfl
theorem aCb:cX c a (x,y) n=(cX c a dH n).e [x,y]:=by unfold cX;rw [NI];rfl
end
structure Pl(σ:az)(ls:List cC):Prop where
 F:jR σ
 m1:σ.d 1=J ⟨64,[109],14,.j 0⟩
 m2:σ.d 2=J ⟨65,[106],14,.j 0⟩
 ob:∃c,σ.b 1=J c/\c.d=1/\c.f=0/\c.e=aA/\c.c=[]/\c.a=[]/\c.b=[]
 G:∀n l,ls[n]?=J l->∃c,fy σ ls n l c
 A:ls.length<=3
section
theorem pJ.s(I:pJ a c):Pl a c:=⟨I.F,I.j,I.k,I.o,I.i,I.q⟩
theorem Pl.av(P:Pl a c):qD a:=⟨⟨_,P.m1,rfl,rfl,rfl⟩,⟨_,P.m2,rfl,rfl,rfl⟩⟩
theorem Pl.W(P:Pl e a):∀l∈a,l.a.k 1=true/\l.b.k 1=true:=λl m=>by refine oE (mM m) λn d=>?_;refine oE (P.G n l d) λc L=>L.k
theorem Pl.C(P:Pl d a)(h:n<a.length):X2 λl c=>A2 (a[n]?=J l) (fy d a n l c):=by haveI e:=f7 h;refine oE (P.G n _ e) λc L=>yr _ c e L
theorem CU(h:eJ d f)(hd:d<=4)(m:X.k 4=true)(n:c.k 4=true):jQ [X,c] f:=by have w:dY f:=oH h<|cY hd;refine Mi w<|aG h λa l e=>⟨a.e [X,c],cS (hQ m n l)<|cA fZ iG [.l Y<|.n 4] U hd,by clear l w h;rcases e with rfl|rfl;exact .inl rfl;exact .inr rfl⟩
theorem aCc{t:Ty}(h:t.k d=true)(hd:d<=4)(c:X.k 4=true)(e:a.k 4=true):jQ [X,a] t:=
 ⟨vH h,(Bs (hQ c e h)<|cA fZ iG [.l Y<|.n 4] U hd).1,by haveI:=sp h;exact(cY<|aH this hd)⟩
theorem fy.K(L:fy m p n l c)(h:e∈c.b):eJ 4 e.2.1:=(L.g _ (L.d e h).1).a
theorem fy.M(L:fy σ ls n l c)(hn:n<3)(q:X.k 4=true)(t:p.k 4=true):eZ σ (.o (66+n) X p) c:=by
 refine⟨L.a,.inr ⟨_,rfl⟩,λu x=>?_,λf m=>CU (L.v f m) (by decide) q t,λe m=>CU (L.K m) (aK _) q t,by haveI:=L.r;exact(cN this)⟩;rw [L.B]at x
 (replace x:=ao x;subst x)
 split;·exact⟨rfl,rfl,jI _⟩
 haveI z:=L.k.1;haveI W:=L.k.2;refine⟨?_,?_,?_⟩;·refine(?_:(l.a.w 2&&l.b.w 2)=true);rw [vH z,vH W];rfl
 ·refine(?_:(aJ (66<=66+(n-1))&&aJ (66+(n-1)<80)&&(l.a.e [X,p]).k 8&&(l.b.e [X,p]).k 8)=true);rw [cS<|hQ q t z,cS<|hQ q t W,decide_eq_true<|jZ 66<|n-1,decide_eq_true (lW (DM (lV (j3 n 1) hn) 66) (by decide):66+(n-1)<80)];rfl
 exact aV (.a (.a Y Z) au) js [.l Y au,.l Z au] U (sp z)<|sp W
theorem Pl.ac(P:Pl m v):∃c,A7 (eZ m (.l 12) c) (c.d=1) (c.f=0) (c.e=aA) (c.c=[]) (c.a=[]) (c.b=[]):=by refine Ep P.ob λc n p q d a t l=>⟨c,⟨n,.inl rfl,(λu e=>by rw [d]at e;exact aX e),(λu e=>by rw [a]at e;exact bR e),(λu e=>by rw [l]at e;exact bR e),by rw [a];decide⟩,p,q,d,a,t,l⟩
theorem fy.N(L:fy m p n l c):m.e (.o (66+n) X e)=l.c.map (·.1):=by
 have:m.e (.o (66+n) X e)=c.a:=by unfold az.e;rw [show(Ty.o (66+n) X e).s=66+n from rfl,L.a];rfl
 rw [this,L.w]
theorem Pl.N(P:Pl a l):a.e (.l 12)=[]:=by refine Ep P.ob λc d m n p q e t=>?_;unfold az.e;rw [show(Ty.l 12).s=1 from rfl,d];exact e
theorem fy.O(L:fy m p n l c):m.f (.o (66+n) X e)=c.c.map (Ty.e [X,e]):=by unfold az.f;rw [show(Ty.o (66+n) X e).s=66+n from rfl,L.a];rfl
theorem Pl.ag(P:Pl a l):a.f (.l 12)=[]:=by refine Ep P.ob λc d m n p e q t=>?_;unfold az.f;rw [show(Ty.l 12).s=1 from rfl,d];refine(?_:c.c.map _=[]);rw [e];rfl
theorem vD.i(M:vD m n 3 x)(p:m.b (66+n)=J c)(q:X.k 4=true)(t:l.k 4=true)(v:s.p=[X,l]):sd m s x.1:=by
 refine⟨by haveI:=M.b;exact(bz (by decide) this),_,M.a,?_,?_,?_⟩;·rw [v];exact aCc M.d (by decide) q t
 ·refine(?_:(m.b<|66+n).isSome=true);rw [p];rfl
 refine(?_:(if x.2.2.2 then 6 else 2)=2\/_);split;·exact .inr rfl
 exact .inl rfl
theorem fy.V(L:fy x ls n l c)(W:n<3)(q:X.k 4=true)(t:e.k 4=true):ur x (.o (66+n) X e):=by refine⟨⟨c,L.M W q t,L.s⟩,λo m=>?_,by rw [L.N,ai];haveI:=L.F;exact(cN this)⟩;rw [L.N]at m;refine aG (bc.mp m) λz hz p=>?_;rw [<-p];exact(L.b z hz).i L.a q t rfl
theorem Pl.aE(P:Pl a e):ur a (.l 12):=by obtain⟨c,h,d,-⟩:=P.ac;exact⟨⟨c,h,d⟩,(λo m=>by rw [P.N]at m;exact bR m),by rw [P.N];decide⟩
theorem Pl.t4(P:Pl m c)(d:x.k 2=true)(e:y.k 2=true)(l:a<c.length):(dZ c up a (x,y)).1.k 4=true/\(dZ c up a (x,y)).2.k 4=true:=by haveI:=zQ P.W d e (up:=up) (bD:=a);haveI:=P.A;exact⟨cS (zQ P.W d e).1<|bb (.a dB Y) (.n 4) [.t Z aB,.l aB bq,.l Y Z] U l this<|j3 _ _,cS (zQ P.W d e).2<|bb (.a dB Y) (.n 4) [.t Z aB,.l aB bq,.l Y Z] U l this<|j3 _ _⟩
theorem Pl.Q(P:Pl m a)(p:x.k 2=true)(q:y.k 2=true)(t:d<a.length)(n:j<a.length):X2 λl c=>A4 (a[j]?=J l) (fy m a j l c) (eZ m (cX a d (x,y) j) c) (ur m<|cX a d (x,y) j):=by refine cV (P.C n) λl c e L=>?_;haveI v:=(P.t4 p q t (up:=j)).1;haveI w:=(P.t4 p q t (up:=j)).2;haveI:=P.A;exact⟨l,c,e,L,L.M (bz n this) v w,L.V (bz n this) v w⟩
theorem Pl.bs(P:Pl d a)(m:j<a.length)(p:j<=aN):X2 λu r=>A2 (dn a aN xy j=u::r) (d.n (cX a aN xy j)=J u):=by
 refine cV (P.C m) λl c e L=>?_;haveI n:d.n (cX a aN xy j)=c.e.map (Ty.e (cX a aN xy j).p):=by unfold az.n;rw [show(cX a aN xy j).s=66+j from rfl,L.a];rfl
 rw [n,L.B];clear n L m;induction j using iJ with
 |zero=>exact yr _ _ rfl rfl|succ j=>refine yr _ _ rfl ?_;rw [if_neg<|Nat.succ_ne_zero j];refine(?_:J (Ty.o (66+j) (l.a.e [_,_])<|l.b.e [_,_])=J (cX a aN xy j));unfold cX;rw [NJ (up:=j)<|kz p];unfold jg;rw [e]
theorem Pl.ch(P:Pl v n)(w:x.k 2=true)(z:y.k 2=true)(a:aN<n.length):∀{m:Nat},m<=aN+1->jc v (dn n aN (x,y) m)
 |0,_=>by refine Er P.ac λc h B h3 h4 h5 h6 h7=>⟨rfl,gN.mpr ⟨c_,fU⟩,λt m=>⟨c,by rw [bg.mp m];exact h,.inl<|bg.mp m⟩,(by decide:1<=10)⟩|m+1,hm=>by
  haveI p:=P.ch w z a (m:=m)<|lz hm;refine cV (P.bs (xy:=(x,y)) (aN:=aN) (j:=m) (dg Y Z [.t aB Z,.l aR bN] U a hm)<|aV Y Z [.l aR aY] U hm) λu r R X=>iH (P.Q w z a (j:=m)<|dg Y Z [.t aB Z,.l aR bN] U a hm) λl c e L ok _=>⟨?_,?_,?_,?_⟩
  ·refine(?_:FL v<|cX n aN (x,y) m::dn n aN (x,y) m);haveI D:=p.a;rw [R]at D⊢;exact⟨nofun,X,D⟩
  ·refine gN.mpr ⟨λd=>?_,p.e⟩;refine aU (s_ d) ?_ ?_;·intro h;exact Mine.Ty.noConfusion h
   refine λqz=>aG qz λj h1 B=>?_;haveI:=congrArg Ty.s B;have:66+m=66+j:=this;exact(nQ [_,_] [.t Y Z,.e (.a cg Z)<|.a cg Y] U h1 this)
  ·intro t d;refine aU (dA.mp d) ?_ ?_;·intro q;rw [q];refine⟨c,ok,.inr ⟨L.s,by rw [L.B];rfl⟩⟩
   intro d;exact p.d t d
  haveI:=P.A;rw [sw];exact(bb (.a aR au) iF [.t Z aB,.l aR aY,.l aB bq] U a hm this)
end
theorem NK:∀{ls:List a}{g:Nat->List c},(∀n l,ls[n]?=J l->g n=f l)->ls.flatMap f=(cF ls.length).flatMap g|[],_,_=>rfl|l::r,g,h=>by rw [rV,aHp,kc,kc,Rk,h 0 l rfl,NK (ls:=r) (g:=λn=>g<|n+1) λn l e=>h (n+1) l e]
theorem NL{g:Nat->List Nat}:∀{N:Nat},(∀n,n<N->(g n).Nodup)->(∀n m x,n<N->m<N->x∈g n->x∈g m->n=m)->((cF N).flatMap g).Nodup
 |0,_,_=>fU|N+1,d,l=>by
  rw [kg,nD];refine iu.mpr ⟨NL (λn h=>d n<|bP _<|jB h) λn m x c hm=>l n m x (bP _<|jB c)<|bP _<|jB hm,?_,λa q b p e=>?_⟩;·rw [kc,IH,cI];exact d N<|bP _<|aK _
  subst e;refine aG (rU.mp q) λn c h=>?_;rw [kc,IH,cI]at p;haveI w:=oU.mp c;exact absurd (l n N a (bP _<|jB w) (bP _<|aK _) h p)<|j0 w
theorem GJ:∀{l:List c},(∀a∈l,p a=q a)->l.find? p=l.find? q|[],_=>rfl|a::l,h=>by rw [gA,gA,h a<|.head _,GJ λb m=>h b<|.tail _ m]
section
variable{xy:Ty×Ty}{aN:Nat}{us:List Ty}
theorem Pl.I(P:Pl d a)(h:a[n]?=J l):d.e (cX a aN xy n)=l.c.map (·.1):=by refine oE (P.G n l h) λc L=>L.N
theorem GK{c:Type}{l:List c}{n:Nat}{a:c}(h:l[n]?=J a):n<l.length:=by
 refine aU (fV n l.length) ?_ ?_;·intro q;exact q
 intro q;rw [ey q]at h;exact aX h
theorem Pl.aF(P:Pl c a):a.flatMap (λl=>l.c.map (·.1))=(cF a.length).flatMap λn=>c.e (cX a aN xy n):=
 NK λn l h=>P.I h
theorem Pl.aH(P:Pl d m)(p:n<m.length)(h:o∈d.e (cX m aN xy n)):∃z,d.d o=J z/\z.d=66+n:=by refine cV (P.C p) λl c e L=>?_;rw [P.I e]at h;refine aG (bc.mp h) λz q a=>?_;rw [<-a];exact bU _ ((L.b z q).a) rfl
theorem Pl.aL(P:Pl v p)(hm:m<=p.length):((cF m).flatMap λn=>v.e<|cX p aN xy n).Nodup:=by
 refine NL (λn d=>?_) λn j o d x B D=>?_;·refine cV (P.C (n:=n)<|bz d hm) λl c e L=>?_;rw [P.I e];exact L.D
 refine aG (P.aH (bz d hm) B) λz R q=>aG (P.aH (bz x hm) D) λw a t=>?_;rw [R]at a;(replace a:=ao a;subst a);exact(bj (bb Y Z [.g aB<|.a cg Y,.e aB<|.a cg Z] U q t)<|bb Y Z [.e aB<|.a cg Z,.g aB<|.a cg Y] U q t)
theorem Pl.aw(P:Pl d a):∀{m:Nat},m<=a.length->((cF m).flatMap λn=>d.e<|cX a aN xy n).length<=7*m|0,_=>aK _|m+1,h=>by haveI p:=P.aw (m:=m)<|lz h;refine cV (P.C (n:=m)<|kz h) λl c e L=>?_;rw [kg,nD,b9,kc,IH,cI,P.I e,ai];haveI:=L.F;exact(bb (.a Y Z) (.m 7 bN) [.l Y<|.m 7 aB,.l Z<|.n 7] U p this)
theorem Pl.V(P:Pl v p):zM p:=by
 refine⟨P.W,λl m z d=>?_,?_,λl m e t=>?_,P.A,?_⟩
 ·refine oE (mM m) λn a=>?_;refine oE (P.G n l a) λc L=>⟨(L.b z d).d,?_⟩
  rcases(L.b z d).f with q|q|⟨q,-⟩<;>rw [q]<;>rfl
 ·rw [P.aF (aN:=0) (xy:=dH)];exact P.aL<|aK _
 ·refine oE (mM m) λn a=>?_;refine oE (P.G n l a) λc L=>(L.g e t).a
 rw [P.aF (aN:=0) (xy:=dH)];exact be Y dz [.l Y<|.m 7 Z,.l (.m 7 Z) lq] U (P.aw (aN:=0) (xy:=dH)<|aK _)<|II 7 P.A
theorem NM(P:Pl a c):(dn c aN xy m).reverse.flatMap a.e=(cF m).flatMap λn=>a.e (cX c aN xy n):=by rw [zR,kc,P.N,Rk];rfl
theorem CX(h:(dn c aN xy m).reverse[p]?=J a):(p=0/\a=.l 12)\/∃n,A3 (n<m) (p=n+1) (a=cX c aN xy n):=by
 rw [zR]at h;induction p using iJ with
 |zero=>(replace h:=ao h;subst h);exact .inl ⟨rfl,rfl⟩|succ n=>
  rw [IJ,jJ]at h;have l:n<(cF m).length:=by
   refine aU (fV n (cF m).length) ?_ ?_;·intro q;exact q
   intro q;rw [ey q]at h;exact aX h
  rw [f7 l,aHb]at h;rw [te]at l
  (replace h:=ao h;subst h)
  exact .inr ⟨n,l,rfl,rfl⟩
theorem CY(h:n<m):(dn a aN xy m).reverse[n+1]?=J (cX a aN xy n):=by rw [zR,IJ,jJ,aHq h];rfl
theorem CZ:(dn a aN xy m).reverse[0]?=J (.l 12):=by rw [zR];rfl
theorem xS:(dn a aN xy m).reverse.length=m+1:=by rw [h_,sw]
theorem Pl.aM(P:Pl w p)(v:∀n,n<p.length->a (66+n)=dn p n dH n) (d:n<p.length):FU w a (66+n):=by
 haveI e:cr (66+n)::a (66+n)=dn p n dH (n+1):=by rw [v n d,<-CT (ls:=p)];rfl
 haveI x:=P.A;refine⟨by rw [e];exact P.ch rfl rfl d (aK _),⟨(cA cg (.a cg Y) [] U),(be (.a cg Y) (.n 80) [.t Y Z,.l Z bq] U d x)⟩,λs m=>?_,?_⟩
 ·rw [v n d]at m;refine aU (s_ m) ?_ ?_;·intro q;rw [q];exact P.aE
  refine λz=>aG z λj B t=>?_;rw [t];refine iH (P.Q (x:=.j 0) (y:=.j 1) rfl rfl d (j:=j) (ae B d)) λl c _ _ _ h=>?_;exact h
 refine iH (P.Q (x:=.j 0) (y:=.j 1) rfl rfl d d) λl c _ _ _ h=>?_;have:cX p n (Ty.j 0,Ty.j 1) n=cr (66+n):=CT;rw [this]at h;exact h.a
def GL(l:az)(d:Nat->List Ty)(us:List Ty)(p:Nat)(a:Ty):Prop:=∃c,A4 (eZ l a c) (c.d=1) (∀e∈c.b,dY e.2.1)<|(a.p=[]/\c.a=[])\/(FU l d a.s/\c.g=2/\a.p≠[]/\∀s∈d a.s,∀o∈l.e s,∃b∈us.take p,o∈l.e b)
theorem Pl.aO(P:Pl d q):GL d a us p (.l 12):=by refine Er P.ac λc h e t v w l n=>Bk c h e (by rw [n];exact λ_ m=>nomatch m) (.inl ⟨rfl,l⟩)
theorem NN(h:us[j]?=J a)(c:j<p):a∈us.take p:=by
 have:(us.take p)[j]?=J a:=by rw [aHr c];exact h
 exact dU this
theorem Pl.aP(P:Pl z a)(w:∀n,n<a.length->d (66+n)=dn a n dH n) (B:x.k 2=true) (D:y.k 2=true) (R:aN<a.length) (p:n<a.length) (t:∀j,j<n->us[j+1]?=J (cX a aN (x,y) j)):GL z d us (n+1) (cX a aN (x,y) n):=by
 refine iH (P.Q B D R p) λl c e L X _=>⟨c,X,L.s,λe m=>oH<|L.K m,.inr ⟨P.aM w p,L.C,nofun,λs m o q=>?_⟩⟩
 rw [show(cX a aN (x,y) n).s=66+n from rfl,w n p]at m;rcases s_ m with rfl|⟨j,v,rfl⟩;·rw [P.N]at q;exact bR q
 refine⟨cX a aN (x,y) j,NN (t j v)<|bP _ v,?_⟩;refine cV (P.C (n:=j)<|ae v p) λl c e L=>?_;rw [P.I e]at q⊢;exact q
theorem Pl.bt(P:Pl z c)(B:∀n,n<c.length->d (66+n)=dn c n dH n) (D:x.k 2=true) (R:y.k 2=true) (X:aN<c.length) (hm:m<=c.length):Bx z d (dn c aN (x,y) m).reverse:=by
 refine⟨λp a h=>?_,?_,?_⟩
 ·refine aU (CX h) ?_ ?_
  ·refine λe=>on e λl q=>?_;rw [l];rw [q];exact P.aO
  refine λe=>sR e λn w t v=>?_;rw [t];rw [v];exact P.aP B D R X (bz w hm) λj hj=>CY<|ae hj w
 ·rw [NM P];exact P.aL hm
 rw [NM P];exact be Y dz [.l Y<|.m 7 Z,.l (.m 7 Z) lq] U (P.aw (aN:=aN) (xy:=(x,y)) hm)<|II 7<|dN hm P.A
theorem Pl.aQ(P:Pl d a)(m:n<a.length):∀{p:Nat},p<=n->(kS d z (cr<|66+n)<|dn a n dH p).map (·.1)=jE a n z.b z.a p
 |0,_=>by refine(?_:(match(d.e<|.l 12).find? _ with|some o=>J (o,_)|none=>Mine.kS d z _ []).map _=aA);rw [P.N];rfl|p+1,q=>by
  haveI t:=P.aQ (z:=z) m (p:=p)<|lz q;refine cV (P.C (n:=p)<|wj q m) λl c e L=>?_;haveI v:(d.e<|cX a n dH p).find? (mB d z (cr<|66+n)<|cX a n dH p)=(l.c.find?<|kX a p n z.b z.a).map (·.1):=by
   rw [P.I e,aHs];congr 1;refine GJ λo w=>(?_:mB d z (cr<|66+n) (cX a n dH p) o.1=_)
   unfold mB;rw [(L.b o w).a];refine(?_:(aJ (z.b=o.2.1)&&aJ (z.a.e [.j 0,.j 1]=o.2.2.1.e [_,_]))=(aJ (o.2.1=z.b)&&aJ (o.2.2.1.e [_,_]=z.a)));rw [jv];congr 1;·exact decide_eq_decide.mpr eq_comm
   exact decide_eq_decide.mpr eq_comm
  refine(?_:(match(d.e<|cX a n dH p).find? _ with|some o=>J (o,_)|none=>Mine.kS d z _<|dn a n dH p).map _=(match a[p]? with|some l=>(match l.c.find? (kX a p n z.b z.a)with|some o=>J o.1|none=>jE a n z.b z.a p)|none=>jE a n z.b z.a p));rw [v,e];dsimp only;induction l.c.find? (kX a p n z.b z.a)with
  |none=>exact t|some o=>rfl
noncomputable def mp(a:List cC)(aN:Nat)(xy:Ty×Ty)(s:kW):kT:=(s.1,s.2.map λp=>(cX a aN xy p.1,p.2))
theorem aCd:qr d (cX c aN xy n) a (mp c aN xy s)=mp c aN xy (pE (d.map (·.1)) n a s):=by
 induction d with
 |none=>refine(?_:(s.1++[(a,(s.2.map _).length)],s.2.map _++[(cX c aN xy n,a)])=(s.1++[(a,s.2.length)],(s.2++[(n,a)]).map _));rw [ai,cL];rfl|some e=>refine(?_:(s.1++[(a,(s.1.lookup e.1).getD 0)],(s.2.map _).set _ (cX c aN xy n,a))=(s.1++[(a,(s.1.lookup e.1).getD 0)],(s.2.set _ (n,a)).map _));rw [Hz];rfl
theorem Pl.aS(P:Pl d a)(p:n<a.length)(e:a[n]?=J l):∀{L:List jh}{s:kW},(∀z∈L,z∈l.c)->jd d (cr<|66+n) (dn a n dH n) (cX a aN xy n) (L.map (·.1)) (mp a aN xy s)=mp a aN xy (L.foldl (oC a n) s)
 |[],_,_=>rfl|z::L,s,h=>by
  refine oE (P.G n l e) λc q=>?_;haveI M:=q.b z<|h z<|.head _;refine(?_:Mine.jd d _ _ _ (L.map (·.1)) (match d.d z.1 with|some w=>qr (qt d w (cr<|66+n)<|dn a n dH n) (cX a aN xy n) z.1 (mp a aN xy s)|none=>mp a aN xy s)=mp a aN xy (L.foldl (oC a n)<|oC a n s z));rw [M.a];dsimp only;rw [aCd];have:(qt d ⟨66+n,z.2.1,if z.2.2.2 then 6 else 2,z.2.2.1⟩ (cr<|66+n)<|dn a n dH n).map (·.1)=if z.2.2.2 then aA else jE a n z.2.1 z.2.2.1 n:=by
   induction z.2.2.2 with
   |true=>rfl|false=>exact P.aQ p<|aK _
  rw [this];exact P.aS p e λw m=>h w<|.tail _ m
theorem Pl.aT(P:Pl p a)(q:∀n,n<a.length->d (66+n)=dn a n dH n):∀{m:Nat},m<=a.length->fP p d (dn a aN xy m).reverse=mp a aN xy ((cF m).foldl (lL a) ([],[]))|0,_=>by refine(?_:Mine.jd p _ _ _ (p.e<|.l 12) ([],[])=_);rw [P.N];rfl|m+1,h=>by haveI t:=P.aT q (m:=m)<|lz h;refine cV (P.C (n:=m)<|kz h) λl c e L=>?_;rw [show(dn a aN xy<|m+1).reverse=(dn a aN xy m).reverse++[cX a aN xy m]from jn,FV,t,kg,oW];refine(?_:Mine.jd p (cr<|66+m) (d<|66+m) _ _ _=mp a aN xy (lL a _ m));rw [q m<|kz h,P.I e,M9 e];exact P.aS (kz h) e λ_ m=>m
theorem aCe(h:∀p∈s.2,p.1<N) (c:n<N):∀p∈(oC d n s z).2,p.1<N:=by
 intro p m;unfold oC pE at m;split at m
 ·refine aU (eO.mp m) ?_ ?_
  ·intro m;exact h p m
  intro m;rw [bg.mp m];exact c
 refine aU (aG8 m) ?_ ?_;·intro m;exact h p m
 intro a;rw [a];exact c
set_option tactic.hygienic true in
theorem NO:∀p∈(cu a).2,p.1<a.length:=by
 haveI c:∀m,m<=a.length->∀p∈((cF m).foldl (lL a) ([],[])).2,p.1<a.length:=by
  intro m;induction m with
  |zero=>intro _ p h;exact bR h|succ m n=>
   intro hm;rw [kg,oW];haveI i:=n<|lz hm;generalize(cF m).foldl (lL a) ([],[])=s at i;refine(?_:∀p∈(lL a s m).2,_);unfold lL;split
   ·rename_i l e;haveI k2:∀(L:List jh)(s:kW),(∀p∈s.2,p.1<a.length)->∀p∈(L.foldl (oC a m) s).2,p.1<a.length:=by
     intro L;induction L with
     |nil=>intro s h;exact h|cons z L d=>intro s h;exact d _<|aCe h<|kz hm
    exact k2 _ _ i
   exact i
 exact c _<|aK _
end
theorem rC:cH (e::es) f=if e.1=f then J e.2 else cH es f:=by
 unfold cH;rw [gA];by_cases h:e.1=f;·rw [decide_eq_true h,if_pos h];rfl
 rw [decide_eq_false h,if_neg h]
theorem pK{E:List<|Ty×a}{f:Ty}:∀{D:List<|Ty×a},cH (D++E) f=if f∈D.map bI then cH D f else cH E f
 |[]=>rfl|e::D=>by
  rw [aG2,rC,rC,pK (D:=D),g9];by_cases h:e.1=f;·rw [if_pos h,if_pos h,if_pos<|by rw [h];exact .head _]
  rw [if_neg h,if_neg h];by_cases m:f∈D.map bI;·rw [if_pos m,if_pos<|.tail _ m]
  rw [if_neg m,if_neg λz=>(dA.mp z).elim (λq=>h q.symm) m]
theorem GM:∀{es:List<|Ty×a},cH (gj es k v) f=if f=k then J v else cH es f:=by
 intro es;have mp:∀es:List<|Ty×a,cH (es.map λe=>if e.1=k then(e.1,v)else e) f=if f=k/\k∈es.map bI then J v else cH es f:=by
  intro es;induction es with
  |nil=>rw [if_neg λh=>nomatch h.2];rfl|cons e es c=>
   rw [g9,rC,rC,c,g9];by_cases h:e.1=k
   ·rw [if_pos h];by_cases q:e.1=f;·rw [if_pos q,if_pos ⟨by rw [<-q,h],by rw [h];exact .head _⟩]
    rw [if_neg q,if_neg q];have:f≠k:=λz=>q<|h.trans z.symm;rw [if_neg λz=>this z.1,if_neg λz=>this z.1]
   rw [if_neg h];by_cases q:e.1=f;·rw [if_pos q,if_pos q,if_neg λz=>h<|q.trans z.1]
   rw [if_neg q,if_neg q];by_cases z:f=k/\k∈es.map bI;·rw [if_pos z,if_pos ⟨z.1,.tail _ z.2⟩]
   rw [if_neg z,if_neg λw=>z ⟨w.1,(dA.mp w.2).resolve_left λu=>h u.symm⟩]
 unfold gj;by_cases m:k∈es.map bI
 ·rw [zL,decide_eq_true m,if_pos rfl,mp];by_cases h:f=k;·rw [if_pos h,if_pos ⟨h,m⟩]
  rw [if_neg h,if_neg λz=>h z.1]
 rw [zL,decide_eq_false m,if_neg yA,pK];by_cases h:f=k;·rw [if_pos h,if_neg<|h▸m,rC,if_pos h.symm]
 rw [if_neg h];by_cases q:f∈es.map bI;·rw [if_pos q]
 rw [if_neg q,rC,if_neg λz=>h z.symm,nw.mpr q];rfl
theorem C0:∀{l:List t},(l.map f).Nodup->∀{a b:t},a∈l->b∈l->f a=f b->a=b
 |[],_,_,_,h,_,_=>nomatch h|x::l,n,a,b,m,d,e=>by
  refine on (gN.mp n) λp q=>aU (dA.mp m) ?_ ?_
  ·intro c;clear n;clear q m;subst c;rcases dA.mp d with rfl|d
   ·rfl
   exact(p<|bc.mpr ⟨b,by assumption,e.symm⟩).elim
  intro m;refine aU (dA.mp d) ?_ ?_;·intro c;clear n;subst c;exact(p<|bc.mpr ⟨a,by assumption,e⟩).elim
  intro d;exact C0 q m d e
noncomputable def NP(a:az)(c:List Ty):List Ty:=c.flatMap λt=>(a.f t).flatMap cq
noncomputable def iS(p:Ty×Ty)(t:Ty):Ty:=t.e [p.1,p.2]
noncomputable def jW(c:List cC)(a:Nat)(d:Ty×Ty):Nat->List (Ty×Nat)
 |0=>[]
 |n+1=>(match c[n]? with
  |some l=>l.d.map λe=>(iS (dZ c n a d) e.1,e.2.2)
  |none=>[])++jW c a d n
section
theorem GN(e:c[n]?=J l):jW c a d (n+1)=l.d.map (λe=>(iS (dZ c n a d) e.1,e.2.2))++jW c a d n:=by show(match c[n]? with|some l=>_|none=>_)++_=_;rw [e]
theorem Pl.aj(e:c[n]?=J l)(d:n<=a)(m:h∈dD q c n):iS (dZ c n a p) (h.e [l.a,l.b])=iS (dZ c (n-1) a p) h:=by
 induction n using iJ with
 |zero=>exact bR m|succ n=>refine(?_:(h.e [l.a,l.b]).e [_,_]=h.e [_,_]);rw [rB,show n+1-1=n from rfl,NJ (up:=n)<|kz d];unfold jg;rw [e]
theorem aCf{a c:List Ty}(h:∀f∈a,eJ 1 f):(a.map<|Ty.e c).flatMap cq=(a.flatMap cq).map (Ty.e c):=by
 induction a with
 |nil=>rfl|cons f a d=>rw [g9,kc,kc,cL,aB9<|h f<|.head _,d λg m=>h g<|.tail _ m]
theorem Pl.aZ(P:Pl p d):∀{n:Nat}{B:List Ty},n<=d.length->n<=a+1->cB B (NP p<|dn d a q n)=cB B ((dD p d n).map<|iS<|dZ d (n-1) a q)
 |0,B,_,_=>by refine(?_:cB B ((p.f<|.l 12).flatMap cq++[])=B);rw [P.ag];rfl|n+1,B,t,v=>by
  refine cV (P.C t) λl c e L=>(?_:cB B ((p.f<|cX d a q n).flatMap cq++Mine.NP p (dn d a q n))=_)
  rw [nj,P.aZ (n:=n) (lz t)<|lz v];rw [L.O,aCf L.v,vG e L.a,M',aHt,cL,nj,iv];have:(dD p d n).map (iS<|dZ d (n-1) a q)=(dD p d n).map (iS (dZ d (n+1-1) a q)∘Ty.e [l.a,l.b]):=
   mL λh m=>(Pl.aj e (aV Y Z [.l aR aY] U v) m).symm
  rw [this];rfl
theorem Pl.ad(P:Pl d c)(e:n<=c.length)(l:n<=a+1):cT d (dn c a m n)=cB [] ((dD d c n).map<|iS<|dZ c (n-1) a m):=P.aZ e l
theorem Pl.K(P:Pl d a):∀{n:Nat},n<=a.length->(∀f∈dD d a n,eJ n f)/\(Mine.dD d a n).length<=4*n/\(Mine.dD d a n).Nodup
 |0,_=>⟨(λ_ m=>nomatch m),aK _,fU⟩|n+1,h=>by
  refine fk (P.K<|AO h) λq t v=>cV (P.C h) λl c e L=>?_;rw [vG e L.a];refine⟨λf m=>?_,?_,sn fU⟩
  ·refine aU (jV.mp m) ?_ ?_
   ·intro m;exact bR m
   intro m;refine aU (eO.mp m) ?_ ?_;·intro m;refine aG (rU.mp m) λg m1 m2=>?_;exact oH (M_ (L.v g m1) m2)<|cA au aR [] U
   intro m;refine aG (bc.mp m) λg m1 p=>?_;rw [<-p];exact CQ (q g m1) L.k.1 L.k.2
  haveI:=CR (a:=[]) (b:=c.c.flatMap cq++(Mine.dD d a n).map (Ty.e [l.a,l.b]));rw [b9,ai]at this;exact jt Y (.m 4 aY) [.l Y<|.a bQ<|.a aB aI,.l aB<|.m 2 bF,.l bF dB,.l bF dB,.l aI<|.m 4 Z] U this (GI (is:=c.c)) L.r L.r t
theorem Pl.ak(P:Pl c a)(d:n<a.length):cT c (cr (66+n)::dn a n dH n)=Mine.dD c a (n+1):=by
 haveI e:cr (66+n)::dn a n dH n=dn a n dH (n+1):=by rw [<-CT (ls:=a)];rfl
 rw [e,P.ad d<|aK _,show n+1-1=n from rfl,sq];have:(Mine.dD c a<|n+1).map (iS dH)=Mine.dD c a (n+1):=by have:iS dH=id:=funext λt=>jv;rw [this,RY]
 rw [this,NH<|by rw [aHt];exact(P.K d).2.2];rfl
theorem fy.P(L:fy e m n l c):f∈cT e [cr<|66+n]↔f∈c.c.flatMap cq:=by
 refine(?_:f∈cB [] ((e.f<|cr<|66+n).flatMap cq++[])↔_);unfold cr;rw [L.O,cI,jV];have:c.c.map (Ty.e [.j 0,.j 1])=c.c:=by have:Ty.e [.j 0,.j 1]=id:=funext λt=>jv;rw [this,RY]
 rw [this];simp
theorem Pl.al(P:Pl w p):∀{n:Nat},n<=p.length->n<=d+1->(f∈(jW p d x n).map bI↔f∈(Mine.dD w p n).map (iS<|dZ p (n-1) d x))
 |0,_,_=>Iff.rfl|n+1,t,q=>by
  refine cV (P.C t) λl c e L=>?_;rw [GN e,cL,eO,P.al (n:=n) (lz t)<|lz q,iv];constructor
  ·rintro(m|m)
   ·refine aG (bc.mp m) λv m1 a=>?_;rw [<-a];exact bc.mpr ⟨v.1,L.A.subset<|bc.mpr ⟨v,m1,rfl⟩,rfl⟩
   refine aG (bc.mp m) λh m1 a=>?_;rw [<-a];rw [<-Pl.aj e (aV Y Z [.l aR aY] U q) m1];refine bc.mpr ⟨_,?_,rfl⟩;rw [vG e L.a];exact jV.mpr<|.inr<|dT _<|bc.mpr ⟨h,m1,rfl⟩
  intro m;refine aG (bc.mp m) λg m1 a=>?_;rw [<-a];rw [vG e L.a]at m1;rcases jV.mp m1 with m1|m1;·exact bR m1
  refine aU (eO.mp m1) ?_ ?_;·intro m1;refine aG (bc.mp<|L.y g m1) λv m2 a=>?_;rw [<-a];exact .inl<|bc.mpr ⟨v,m2,rfl⟩
  intro m1;refine aG (bc.mp m1) λh m2 a=>?_;rw [<-a];refine .inr<|bc.mpr ⟨h,m2,?_⟩;exact(Pl.aj e (aV Y Z [.l aR aY] U q) m2).symm
theorem Pl.ba(P:Pl q a)(e:a[n]?=J l)(p:n<=aN)(m:f∈Mine.dD q a (n+1))(h:f∉l.d.map (·.1)):iS (dZ a n aN xy) f∈(jW a aN xy n).map Prod.fst:=by
 haveI t:=GK e;refine oE (P.G n l e) λc L=>?_;rw [vG e L.a]at m;rcases jV.mp m with m|m;·exact bR m
 rcases eO.mp m with m|m;·exact absurd (L.y f m) h
 refine aG (bc.mp m) λg m1 d=>?_;rw [<-d];rw [Pl.aj e p m1,P.al (jB t)<|dF _ p];exact bc.mpr ⟨g,m1,rfl⟩
end
section
theorem fy.Q(L:fy m p n l c)(h:e∈c.b):e.2.2=a_ e.2.1:=(L.g _ (L.d e h).1).d
theorem fy.R(L:fy m p n l c):(c.b.map λe=>e.2.1).Nodup:=L.H.nodup L.E
theorem fy.S(L:fy W X n l c)(h:e∈c.b):d_ (cr<|66+n) e.2.1 (a_ e.2.1) c.b=e.1:=by
 haveI t:nr (cr<|66+n) e.2.1 (a_ e.2.1) e=true:=by refine(?_:(aJ (e.2.2=a_ e.2.1)&&aJ (e.2.1.e [.j 0,.j 1]=e.2.1))=true);rw [decide_eq_true<|L.Q h,jv,decide_eq_true rfl];rfl
 unfold d_;induction q:c.b.find? (nr (cr<|66+n) e.2.1<|a_ e.2.1)with
 |none=>exact absurd t<|xz.mp q e h|some m=>haveI x:=oX q;haveI p:(aJ (m.2.2=a_ e.2.1)&&aJ (m.2.1.e [.j 0,.j 1]=e.2.1))=true:=vr (p:=nr (cr<|66+n) e.2.1<|a_ e.2.1) q;rw [jv,iV]at p;haveI z:m.2.1=e.2.1:=of_decide_eq_true p.2;rw [C0 (f:=λe:Nat×Ty×Nat=>e.2.1) L.R x h z]
theorem GO(h:∀e∈a,e.2.1≠f):d_ (cr i) f d a=0:=by
 unfold d_;induction q:a.find? (nr (cr i) f d)with
 |none=>rfl|some c=>haveI m:=oX q;haveI l:(aJ (c.2.2=d)&&aJ (c.2.1.e [.j 0,.j 1]=f))=true:=vr (p:=nr (cr i) f d) q;rw [jv,iV]at l;exact absurd (of_decide_eq_true l.2)<|h c m
theorem Pl.bd(P:Pl c e)(h:eJ d f):∃y,A3 (c.d (a_ f)=J y) (y.b=dQ f) (y.a.e f.p=fH f):=by
 obtain⟨a,-,rfl|rfl⟩:=h;·exact uY _ P.m1 rfl rfl
 exact uY _ P.m2 rfl rfl
theorem Pl.bf(P:Pl a e)(L:fy a e n l c)(h:eJ d f)(m:o∈l.c):kU a (cr<|66+n) f (a_ f) o.1=kY (dQ f) (fH f) o:=by refine sR (P.bd h) λw p q t=>?_;unfold Mine.kU;rw [(L.b o m).a,p];refine(?_:(aJ (o.2.1=w.b)&&aJ (o.2.2.1.e [.j 0,.j 1]=w.a.e f.p))=_);rw [q,t,jv];rfl
theorem Pl.bu(P:Pl a e)(L:fy a e n l c)(h:eJ d f):c.a.find? (Mine.kU a (cr<|66+n) f<|a_ f)=(l.c.find?<|kY (dQ f)<|fH f).map (·.1):=by rw [L.w,aHs];congr 1;exact GJ λo m=>P.bf L h m
theorem Pl.bh(P:Pl p X)(L:fy p X n l c)(x:e∈l.d):mh p (cr<|66+n) e.1 (a_ e.1) c=e.2.2/\(d_ (cr<|66+n) e.1 (a_ e.1) c.b≠0\/∃o∈c.a,Mine.kU p (cr<|66+n) e.1 (a_ e.1) o=true):=by
 obtain⟨e1,B,e3⟩:=L.g e x;refine aU e3 ?_ ?_
 ·refine λt=>on t λa d=>?_;haveI D:d_ (cr<|66+n) e.1 (a_ e.1) c.b=e.2.2:=L.S d;have pos:e.2.2≠0:=by have:=(L.b _ a).b;have:3<=e.2.2:=this;exact(a9<|bz (by decide) this)
  refine⟨?_,.inl<|by rw [D];exact pos⟩;unfold mh;rw [D,if_neg pos]
 refine λt=>aG t λo a d=>?_;haveI w:=oX a;haveI m:kY (dQ e.1) (fH e.1) o=true:=vr a;haveI nm:o.2.1=dQ e.1:=by unfold kY at m;rw [iV]at m;exact of_decide_eq_true m.1
 haveI x0:d_ (cr<|66+n) e.1 (a_ e.1) c.b=0:=by
  refine GO λv hv q=>on (L.d v hv) λi1 i2=>?_;have:=C0 (f:=λe:Ev=>e.1) L.E i1 x q;haveI hb:v.1=o.1:=by rw [d];exact congrArg (λe:Ev=>e.2.2) this
  have:=C0 (f:=λz:jh=>z.1) L.D i2 w hb;have:[101]=o.2.1:=congrArg (λz:jh=>z.2.1) this;rw [nm]at this;unfold dQ at this;split at this<;>cases this
 haveI R:=P.bu L B;rw [a]at R;refine⟨?_,.inr ⟨o.1,by rw [L.w];exact bc.mpr ⟨o,w,rfl⟩,by rw [P.bf L B w];exact m⟩⟩;unfold mh;rw [x0,if_pos rfl];unfold qu;rw [R];exact d
theorem vI:f∈es.map bI↔cH es f≠none:=by rw [Ne,nw,Classical.not_not]
structure xT(E D:List (Ty×Nat))(st:List Ty×fQ):Prop where
 a:∀k,k∈st.1↔k∈D.map bI
 b:∀f,(cH st.2 f).map (·.2)=cH (D++E) f
theorem xT.c{E D:List<|Ty×Nat}{st:List Ty×fQ}(S:xT E D st){f:Ty}:f∈st.2.map bI↔f∈(D++E).map Prod.fst:=by rw [vI,vI,<-S.b f];exact not_congr Hx.symm
theorem vJ:k∈(D++[p]).map bI↔k∈D.map bI\/k=p.1:=by rw [cL,eO];exact or_congr Iff.rfl bg
theorem Pl.ax(P:Pl t ls)(e:ls[n]?=J l)(L:fy t ls n l c)(ha:a.p=[q.1,q.2]){E:List<|Ty×Nat}:∀{Lf:List Ty}{S:List Ev}{D:List<|Ty×Nat}{st:List Ty×fQ},(S.map (·.1)).Sublist Lf->Lf.Nodup->(∀v∈S,v∈l.d)->(∀f∈Lf,f∉S.map (·.1)->f∉l.d.map (·.1))->(∀f∈Lf,f∉l.d.map (·.1)->iS q f∈E.map bI)->xT E D st->
  xT E (D++S.map λv=>(iS q v.1,v.2.2)) (Lf.foldl (jT t (cr<|66+n) a c) st)
 |[],S,D,st,x,_,_,_,_,T=>by have:S.map (·.1)=[]:=List.sublist_nil.mp x;obtain rfl:S=[]:=List.map_eq_nil_iff.mp this;rw [aHl,cI];exact T
 |f::r,S,D,st,x,h2,B,R,X,T=>by
  refine on (gN.mp h2) λn1 n2=>?_;have d:f.e a.p=iS q f:=by rw [ha];rfl
  refine(?_:xT E _<|r.foldl _<|jT t (cr<|66+n) a c st f);by_cases p:f∈l.d.map (·.1)
  ·haveI mS:f∈S.map (·.1):=Classical.byContradiction λz=>R f (.head _) z p;induction S using bk with
   |nil=>exact bR mS|cons v S=>
    haveI hv:v.1=f/\(S.map (·.1)).Sublist r:=by
     clear R B p d n2 X h2;cases x with
     |cons _ h=>exact absurd (h.subset mS) n1|cons_cons _ h=>exact⟨rfl,h⟩
    clear mS x p h2;obtain⟨rfl,hS⟩:=hv;haveI mv:=B v<|.head _;obtain⟨r1,r2⟩:=P.bh L mv;haveI T':xT E (D++[(iS q v.1,v.2.2)]) (jT t (cr<|66+n) a c st v.1):=by
     unfold jT;rw [d];by_cases z:iS q v.1∈st.1
     ·rw [if_pos z];haveI zD:=(T.a _).mp z;refine⟨λk=>?_,λk=>?_⟩;·rw [T.a k,vJ];exact⟨.inl,λw=>w.elim id λw=>by rw [w];exact zD⟩
      rw [T.b k,pK,pK];by_cases w:k∈D.map bI;·rw [if_pos w,if_pos<|vJ.mpr<|.inl w,pK,if_pos w]
      rw [if_neg w,if_neg λu=>(vJ.mp u).elim w λu=>w<|by rw [u];exact zD]
     rw [if_neg z];haveI nd:¬(iS q v.1∈st.2.map bI/\v.1∉cT t [cr<|66+n]/\d_ (cr<|66+n) v.1 (a_ v.1) c.b=0):=by rintro⟨-,u1,u2⟩;have:=L.I v mv λu=>u1<|L.P.mpr u;haveI x1:d_ (cr<|66+n) v.1 (a_ v.1) c.b=v.2.2:=L.S this;have:=(L.b _ (L.d _ this).2).b;have:3<=v.2.2:=this;exact(nU<|eY (bz (cN<|Kj (Kh r1 x1) u2) this) r1)
     rw [if_neg nd,r1];haveI zD:iS q v.1∉D.map Prod.fst:=λu=>z<|(T.a _).mpr u;refine⟨λk=>?_,λk=>?_⟩;·refine(?_:k∈st.1++[_]↔_);rw [eO,T.a k,vJ,bg]
     refine(?_:(cH (gj st.2 _ _) k).map _=_);rw [GM,pK];by_cases w:k=iS q v.1;·rw [w];rw [if_pos rfl,if_pos<|vJ.mpr<|.inr rfl,pK,if_neg zD,rC,if_pos rfl];rfl
     haveI e9:=T.b k;rw [pK]at e9;rw [if_neg w,e9];by_cases u:k∈D.map bI;·rw [if_pos u,if_pos<|vJ.mpr<|.inl u,pK,if_pos u]
     rw [if_neg u,if_neg λs=>(vJ.mp s).elim u w]
    haveI:=P.ax e L ha (D:=D++[(iS q v.1,v.2.2)]) hS n2 (λw m=>B w<|.tail _ m) (λg m z=>R g (.tail _ m) λu=>?_) (λg m=>X g<|.tail _ m) T';·rw [d6]at this;exact this
    refine aU (dA.mp u) ?_ ?_;·intro u;have u:g=v.1:=u;exact n1<|u▸m
    intro u;exact z u
  have nS:f∉S.map (·.1):=λz=>by obtain⟨v,m1,m2⟩:=bc.mp z;exact p<|bc.mpr ⟨v,B v m1,m2⟩
  haveI hS:(S.map (·.1)).Sublist r:=by
   induction U1:S.map (·.1)using bk with
   |nil=>exact Rj _|cons g s=>
    rw [U1]at x nS;clear U1 p d n2 n1 X R h2;cases x with
    |cons _ h=>exact h|cons_cons _ h=>exact absurd (.head _) nS
  haveI C5:jT t (cr<|66+n) a c st f=st:=by
   unfold jT;rw [d];by_cases z:iS q f∈st.1;·rw [if_pos z]
   rw [if_neg z,if_pos];refine⟨T.c.mpr ?_,λu=>p<|L.y f<|L.P.mp u,GO λv hv u=>p ?_⟩;·rw [cL];exact dT _<|X f (.head _) p
   exact bc.mpr ⟨_,(L.d v hv).1,u⟩
  rw [C5];exact P.ax e L ha hS n2 B (λg m=>R g<|.tail _ m) (λg m=>X g<|.tail _ m) T
theorem Pl.ay(P:Pl a c):cT a [.l 12]=[]:=by refine(?_:cB [] ((a.f<|.l 12).flatMap cq++[])=[]);rw [P.ag];rfl
theorem aCg:gu a c p (.l 12)=(.l 12,(c.take p).reverse):=rfl
theorem GP:gu a d p (.o i X c)=(cr i,a i):=rfl
theorem Pl.am(P:Pl p d)(x:∀n,n<d.length->a (66+n)=dn d n dH n) (z:w[0]?=J (.l 12)):∀{m:Nat},(∀j,j<m->w[j+1]?=J (cX d aN xy j))->m<=d.length->m<=aN+1->∀f,(cH (fu p a w<|m+1) f).map (·.2)=cH (jW d aN xy m) f
 |0,_,_,_,f=>by obtain⟨c,o,-⟩:=P.ac;rw [CH z o.a,aCg];refine(?_:(cH ((cT p [.l 12]).foldl _ ([],[])).2 f).map _=aA);rw [P.ay];rfl
 |m+1,q,t,B,f=>by haveI R:=P.am x z (m:=m) (λj h=>q j<|bP _<|jB h) (lz t)<|lz B;refine cV (P.C (n:=m)<|kz t) λl c e L=>?_;rw [CH (q m<|bP _<|aK _) (show p.b (cX d aN xy m).s=J c from L.a),GN e];rw [show Mine.gu a w (m+1) (cX d aN xy m)=(cr<|66+m,a<|66+m)from GP];unfold qH;dsimp only;rw [x m<|kz t,P.ak<|kz t];haveI T:=P.ax e L (a:=cX d aN xy m) (q:=dZ d m aN xy) rfl (E:=jW d aN xy m) (Lf:=Mine.dD p d<|m+1) (S:=l.d) (D:=[]) (st:=([],Mine.fu p a w<|m+1)) L.A (P.K t).2.2 (λv h=>h) (λf m h=>h) (λf X h=>P.ba e (aV Y Z [.l aR aY] U B) X h) ⟨λk=>Iff.rfl,R⟩;exact T.b f
end
section
variable{xy:Ty×Ty}{aN:Nat}
def zS(l:az)(d:Nat->List Ty)(e:List Ty)(p:Nat)(a:Ty):Prop:=∃c,Fg l e p a (gu d e p a).1 (gu d e p a).2 c/\
 ∀f∈cT l ((gu d e p a).1::(gu d e p a).2),(f∈cT l [(gu d e p a).1]\/d_ (gu d e p a).1 f (a_ f) c.b≠0\/f.e a.p∉(fu l d e p).map bI)->
  (d_ (gu d e p a).1 f (a_ f) c.b≠0\/∃o∈c.a,kU l (gu d e p a).1 f (a_ f) o=true)
theorem Pl.bi(P:Pl l B)(d:n[0]?=J (.l 12)):zS l p n 0 (.l 12):=by
 refine Er P.ac λc o w D R X x v=>?_;haveI z:n.take 1=[.l 12]:=by
  induction n using bk with
  |nil=>exact aX d|cons a r=>(replace d:=ao d;rw [d]);rfl
 refine bU c ⟨o,o,w,.inl ⟨rfl,z⟩,?_,rfl,λs m=>?_,λf m=>?_,λq m=>?_,⟨λe m=>?_,?_⟩⟩ λf m=>?_;·exact⟨rfl,gN.mpr ⟨c_,fU⟩,λt m=>⟨c,by rw [bg.mp m];exact o,.inl<|bg.mp m⟩,(by decide:1<=10)⟩
 ·rw [show s=.l 12 from bg.mp m,P.ag];exact⟨(λ_ m=>nomatch m),(by decide:0<100)⟩
 ·have m:f∈cT l [.l 12]:=m;rw [P.ay]at m;exact bR m
 ·rw [x]at m;exact bR m
 ·rw [v]at m;exact bR m
 ·rw [v];exact fU
 haveI m:f∈cT l [.l 12]:=m;rw [P.ay]at m;exact bR m
theorem Pl.an(P:Pl t p)(v:x.k 2=true)(w:y.k 2=true)(z:aN<p.length)(hm:m<=p.length)(R:s∈dn p aN (x,y) m):(∀f∈t.f s,dY f)/\(t.f s).length<100:=by
 refine aU (s_ R) ?_ ?_;·intro q;rw [q];rw [P.ag];exact⟨(λ_ m=>nomatch m),(by decide:0<100)⟩
 refine λX=>aG X λj hj d=>?_;rw [d];refine cV (P.C (n:=j)<|bz hj hm) λl c e L=>?_;haveI t1:=(P.t4 v w z (up:=j)).1;haveI t2:=(P.t4 v w z (up:=j)).2;rw [L.O,ai];refine⟨λf m=>?_,by haveI:=L.r;exact(cN this)⟩;refine aG (bc.mp m) λg B d=>?_;rw [<-d];refine aG (L.v g B) λa D e=>⟨a.e [_,_],cS<|hQ t1 t2 D,by clear D d B;rcases e with rfl|rfl;exact .inl rfl;exact .inr rfl⟩
theorem Pl.bl(P:Pl σ d)(hU:∀n,n<d.length->p (66+n)=dn d n dH n) (hx:x.k 2=true) (hy:y.k 2=true) (t:aN<d.length) (B:n<=aN) (h0:us[0]?=J (.l 12)) (uO:∀j,j<n->us[j+1]?=J (cX d aN (x,y) j)):zS σ p us (n+1) (cX d aN (x,y) n):=by
 refine iH (P.Q hx hy t (j:=n)<|cN B t) λl c e L ok _=>?_;haveI t1:=(P.t4 hx hy t (up:=n)).1;haveI t2:=(P.t4 hx hy t (up:=n)).2;have X:=P.A;have a:n<d.length:=(cN B t)
 haveI O:=P.aM hU a;haveI eo:Mine.gu p us (n+1) (cX d aN (x,y) n)=(cr<|66+n,p<|66+n):=GP;unfold zS;rw [eo];dsimp only;have D:=hU n a;haveI eS:cr (66+n)::dn d n dH n=dn d n (Ty.j 0,Ty.j 1) (n+1):=by refine(?_:_=cX d n dH n::_);rw [CT];rfl
 haveI R:eZ σ (cr<|66+n) c:=L.M (bz a X) rfl rfl;haveI dD:=P.K a;refine⟨c,⟨ok,R,L.s,.inr ⟨nofun,rfl,jZ _ _,by refine(?_:66+n<80);exact(be (.a cg Y) (.n 80) [.l Z bq,.t Y Z] U X a),L.C⟩,O.a,by rw [D,sw],λs m=>?_,λf m=>?_,λq m=>?_,⟨λv m=>?_,L.R⟩⟩,λf m h=>?_⟩;·rw [D,eS]at m;exact P.an rfl rfl a a m
 ·rw [D,P.ak a]at m;haveI:=dD.1 f m;exact⟨oH this<|dN (lV B t)<|dN X<|by decide,CU this (dN (lV B t)<|dN X<|by decide) t1 t2⟩
 ·refine O.c q ?_;rw [FS R];exact m
 ·have f4:=L.K m;haveI i1:=(L.d v m).1;haveI i2:=(L.d v m).2;refine sR (P.bd f4) λw w1 w2 w3=>⟨oH f4,?_,L.Q m,?_,_,w,(L.b _ i2).a,w1,?_⟩
  ·rw [D,P.ak a];exact L.A.subset<|bc.mpr ⟨_,i1,rfl⟩
  ·rw [L.w];exact bc.mpr ⟨_,i2,rfl⟩
  refine(?_:((!false||_)&&aJ ((fH v.2.1).e [.j 0,.j 1]=w.a.e v.2.1.p))=true);rw [w3,jv,decide_eq_true rfl];rfl
 rw [D,P.ak a]at m;by_cases hf:f∈l.d.map (·.1);·refine aG (bc.mp hf) λv mv bM=>?_;rw [<-bM];exact(P.bh L mv).2
 exfalso;refine aU h ?_ λqz=>aU qz ?_ ?_;·intro h;exact hf<|L.y f<|L.P.mp h
 ·intro h;exact h<|GO λv hv u=>hf<|bc.mpr ⟨_,(L.d v hv).1,u⟩
 intro h;haveI k:=P.ba (xy:=(x,y)) (aN:=aN) e B m hf;refine h<|vI.mpr ?_;haveI:=P.am hU h0 (m:=n) (aN:=aN) (xy:=(x,y)) uO (jB a) (dF _ B)<|f.e (cX d aN (x,y) n).p;intro z;rw [z]at this;exact vI.mp k this.symm
theorem Pl.bv(P:Pl z d)(B:∀n,n<d.length->c (66+n)=dn d n dH n) (D:x.k 2=true) (R:y.k 2=true) (X:aN<d.length) (hm:m<=aN+1):CG z c (dn d aN (x,y) m).reverse:=by
 refine⟨λp a h=>?_⟩;refine aU (CX h) ?_ ?_;·refine λe=>on e λl q=>?_;rw [l];rw [q];exact P.bi CZ
 refine λe=>sR e λn w t v=>?_;rw [t];rw [v];exact P.bl B D R X (bb Y Z [.l aB aY,.t Y aB] U hm w) CZ λj hj=>CY<|ae hj w
theorem NQ{F a:Nat->List e}(c:a 0=[])(d:∀m,a (m+1)=F m++a m):∀{m:Nat},(cF m).flatMap (λi=>F<|m-1-i)=a m|0=>c.symm|m+1=>by rw [aHp,kc,Rk,d,<-NQ c d (m:=m)];congr 1;congr 1;funext i;rw [show m+1-1-(i+1)=m-1-i by omega]
noncomputable def jw(x y:Ty)(e:Ev):Ty×Nat:=(e.1.e [x,y],e.2.2)
theorem NR:cH [jw x y v] f=if v.1.e [x,y]=f then J v.2.2 else none:=rC
theorem zT:(gS ls).map (jw x y)=jW ls (ls.length-1) (x,y) ls.length:=by
 rw [List.map_flatMap];refine NQ (F:=λn=>(pF ls (ls.length-1) n).map<|jw x y) rfl λm=>(?_:(match ls[m]? with|some l=>_|none=>[])++_=_)
 congr 1;unfold pF;induction ls[m]? with
 |none=>rfl|some l=>
  refine(?_:l.d.map _=(l.d.map _).map _);rw [iv];refine mL λe _=>(?_:(Ty.e [_,_] e.1,e.2.2)=((e.1.e [_,_]).e [x,y],e.2.2))
  rw [rB,NI];rfl
theorem GQ(h:e∈gS a):X3 λn l c=>A3 (a[n]?=J l) (c∈l.d) (e=mD (dZ a n (a.length-1) dH).1 (dZ a n (a.length-1) dH).2 c):=by
 refine aG (rU.mp h) λi _ h=>?_;unfold pF at h;generalize a.length-1-i=n at h;induction e:a[n]? with
 |none=>rw [e]at h;exact bR h|some l=>rw [e]at h;refine aG (bc.mp h) λc d m=>yp n l c e d m.symm
theorem vB.g(h:vB m n e):e.2.2∈m.map (·.1):=by
 refine aU h.c ?_ ?_;·refine λl=>on l λb _=>bc.mpr ⟨_,b,rfl⟩
 refine λl=>aG l λo p q=>?_;exact bc.mpr ⟨o,oX p,q⟩
theorem Pl.bm(P:Pl m a):∀{n:Nat},n<=a.length->(jW a aN xy n).length<=12*n|0,_=>aK _|n+1,h=>by refine cV (P.C h) λl c e L=>?_;haveI d:=P.bm (n:=n)<|lz h;haveI q:=L.A.length_le;rw [ai]at q;rw [GN e,b9,ai];exact de (.a Y Z) (.m 12 bN) [.l Y aI,.l aI<|.m 4 bN,.l (.m 4 bN) j8,.l Z<|.m 12 aB] U q (P.K h).2.1 (II 4<|dN h P.A) d
theorem Pl.H(P:Pl R v)(z:(cu v).1.map bI=v.flatMap λl=>l.c.map (·.1)):zO v:=by
 haveI B:=P.A
 refine⟨λe h=>?_,λe h=>?_,λe h=>?_,?_⟩
 ·refine qA (GQ h) λn l p w x m=>?_;subst m
  refine oE (P.G n l w) λc L=>
    aG ((L.g p x).a) λa D q=>?_
  haveI t:=zQ P.W (x:=.j 0) (y:=.j 1) (d:=0) rfl rfl (up:=n) (bD:=v.length-1)
  exact⟨a.e [_,_],cS (hQ t.1 t.2 D) (IC (dN (AH (DJ _)) (dN (j3 _ _) (Nat.sub_le_sub_right B 1))) 4),by
   refine aU q ?_ ?_
   ·intro q;exact .inl (by refine(?_:p.1.e [_,_]=_);rw [q];rfl)
   ·intro q;exact .inr (by refine(?_:p.1.e [_,_]=_);rw [q];rfl)⟩
 ·refine qA (GQ h) λn l p w x m=>?_;subst m
  refine oE (P.G n l w) λc L=>?_
  haveI E:=L.g p x
  rw [zK<|oH E.a,E.d]
 ·refine qA (GQ h) λn l p w x m=>?_;subst m
  refine oE (P.G n l w) λc L=>?_
  rw [z]
  exact rU.mpr ⟨l,dU w,(L.g p x).g⟩
 ·haveI:=congrArg gB<|zT (ls:=v) (x:=.j 0) (y:=.j 1)
  rw [ai]at this
  exact dg Y dz [.e Y Z,.l Z<|.m 12 aB,.l (.m 12 aB)<|.n 36] U this (P.bm (aN:=v.length-1) (xy:=(.j 0,.j 1))<|aK _)<|II 12 P.A
theorem NS:∀{R D:List Ev}{m:fQ},es=D++R->(∀e∈es,(jj ls (x,y) e.2.2).isSome=true)->(∀f,cH m f=(cH (D.map<|jw x y) f).bind (jj ls (x,y)))->m.map bI=cB [] ((D.map<|jw x y).map bI)->
  (∀f,cH (R.foldl (jk ls x y) m) f=(cH (es.map<|jw x y) f).bind (jj ls (x,y)))/\(R.foldl (jk ls x y) m).map bI=cB [] ((es.map<|jw x y).map bI)
 |[],D,m,e,_,a,c=>by rw [cI]at e;rw [e];exact⟨a,c⟩|v::R,D,m,e,l,a,c=>by
  have n:v∈es:=e▸dT _ (.head _);haveI p:(D++[v]).map (jw x y)=D.map (jw x y)++[jw x y v]:=cL;haveI A:((D++[v]).map<|jw x y).map bI=(D.map<|jw x y).map bI++[v.1.e [x,y]]:=by rw [p,cL];rfl
  haveI B:cB [] (((D++[v]).map<|jw x y).map bI)=dG (m.map bI) (v.1.e [x,y]):=by rw [A,nj,c];rfl
  have t:∀f,f∈m.map bI↔f∈(D.map<|jw x y).map Prod.fst:=λf=>by rw [c,jV];simp
  refine NS (R:=R) (D:=D++[v]) (m:=jk ls x y m v) (by rw [e,d6];rfl) l (λf=>?_) ?_
  ·unfold jk;rw [p,pK];by_cases z:v.1.e [x,y]∈m.map bI
   ·rw [if_pos z,a f];by_cases w:f∈(D.map<|jw x y).map bI;·rw [if_pos w]
    rw [if_neg w,NR,if_neg λu=>w<|by rw [<-u];exact(t _).mp z,nw.mpr w]
   rw [if_neg z];refine oE (pc.mp<|l v n) λr d=>?_;rw [d];rw [GM,a f];by_cases w:f∈(D.map<|jw x y).map bI;·rw [if_pos w,if_neg λu=>z<|by rw [<-u];exact(t f).mpr w]
   rw [if_neg w,NR];by_cases u:f=v.1.e [x,y];·rw [if_pos u,if_pos u.symm];exact d.symm
   rw [if_neg u,if_neg λq=>u q.symm,nw.mpr w]
  rw [B];unfold jk;by_cases z:v.1.e [x,y]∈m.map bI;·rw [if_pos z,show dG (m.map bI) (v.1.e [x,y])=m.map bI from if_pos z]
  rw [if_neg z];refine oE (pc.mp<|l v n) λr d=>?_;rw [d];rw [Bz,if_neg z];exact(if_neg z).symm
theorem GR(m:(cu a).1.map bI=a.flatMap λl=>l.c.map (·.1)) (c:ji<|cu a) (E:zO a) (h:e∈gS a):(jj a xy e.2.2).isSome=true:=by refine oE (sh<|E.f e h) λi d=>?_;haveI:=c.a _ _ d;unfold jj;rw [d];refine(?_:((gT a xy)[i]?).isSome=true);rw [f7<|by unfold gT;rw [ai];exact this];rfl
theorem tA(d:(cu a).1.map bI=a.flatMap λl=>l.c.map (·.1)) (c:ji<|cu a) (E:zO a):(∀f,cH (pH a x y) f=(cH (jW a (a.length-1) (x,y) a.length) f).bind (jj a (x,y)))/\(pH a x y).map bI=cB [] ((jW a (a.length-1) (x,y) a.length).map bI):=by haveI:=NS (ls:=a) (x:=x) (y:=y) (es:=gS a) (R:=gS a) (D:=[]) (m:=[]) rfl (λe h=>GR d c E h) (λ_=>rfl) rfl;rw [zT]at this;exact this
noncomputable def xU(s:kT)(a m:fQ)(f:Ty):fQ:=match jU s a f with|some r=>gj m f r|none=>m
theorem NT:∀{R D:List Ty}{m:fQ},c=D++R->c.Nodup->(∀f∈c,(jU s a f).isSome=true)->m.map bI=D->(∀f,cH m f=if f∈D then jU s a f else aA)->
  (R.foldl (xU s a) m).map bI=c/\∀f,cH (R.foldl (xU s a) m) f=if f∈c then jU s a f else aA
 |[],D,m,e,_,_,d,l=>by rw [cI]at e;rw [e];exact⟨d,l⟩|g::R,D,m,e,n,p,d,l=>by
  refine oE (pc.mp<|p g<|e▸dT _ (.head _)) λr q=>?_;haveI t:g∉D:=λw=>(iu.mp<|e▸n).2.2 g w g (.head _) rfl;haveI v:xU s a m g=gj m g r:=by unfold xU;rw [q]
  refine(?_:(R.foldl _<|xU s a m g).map _=_/\∀f,cH (R.foldl _<|xU s a m g) f=_);rw [v];refine NT (R:=R) (D:=D++[g]) (by rw [e,d6];rfl) n p ?_ λf=>?_;·rw [Bz,d,if_neg t]
  rw [GM,l f];by_cases w:f=g;·rw [if_pos w,if_pos (dT _<|by rw [w];exact .head _),w,q]
  rw [if_neg w];by_cases u:f∈D;·rw [if_pos u,if_pos<|dI _ u]
  rw [if_neg u,if_neg λz=>(eO.mp z).elim u λz=>w<|bg.mp z]
theorem C1(d:a.Nodup)(e:∀f∈a,(jU s c f).isSome=true):(oA s c a).map bI=a/\∀f,cH (oA s c a) f=if f∈a then jU s c f else none:=
 NT (R:=a) (D:=[]) (m:=[]) rfl d e rfl λf=>by rw [if_neg c_];rfl
theorem aCh:jU s a f=((cH a f).map (·.2)).bind λb=>(s.1.lookup b).bind λi=>s.2[i]?:=by unfold jU;cases cH a f<;>rfl
theorem NU{a b:List Ty}(c:a.Nodup)(d:b.Nodup)(h:∀f,f∈a↔f∈b):a.length=b.length:=
 bj (sY a b c λf m=>(h f).mp m) (sY b a d λf m=>(h f).mpr m)
end
section
theorem Pl.ab(P:Pl e a)(d:a.length=c+1):f∈cT e (dn a c (x,y) a.length)↔f∈(jW a c (x,y) a.length).map Prod.fst:=by rw [P.ad (aK _)<|lu d,jV,P.al (aK _)<|lu d];simp
theorem Pl.aC(P:Pl q n)(t:x.k 2=true)(v:y.k 2=true)(c:n.length=d+1)(h:f∈cT q (dn n d (x,y) n.length)):dY f:=by
 rw [P.ad (aK _)<|lu c,jV]at h;rcases h with h|h;·exact bR h
 refine aG (bc.mp h) λg m l=>?_;rw [<-l];rw [show n.length-1=d from(bj (bb Y Z [.e aB aY,.e aR aB] U c<|bY<|aV au Y [.g Y aY] U c)<|bb Y Z [.g aB aR,.g aY aB] U c<|bY<|aV au Y [.g Y aY] U c),sq];refine aG ((P.K<|aK _).1 g m) λa p e=>?_;haveI:=P.A;exact⟨a.e [x,y],cS (hQ t v p)<|cA cm iG [.l Y bq] U this,by clear p l m;rcases e with rfl|rfl;exact .inl rfl;exact .inr rfl⟩
theorem Pl.bw(P:Pl l a)(m:∀n,n<a.length->c (66+n)=dn a n dH n) (e:a.length=d+1):Mine.fP l c (dn a d (x,y) a.length).reverse=((cu a).1,gT a (x,y)):=by
 rw [P.aT m<|aK _];have:d=a.length-1:=(bj (bb Y Z [.g aB aR,.g aY aB] U e<|bY<|aV au Y [.g Y aY] U e)<|bb Y Z [.e aB aY,.e aR aB] U e<|bY<|aV au Y [.g Y aY] U e)
 rw [this];rfl
theorem Pl.bn(P:Pl m a)(p:∀n,n<a.length->c (66+n)=dn a n dH n) (q:a.length=d+1) (t:l[0]?=J (.l 12)) (e:∀j,j<a.length->l[j+1]?=J (cX a d (x,y) j)) (f:Ty):
  jU ((cu a).1,gT a (x,y)) (Mine.fu m c l<|a.length+1) f=(cH (jW a d (x,y) a.length) f).bind (jj a (x,y)):=by
 rw [aCh,P.am p t e (aK _)<|lu q];rfl
theorem Pl.sm(P:Pl t a)(n:(cu a).1.map bI=a.flatMap λl=>l.c.map (·.1)) (m:ji<|cu a) (d:a.length=c+1) (h:f∈(jW a c (x,y) a.length).map bI):((cH (jW a c (x,y) a.length) f).bind<|jj a (x,y)).isSome=true:=by
 have:c=a.length-1:=(bj (bb Y Z [.g aB aR,.g aY aB] U d<|bY<|aV au Y [.g Y aY] U d)<|bb Y Z [.e aB aY,.e aR aB] U d<|bY<|aV au Y [.g Y aY] U d)
 rw [this]at h⊢;cases e:cH (jW a (a.length-1) (x,y) a.length) f with
 |none=>exact absurd e<|vI.mp h|some b=>haveI:=Mh e;rw [<-zT]at this;refine aG (bc.mp this) λv p q=>?_;haveI:=GR (xy:=(x,y)) n m (P.H n) p;rw [show v.2.2=b from congrArg Prod.snd q]at this;exact this
theorem Pl.aD(P:Pl t a)(X:∀n,n<a.length->aW (66+n)=dn a n dH n) (v:x.k 2=true) (w:y.k 2=true) (D:(cu a).1.map bI=a.flatMap λl=>l.c.map (·.1)) (z:ji<|cu a) (p:a.length=d+1):
  ∃c,Md t aW a (Mine.dD t a a.length) x y (dn a d (x,y) a.length) c:=by
 have B:d<a.length:=(nW p)
 refine iH (P.Q v w B B) λl c e L ok _=>?_;have e1:a.length-1=d:=(bj (bb Y Z [.e aB aY,.e aR aB] U p<|bY<|aV au Y [.g Y aY] U p)<|bb Y Z [.g aB aR,.g aY aB] U p<|bY<|aV au Y [.g Y aY] U p)
 haveI eA:cX a d (x,y) d=.o (66+d) x y:=by unfold cX;rw [sq]
 haveI R:(dn a d (x,y) a.length).length=a.length+1:=sw;haveI vE:=P.bw (x:=x) (y:=y) X p;have se:∀f,jU (Mine.fP t aW (dn a d (x,y) a.length).reverse) (Mine.fu t aW (dn a d (x,y) a.length).reverse (dn a d (x,y) a.length).length) f=(cH (jW a d (x,y) a.length) f).bind (jj a (x,y)):=λf=>by rw [vE,R];exact P.bn X p CZ (λj h=>CY h) f
 have q:∀f∈cT t (dn a d (x,y) a.length),(jU (Mine.fP t aW (dn a d (x,y) a.length).reverse) (Mine.fu t aW (dn a d (x,y) a.length).reverse (dn a d (x,y) a.length).length) f).isSome=true:=λf m=>by rw [se];exact P.sm D z p<|(P.ab p).mp m
 haveI nd:(cT t<|dn a d (x,y) a.length).Nodup:=sn fU;haveI i1:=(C1 nd q).1;haveI i2:=(C1 nd q).2;haveI s1:=(tA (x:=x) (y:=y) D z<|P.H D).1;haveI s2:=(tA (x:=x) (y:=y) D z<|P.H D).2;rw [e1]at s1 s2;refine⟨c,v,w,P.ch v w B<|lu p,?_,?_,?_,L.s,L.G,P.bt X v w B<|aK _,P.bv X v w B<|lu p,λs m=>P.an v w B (aK _) m,λf m=>⟨P.aC v w p m,q f m⟩,vE,?_,λf=>?_,?_⟩;·rw [p];refine(?_:J (cX a d (x,y) d)=_);rw [eA];rfl
 ·rw [R];exact(aV dB aR [.g Y aY] U p)
 ·rw [e1,<-eA];exact ok
 ·rw [P.ad (aK _)<|lu p,e1,sq];rfl
 ·rw [s1 f];rw [i2 f];by_cases m:f∈cT t (dn a d (x,y) a.length);·rw [if_pos m,se]
  rw [if_neg m,nw.mpr λu=>m<|(P.ab p).mpr u];rfl
 haveI l1:=congrArg gB i1;haveI l2:=congrArg gB s2;rw [ai]at l1 l2;rw [l1,l2];exact NU nd (sn fU) λf=>by rw [P.ab p,jV];simp
theorem NV:gT a (x,y)=(gT a dH).map (qJ x y):=by
 rw [iv];refine mL λp _=>(?_:(cX a (a.length-1) (x,y) p.1,p.2)=((cX a (a.length-1) dH p.1).e [x,y],p.2))
 rw [aCb]
theorem aCi:jj a (x,y) b=(jj a dH b).map (qJ x y):=by
 unfold jj;rw [NV];induction(cu a).1.lookup b with
 |none=>rfl|some i=>exact jJ
theorem GS:f∈(P.map<|jw x y).map bI↔f∈hV x y P:=by unfold hV;rw [jV,iv];exact⟨.inr,λh=>h.resolve_left c_⟩
theorem Pl.cl(P:Pl σ a)(hx:x.k 2=true)(hy:y.k 2=true)(q:(cu a).1.map bI=a.flatMap λl=>l.c.map (·.1)) (c:ji<|cu a) (h0:0<a.length) {m0 m1:fQ} (e0:∀f,cH m0 f=cH (pH a (.j 0)<|.j 1) f) (e1:∀f,cH m1 f=cH (pH a x y) f) (el:m1.length=(pH a x y).length):
  Mf a x y (gT a dH) (gT a (x,y)) m0 m1:=by
 haveI E:=P.H q;haveI s1:=(tA (x:=x) (y:=y) q c E).1;haveI s2:=(tA (x:=x) (y:=y) q c E).2;haveI t1:=(tA (x:=.j 0) (y:=.j 1) q c E).1;haveI t2:=(tA (x:=.j 0) (y:=.j 1) q c E).2;haveI hl:=P.A;refine⟨NV,λr m=>?_,λD e R eD hn=>?_,?_⟩
 ·refine aG (bc.mp m) λp hp n=>?_;rw [<-n];haveI:=NO p hp;haveI t:=zQ P.W (x:=.j 0) (y:=.j 1) (d:=0) rfl rfl (up:=p.1) (bD:=a.length-1);haveI X:(dZ a p.1 (a.length-1) dH).1.k 2=true:=cS t.1<|bb (.a bQ Y) dB [.l Z bq,.e bN Z,.l Y aB] U hl (bY<|cA au Y [.t bQ Y] U h0)<|j3 _ _;haveI a2:(dZ a p.1 (a.length-1) dH).2.k 2=true:=cS t.2<|bb (.a bQ Y) dB [.l Z bq,.e bN Z,.l Y aB] U hl (bY<|cA au Y [.t bQ Y] U h0)<|j3 _ _;refine⟨?_,?_,?_⟩;·refine(?_:(Ty.w 2 _&&Ty.w 2 _)=true);rw [vH X,vH a2];rfl
  ·refine(?_:(aJ (66<=66+p.1)&&aJ (66+p.1<80)&&(Ty.e [x,y] _).k 8&&(Ty.e [x,y] _).k 8)=true);rw [cS<|hQ hx hy X,cS<|hQ hx hy a2,decide_eq_true<|jZ 66 p.1,decide_eq_true (by omega:66+p.1<80)];rfl
  haveI h1:=sp X;haveI h2:=sp a2;exact(aV (.a (.a Y Z) au) js [.l Y dB,.l Z dB] U h1 h2)
 ·haveI me:e∈gS a:=eD▸dT _ (.head _);refine oE (pc.mp<|GR (xy:=dH) q c E me) λr hr=>?_;have z:∀{x y:Ty},e.1.e [x,y]∉hV x y D->cH (jW a (a.length-1) (x,y) a.length) (e.1.e [x,y])=J e.2.2:=λ{x y} h=>by rw [<-zT,eD,cL,pK,if_neg λu=>h<|GS.mp u,g9,rC];exact if_pos rfl
  haveI hn0:e.1.e [.j 0,.j 1]∉hV (.j 0) (.j 1) D:=λu=>by refine aG (bc.mp<|GS.mpr u) λv v1 B=>aG (bc.mp v1) λw w1 n=>?_;clear v1;subst n;haveI B:w.1.e [.j 0,.j 1]=e.1.e [.j 0,.j 1]:=B;rw [jv,jv]at B;exact hn<|GS.mp<|bc.mpr ⟨_,bc.mpr ⟨w,w1,rfl⟩,congrArg (Ty.e [x,y]) B⟩
  haveI r0:r∈gT a dH:=by haveI:=hr;refine aG (DW.mp this) λi _ hi=>dU hi
  refine qB r r0 ?_ ?_;·haveI:=t1<|e.1.e [.j 0,.j 1];rw [z hn0,jv]at this;rw [e0,this];exact hr
  rw [e1,s1,z hn];refine(?_:jj a (x,y) e.2.2=_);rw [aCi,hr];rfl
 haveI l2:=congrArg gB s2;rw [ai,<-zT]at l2;rw [el,l2];rw [iv];rfl
end
structure tC(c:dh)(b:Ty):Prop where
 d:c.d=1
 h:c.f=0
 e:c.e=J b
 f:c.c=[]
 g:c.a=[]
 a:c.b=[]
structure GT(σ:az)(ls:List cC)(aN:Nat)(aW:Nat->List Ty)(c:dh)(h t xo yo x y:Ty):Prop where
 i:h.s=66+ls.length/\t.s=66+ls.length
 a:eZ σ h c
 d:eZ σ t c
 j:σ.n h=J (.o (66+aN) x y)
 k:σ.n t=J (.o (66+aN) xo yo)
 b:(xo.k 2=true/\yo.k 2=true)/\x.k 2=true/\y.k 2=true
 e:gu aW (h::dn ls aN (x,y) ls.length).reverse (ls.length+1) h=(t,dn ls aN (xo,yo) ls.length)
 g:(h.p=[]/\t=h/\(xo,yo)=(x,y))\/(h.p≠[]/\t=cr h.s/\c.g=2/\aW h.s=dn ls aN (xo,yo) ls.length)
 l:∀f,eJ 3 f->jQ h.p (f.e [xo,yo])
 m:∀f:Ty,(f.e [xo,yo]).e h.p=f.e [x,y]
structure NW(σ:az)(aW:Nat->List Ty)(ls:List cC)(x y:Ty)(ts:List Ty):Prop where
 a:jc σ ts
 c:2<=ts.length
 d:Bx σ aW ts.reverse
 e:CG σ aW ts.reverse
 g:∀s∈ts,(∀f∈σ.f s,dY f)/\(σ.f s).length<100
 h:∀f∈cT σ ts,dY f/\(jU (fP σ aW ts.reverse) (fu σ aW ts.reverse ts.length) f).isSome=true
 b:fP σ aW ts.reverse=((cu ls).1,gT ls (x,y))
 i:cT σ ts=mw x y (dD σ ls ls.length)
 j:∀f,cH (oA (fP σ aW ts.reverse) (fu σ aW ts.reverse ts.length)<|cT σ ts) f=cH (pH ls x y) f
 k:(oA (fP σ aW ts.reverse) (fu σ aW ts.reverse ts.length)<|cT σ ts).length=(pH ls x y).length
section
variable{σ:az}
theorem aCj(p:∀f∈cT σ (t::e),f.e a.p∈d.map bI/\f∉cT σ [t]/\d_ t f (a_ f) c.b=0):qH σ t a c e d=d:=by
 unfold qH;haveI l:∀L:List Ty,(∀f∈L,f.e a.p∈d.map bI/\f∉cT σ [t]/\d_ t f (a_ f) c.b=0)->L.foldl (jT σ t a c) ([],d)=([],d):=by
  intro L;induction L with
  |nil=>intro _;rfl|cons f L q=>
   intro n;refine(?_:L.foldl _ (jT σ t a c ([],d) f)=_);have:jT σ t a c ([],d) f=([],d):=by unfold jT;rw [if_neg c_,if_pos<|n f<|.head _]
   rw [this];exact q λg m=>n g<|.tail _ m
 rw [l _ p]
theorem GU(a:σ.b i=J c)(B:tC c b)(d:t.s=i):σ.e t=[]/\σ.f t=[]:=by delta az.e az.f;rw [d,a];refine⟨B.g,?_⟩;refine(?_:c.c.map _=[]);rw [B.f];rfl
theorem Pl.bp(P:Pl σ d)(n:d.length=a+1)(hc:σ.b (66+d.length)=J c)(B:tC c b)(p:h.s=66+d.length)(w:eZ σ h c)(z:σ.n h=J (.o (66+a) x y))(D:x.k 2=true)(R:y.k 2=true):jc σ (h::dn d a (x,y) d.length):=by
 haveI X:=P.A;have l:=P.ch D R (aN:=a) (nW n) (m:=a+1)<|aK _;rw [<-n]at l;have t:h≠.l 12:=λe=>by rw [e]at p;exact absurd (p:(1:Nat)=66+d.length)<|j0<|kE (by decide:1<66)<|jZ 66 _
 refine⟨?_,gN.mpr ⟨λm=>?_,l.e⟩,λs m=>?_,by refine(?_:(dn d a (x,y) d.length).length+1<=10);rw [sw];exact(cA (.a aR au) iF [.l Y bq] U X)⟩;·haveI v:=l.a;rw [n]at v⊢;refine⟨t,?_,v⟩;rw [z];refine(?_:_=J (cX d a (x,y) a));unfold cX;rw [sq]
 ·refine aU (s_ m) ?_ ?_
  ·intro e;exact t e
  refine λqz=>aG qz λj h1 h2=>?_;haveI:=congrArg Ty.s h2;rw [p]at this;have:66+d.length=66+j:=this;exact(nQ [_,_] [.t Y Z,.e (.a cg Z)<|.a cg Y] U h1 this)
 refine aU (dA.mp m) ?_ ?_;·intro q;rw [q];exact⟨c,w,.inr ⟨B.d,by rw [B.e];rfl⟩⟩
 intro m;exact l.d s m
theorem NY(c:(h::dn a m (x,y) a.length).reverse[p]?=J e):(p<a.length+1/\(dn a m (x,y) a.length).reverse[p]?=J e)\/(p=a.length+1/\e=h):=by
 rw [jn]at c;haveI d:(dn a m (x,y) a.length).reverse.length=a.length+1:=xS;refine aU (fV p<|a.length+1) ?_ ?_;·intro q;rw [jL<|eY q d]at c;exact .inl ⟨q,c⟩
 intro q;rw [kf<|mZ d q,d]at c;haveI l:=GK c;have:p-(a.length+1)=0:=by have:[h].length=1:=rfl;exact(bj (aV Y bQ [.t Y Z,.e Z au] U l this)<|cA bQ Y [] U)
 rw [this]at c;exact .inr ⟨(bj (bb Y aY [.e aB bQ,.g (.a aB aY) Y] U this<|bY<|aV aR Z [.l aR Z] U q)<|aV aR Z [.l aR Z] U q),(ao c).symm⟩
theorem NZ(d:p<a.length+1):(h::dn a c (x,y) a.length).reverse[p]?=(dn a c (x,y) a.length).reverse[p]?:=by rw [jn,jL<|by rw [xS];exact d]
theorem aCk:(h::dn a c (x,y) a.length).reverse[a.length+1]?=J h:=by rw [jn,kf<|by rw [xS];exact aK _,xS,lX];rfl
theorem zU(c:σ.f h=[])(a:List Ty):cT σ (h::a)=cT σ a:=by refine(?_:cB [] ((σ.f h).flatMap cq++a.flatMap λt=>(σ.f t).flatMap cq)=_);rw [c];rfl
theorem Pl.br(P:Pl σ a)(hU:∀n,n<a.length->D (66+n)=dn a n dH n) (hk:(cu a).1.map bI=a.flatMap λl=>l.c.map (·.1)) (gV:ji<|cu a) (X:a.length=d+1) (hc:σ.b (66+a.length)=J c) (B:tC c b) (w:GT σ a d D c h t xo yo x y):
  NW σ D a x y (h::dn a d (x,y) a.length):=by
 refine on w.i λhi nM=>fk w.b λcG x2 y2=>?_;obtain⟨BF,BG⟩:=cG;have hl:=P.A;have tl:d<a.length:=(nW X)
 refine on (GU hc B hi) λm1 f1=>?_;haveI m2:=(GU hc B nM).1;haveI f2:=(GU hc B nM).2;haveI Ch:=P.bp X hc B hi w.a w.j x2 y2;haveI BH:=P.bp X hc B nM w.d w.k BF BG;have yY:(h::dn a d (x,y) a.length).reverse[0]?=J (.l 12):=by rw [NZ<|aGT _];exact CZ
 have BI:∀j,j<a.length->(h::dn a d (x,y) a.length).reverse[j+1]?=J (cX a d (x,y) j):=λj hj=>by rw [NZ<|bP _ hj];exact CY hj
 have gO:(h::dn a d (x,y) a.length).length=a.length+1+1:=congrArg (· +1) sw;have T:=P.aD hU x2 y2 hk gV X;refine oE T λc0 T=>?_;have vE:Mine.fP σ D (h::dn a d (x,y) a.length).reverse=((cu a).1,gT a (x,y)):=by rw [jn,FV,m1];refine(?_:Mine.fP σ D _=_);exact T.a
 have BJ:∀f,f∈cT σ (dn a d (xo,yo) a.length)->∃g,g∈Mine.dD σ a a.length/\f=g.e [xo,yo]:=λf m=>by
  rw [P.ad (aK _)<|lu X,jV]at m;refine aU m ?_ ?_;·intro m;exact bR m
  intro m;refine aG (bc.mp m) λg mg bM=>?_;rw [<-bM];rw [show a.length-1=d from X▸rfl,sq];exact bU g mg rfl
 have sA:∀f,f∈cT σ (dn a d (xo,yo) a.length)->f.e h.p∈(Mine.fu σ D (h::dn a d (x,y) a.length).reverse<|a.length+1).map Prod.fst:=λf m=>by refine aG (BJ f m) λg mg bM=>?_;rw [bM];rw [w.m];refine vI.mpr λz=>?_;have:=P.am hU yY (m:=a.length) (aN:=d) (xy:=(x,y)) BI (aK _) (lu X)<|g.e [x,y];rw [z]at this;refine vI.mp ?_ this.symm;rw [P.al (aK _)<|lu X,show a.length-1=d from X▸rfl,sq];exact bc.mpr ⟨g,mg,rfl⟩
 haveI fc:∀f,f∈cT σ (dn a d (xo,yo) a.length)->dY f:=λf m=>P.aC BF BG X m;haveI t0:cT σ [t]=[]:=by rw [zU f2];rfl
 haveI mN:Mine.fu σ D (h::dn a d (x,y) a.length).reverse (a.length+1+1)=Mine.fu σ D (h::dn a d (x,y) a.length).reverse (a.length+1):=by rw [CH aCk<|hi▸hc,w.e];refine aCj λf m=>?_;rw [zU f2]at m;refine⟨sA f m,by rw [t0];exact c_,?_⟩;rw [B.a];rfl
 have se:∀f,jU (Mine.fP σ D (h::dn a d (x,y) a.length).reverse) (Mine.fu σ D (h::dn a d (x,y) a.length).reverse (h::dn a d (x,y) a.length).length) f=(cH (jW a d (x,y) a.length) f).bind (jj a (x,y)):=λf=>by rw [vE,gO,mN];exact P.bn hU X yY BI f
 have iE:cT σ (h::dn a d (x,y) a.length)=cT σ (dn a d (x,y) a.length):=zU f1 _;have mT:∀f∈cT σ (h::dn a d (x,y) a.length),(jU (Mine.fP σ D (h::dn a d (x,y) a.length).reverse) (Mine.fu σ D (h::dn a d (x,y) a.length).reverse (h::dn a d (x,y) a.length).length) f).isSome=true:=λf m=>by rw [se];exact P.sm hk gV X<|(P.ab X).mp<|iE▸m
 have nd:(cT σ<|h::dn a d (x,y) a.length).Nodup:=sn fU;haveI i1:=(C1 nd mT).1;haveI i2:=(C1 nd mT).2;haveI s1:=(tA (x:=x) (y:=y) hk gV<|P.H hk).1;haveI s2:=(tA (x:=x) (y:=y) hk gV<|P.H hk).2;rw [show a.length-1=d from X▸rfl]at s1 s2;refine⟨Ch,by rw [gO];exact(cA dB (.a aR au) [] U),⟨λp e hp=>?_,?_,?_⟩,⟨λp e hp=>?_⟩,λs m=>?_,λf m=>⟨P.aC x2 y2 X<|iE▸m,mT f m⟩,vE,iE.trans T.h,λf=>?_,?_⟩
 ·refine(?_:GL σ D _ p e);refine aU (NY hp) ?_ ?_
  ·refine λR=>on R λ_ h2=>?_;clear R hp s2 s1 i2 i1 nd mT iE se mN fc sA BJ vE T gO yY BH Ch hl nM hi w hc X gV hk;rcases CX h2 with⟨rfl,rfl⟩|⟨n,hn,rfl,rfl⟩
   ·exact P.aO
   exact P.aP hU x2 y2 tl hn λj hj=>BI j<|ae hj hn
  refine λR=>on R λcG bT=>?_;rw [cG];rw [bT];refine Bk c w.a B.d (by rw [B.a];exact λ_ m=>nomatch m) ?_;refine aU w.g ?_ ?_;·refine λR=>on R λh1 _=>.inl ⟨h1,B.g⟩
  refine λR=>qo R λh1 h2 h3 h4=>?_;rw [hi]at h2;refine .inr ⟨⟨?_,⟨(aV cg Y [.g Y<|.a cg Z] U hi),(be Y (.n 80) [.l Z bq,.e Y<|.a cg Z] U hl hi)⟩,λs m=>?_,λo m=>?_⟩,h3,h1,λs m o mo=>?_⟩;·rw [h4,hi,<-h2];exact BH
  ·rw [h4]at m;refine aU (s_ m) ?_ ?_;·intro fX;rw [fX];exact P.aE
   refine λR=>aG R λj hj bM=>?_;rw [bM];refine iH (P.Q BF BG tl hj) λl c' _ _ _ q=>?_;exact q
  ·rw [hi,<-h2,m2]at m;exact bR m
  rw [h4]at m;refine aU (s_ m) ?_ ?_;·intro fX;clear m;subst fX;rw [P.N]at mo;exact bR mo
  refine λR=>aG R λj hj bM=>?_;clear R m h2 h4 cG hp s2 s1 i2 i1 nd mT iE se mN fc sA BJ vE T gO yY BH Ch tl hl BG BF nM hi w hc X gV hk hU;subst bM;refine bU (cX a d (x,y) j) (NN (BI j hj)<|bP _ hj) ?_;refine cV (P.C hj) λl c' e L=>?_;rw [P.I e]at mo⊢;exact mo
 ·rw [jn,nD,kc,m1];have:=T.g.d;rw [<-cI<|R0 σ.e _]at this;exact this
 ·rw [jn,nD,kc,m1];have:=T.g.f;rw [<-cI<|R0 σ.e _]at this;exact this
 ·refine(?_:zS σ D _ p e);refine aU (NY hp) ?_ ?_
  ·refine λR=>on R λ_ h2=>?_;clear R hp s2 s1 i2 i1 nd mT iE se mN fc sA BJ vE T gO BH Ch hl nM hi w hc gV hk;rcases CX h2 with⟨rfl,rfl⟩|⟨n,hn,rfl,rfl⟩
   ·exact P.bi yY
   exact P.bl hU x2 y2 tl (bb Y Z [.e aB aY,.t Y aB] U X hn) yY λj hj=>BI j<|ae hj hn
  refine λR=>on R λcG bT=>?_;rw [cG];rw [bT];unfold zS;rw [w.e];dsimp only;refine bU c ⟨w.a,w.d,B.d,?_,BH,sw,λs m=>?_,λf m=>?_,λo m=>?_,⟨λv m=>?_,?_⟩⟩ λf m hh=>?_
  ·refine aU w.g ?_ ?_
   ·refine λR=>fk R λh1 h2 h3=>?_;rw [h3,h2];exact .inl ⟨h1,DT<|by rw [h_,gO];exact aK _⟩
   refine λR=>qo R λh1 h2 h3 h4=>.inr ⟨h1,h2,(aV cg Y [.g Y<|.a cg Z] U hi),(be Y (.n 80) [.l Z bq,.e Y<|.a cg Z] U hl hi),h3⟩
  ·refine aU (dA.mp m) ?_ ?_
   ·intro fX;rw [fX];rw [f2];exact⟨(λ_ m=>nomatch m),(by decide:0<100)⟩
   intro m;exact P.an BF BG tl (aK _) m
  ·rw [zU f2]at m;refine⟨fc f m,?_⟩;refine aG (BJ f m) λg mg bM=>?_;rw [bM];exact w.l g<|oH ((P.K<|aK _).1 g mg) hl
  ·rw [B.g]at m;exact bR m
  ·rw [B.a]at m;exact bR m
  ·rw [B.a];exact fU
  rw [zU f2]at m;refine aU hh ?_ λR=>aU R ?_ ?_;·intro hh;rw [t0]at hh;exact bR hh
  ·intro hh;rw [B.a]at hh;exact absurd rfl hh
  intro hh;exact absurd (sA f m) hh
 ·refine aU (dA.mp m) ?_ ?_
  ·intro fX;rw [fX];rw [f1];exact⟨(λ_ m=>nomatch m),(by decide:0<100)⟩
  intro m;exact P.an x2 y2 tl (aK _) m
 ·rw [i2 f,s1 f];by_cases m:f∈cT σ (h::dn a d (x,y) a.length);·rw [if_pos m,se]
  rw [if_neg m,nw.mpr λu=>m<|iE▸(P.ab X).mpr u];rfl
 haveI l1:=congrArg gB i1;haveI l2:=congrArg gB s2;rw [ai]at l1 l2;rw [l1,l2];exact NU nd (sn fU) λf=>by rw [iE,P.ab X,jV];simp
end
set_option backward.match.sparseCases false
theorem tD:∀{t:Ty},t.e []=t|.j n=>rfl|.l _=>rfl|.u _=>rfl|.r t=>congrArg Ty.r<|tD (t:=t)|.m c t=>congrArg (Ty.m c)<|tD (t:=t)|.o c s t=>by refine(?_:Ty.o c _ _=Ty.o c _ _);rw [tD (t:=s),tD (t:=t)]
theorem sc0{t x y:Ty}(h:t.k d=true)(a:x.w 0=true)(c:y.w 0=true):(t.e [x,y]).w 0=true:=by
 induction d generalizing t with
 |zero=>induction t using Ty.casesOn with
  |l n=>rfl|j n=>rcases rA.2 n h with q|q|q|q<;>cases q;exact a;exact c
  |_=>exact ft h
 |succ d e=>induction t using Ty.casesOn with
  |l n=>rfl|j n=>rcases rA.2 n h with q|q|q|q<;>cases q;exact a;exact c
  |r t=>exact e (t:=t) h|_=>exact ft h
noncomputable def Uo(a:List cC)(c:Nat)(d:Ty×Ty)(i:Nat):List Ty:=if i=66+a.length then dn a c d a.length else dn a (i-66) dH<|i-66
section
theorem C2(c:n<a.length):Uo a d e (66+n)=dn a n dH n:=by unfold Uo;rw [if_neg<|j0<|DM c 66,show 66+n-66=n from(bj (aV Y Z [.e (.p 0 66)<|.a cg Z] U<|bY<|cA cg (.a cg Y) [] U)<|aV Y Z [.g (.p 1 66)<|.a cg Y] U<|bY<|cA cg (.a cg Y) [] U)]
theorem Nf:Uo a c d (66+a.length)=dn a c d a.length:=if_pos rfl
theorem GV(e:∀i,i<66+d.length->a.b i=m.b i):∀{n:Nat},n<=d.length->dD a d n=dD m d n|0,_=>rfl|n+1,h=>by haveI p:=GV e (n:=n)<|AO h;refine(?_:(match d[n]?,a.b (66+n)with|some l,J c=>cB [] (c.c.flatMap cq++(dD a d n).map (Ty.e [l.a,l.b]))|_,_=>[])=_);rw [e _<|be (.a cg Y) (.a cg Z) [.l aR Z] U h,p];rfl
theorem Pl.bB(P:Pl q t)(a:∀i,i<66+t.length->d.b i=q.b i) (hm:∀j,d.d j=q.d j):Pl d t:=by
 refine aG P.F.i λw m B=>aG P.F.j λD p R=>aG P.ob λco X h3=>⟨⟨⟨w,(a _<|bA (.n 64) (.a cg Y) [] U).trans m,B⟩,⟨D,(a _<|bA (.n 65) (.a cg Y) [] U).trans p,R⟩⟩,(hm _).trans P.m1,(hm _).trans P.m2,⟨co,(a _<|bA au (.a cg Y) [] U).trans X,h3⟩,λn l e=>?_,P.A⟩
 refine oE (P.G n l e) λc L=>?_;haveI v:=GK e;exact⟨c,(a _<|be (.a cg Y) (.a cg Z) [.t Y Z] U v).trans L.a,L.s,L.G,L.C,L.B,L.w,λx h=>(L.b x h).e λj y z=>(hm j).trans z,L.D,L.d,L.H,L.g,L.E,L.k,L.v,L.r,L.y,by rw [GV a v];exact L.A,L.I,L.F⟩
theorem GW(d:l.b t.s=J c)(B:tC c b)(a:∃z,t.F=J z) (n:t.p=as) (p:jQ as b):eZ l t c/\l.n t=J (b.e as):=by refine⟨⟨d,.inr a,(λu e=>by rw [B.e]at e;(replace e:=ao e;subst e);rw [n];exact p),(λu m=>by rw [B.f]at m;exact bR m),(λe m=>by rw [B.a]at m;exact bR m),by rw [B.f];decide⟩,?_⟩;unfold az.n;rw [d,n];refine(?_:c.e.map _=_);rw [B.e];rfl
theorem zV(l:i<14)(a:x.k 1=true)(c:y.k 1=true)(d:X.k 4=true)(e:fY.k 4=true):jQ [X,fY] (.o (66+i) x y):=by
 refine⟨?_,?_,?_⟩;·refine(?_:(x.w 2&&y.w 2)=true);rw [vH a,vH c];rfl
 ·refine(?_:(aJ (66<=66+i)&&aJ (66+i<80)&&(x.e [X,fY]).k 8&&(y.e [X,fY]).k 8)=true);rw [cS<|hQ d e a,cS<|hQ d e c,decide_eq_true<|jZ 66 i,decide_eq_true (DM l 66:66+i<80)];rfl
 exact aV (.a (.a Y Z) au) js [.l Y au,.l Z au] U (sp a)<|sp c
theorem Pl.bC(P:Pl p a)(q:a.length=e+1)(v:p.b (66+a.length)=J c)(B:tC c<|.o (66+e) x y)(n:c.g=2)(l:x.k 1=true)(m:y.k 1=true):
  GT p a e (Uo a e (x,y)) c (.o (66+a.length) (.j 0)<|.l 7) (cr<|66+a.length) x y (x.e [.j 0,.l 7]) (y.e [.j 0,.l 7]):=by
 haveI w:=P.A;obtain⟨z,D⟩:=GW (t:=.o (66+a.length) (.j 0)<|.l 7) v B ⟨_,rfl⟩ rfl (zV (ae<|nX q w) l m rfl rfl);obtain⟨R,X⟩:=GW (t:=cr<|66+a.length) v B ⟨_,rfl⟩ rfl (zV (ae<|nX q w) l m rfl rfl);refine⟨⟨rfl,rfl⟩,z,R,D,X.trans<|congrArg J jv,⟨⟨cS l,cS m⟩,?_,?_⟩,?_,.inr ⟨nofun,rfl,n,Nf⟩,λf hf=>?_,λf=>rB⟩;·exact cS (d:=1) (hQ (d:=0) rfl rfl l)<|by decide
 ·exact cS (d:=1) (hQ (d:=0) rfl rfl m)<|by decide
 ·rw [GP,Nf]
 exact CU (CQ hf l m) (aK _) rfl rfl
theorem Pl.bE(P:Pl w l)(z:l.length=d+1)(hc:w.b (66+l.length)=J c)(B:tC c<|.o (66+d) x y)(m:x.k 1=true)(n:y.k 1=true)(D:x.w 0=true)(R:y.w 0=true):
  GT w l d (Uo l d (x,y)) c (.u<|66+l.length) (.u<|66+l.length) x y x y:=by
 haveI X:=P.A;haveI cl:jQ [] (.o (66+d) x y):=by
  refine⟨?_,?_,(zV (X:=.j 0) (fY:=.j 1) (ae<|nX z X) m n rfl rfl).2.2⟩;·refine(?_:(x.w 0&&y.w 0)=true);rw [D,R];rfl
  rw [tD];haveI:=(zV (i:=d) (X:=.j 0) (fY:=.j 1) (ae<|nX z X) m n rfl rfl).2.1;rw [jv]at this;exact this
 refine on (GW (as:=[]) (t:=.u<|66+l.length) hc B ⟨_,rfl⟩ rfl cl) λo1 p=>?_;rw [tD]at p;haveI x2:=cS m (by decide:1<=2);haveI y2:=cS n (by decide:1<=2);refine⟨⟨rfl,rfl⟩,o1,o1,p,p,⟨⟨x2,y2⟩,x2,y2⟩,?_,.inl ⟨rfl,rfl,rfl⟩,λf hf=>?_,λf=>tD⟩;·refine(?_:(Ty.u<|66+l.length,(List.take (l.length+1) (Ty.u (66+l.length)::dn l d (x,y) l.length).reverse).reverse)=_);rw [jn,List.take_append_of_le_length<|by rw [xS];exact aK _,DT<|by rw [xS];exact aK _,IA]
 refine aG hf λa q e=>?_;haveI s0:=sc0 q D R;haveI v:=hQ m n q;haveI t8:=cS v (by decide:3+1<=8);haveI h4:=sp v;refine(?_:_/\((f.e [x,y]).e []).A=true/\_);rw [tD];clear v q hf;rcases e with rfl|rfl
 ·refine⟨s0,?_,show(a.e [x,y]).v+1<=20 from(cA aR js [.l Y<|.a bq au] U h4)⟩;refine(?_:((64==64||64==65)&&(a.e [x,y]).k 8)=true);rw [t8];rfl
 refine⟨s0,?_,show(a.e [x,y]).v+1<=20 from(cA aR js [.l Y<|.a bq au] U h4)⟩;refine(?_:((65==64||65==65)&&(a.e [x,y]).k 8)=true);rw [t8];rfl
end
set_option backward.match.sparseCases true
section
theorem C3(h:eK bW H .d u v=J false):eK bW H .c u v=J true:=by
 have h:(oK H u v).map (!·)=J false:=h;refine(?_:oK H u v=J true);induction e:oK H u v with
 |none=>rw [e]at h;exact aX h|some b=>rw [e]at h;induction b<;>first|rfl|cases h
structure lN(H:Hp)(K:List Ty)(ls:List cC)(fs:List Ty)(x y:Ty)(va ia il:Nat)(kv:V)(jN:List V)(m1:fQ):Prop where
 T:VT H K va kv ((cu ls).1,gT ls (x,y))
 o:H[ia]?=J (.b 673 [(46,kv),(12,.j il),(0,.j<|ia+2)])
 i:H[il]?=J (.a jN)
 a:bB K jN<|mw x y fs
 D:FD cZ H K (ia+2) m1
 e:∀f,cH m1 f=cH (pH ls x y) f
 l:m1.length=(pH ls x y).length
theorem lN.b(N:lN H I v w x y n p q z d m1)(P:Nx k H I A K')(B:k+6<=n)(t:k+6<=p)(C:k+6<=q):lN A K' v w x y n p q z d m1:=
 ⟨N.T.d P B λ_ m=>by exact bR m,P.b N.o<|.inr t,P.b N.i<|.inr C,N.a.b P,N.D.h P (dF _ t) c_,N.e,N.l⟩
theorem Ng(P:Pl e a)(W:Wo k e A H K)(hc:eZ e h c)(hs:c.d=1)(hf:c.f=0)(R:At K hv h)(T:NW e aW a x y<|h::dn a aN (x,y) a.length)(N:lN H K a (dD e a a.length) x y X ia il kv w m1)(ga:k+6<=X)(gi:k+6<=ia)(gl:k+6<=il)
  (z:((cu a).1.map bI).Nodup) (B:(cu a).2.length<1000) (q:∀H',Q (.n true) H'):
  dC (aa<|n+38) (QN.a 5) [J<|.j A.s,J wA,J<|V.m [.j X,.j ia],x3,x4,x5,J hv,x7,aA] H (gX Q):=by
 haveI ko:=bw W.c.d;refine FW (n:=n) P.F W R T.a rfl T.c T.d ?_;intro H1 K1 vb v l p C vk;haveI rh:=v.j;haveI W1:=W.n v;haveI t:=p;rw [T.b]at t;haveI D:(fP e aW (h::dn a aN (x,y) a.length).reverse).2.length<1000:=by rw [T.b];refine(?_:(gT a (x,y)).length<1000);unfold gT;rw [ai];exact B
 refine Fj (n:=n) P.F P.av W1 (R.b v) T.a rfl hc hs hf p C (bb cJ Z [.t bu aB,.l aB Z] U ko l) D T.e T.g T.h ?_;intro H2 K2 ib jl I N2 U3 U4 o2 i2 a2 D2;have M:=(N.b v ga gi gl).b N2 ga gi gl;haveI d:=t.d N2 (bb cJ Z [.t bu aB,.l aB Z] U ko l) λ_ m=>by exact bR m
 haveI el:I=w:=by rw [a2.1,M.a.1,T.i]
 refine aL d.b<|bS rfl ?_;refine aL M.T.b<|bK (C3<|zN d.e M.T.e Fy)<|aL d.b<|bS rfl ?_;refine aL M.T.b<|bK (C3<|Mb d.c M.T.c z)<|aL o2<|bS rfl ?_;refine aL M.o<|bK (C3<|Mc D2 M.D (T.k.trans M.l.symm) λf=>(T.j f).trans (M.e f).symm)<|aL o2<|bS rfl ?_;refine aL M.o<|bK (C3 (zN i2 (el▸M.i)<|by rw [a2.1];exact FY))<|q H2
theorem aCm(P:Pl D c)(B:Bd H k D A K R)(p:D.g.length=66+c.length)(I:c.length=a+1)(hk:(cu c).1.map bI=c.flatMap λl=>l.c.map (·.1)) (gV:ji<|cu c) (yT:((cu c).1.map bI).Nodup) (pk:(cu c).2.length<1000)
  (hx:x.k 1=true) (hy:y.k 1=true) (hw:(er x=84\/er x=85)\/((er x≠84/\er x≠85)/\x.w 0=true/\y.w 0=true)) (ak:At K kv<|.o (66+a) x y) (N:lN H K c (dD D c c.length) x y va ia il kv jN m1) (fr:∀l,m<=l->R l=aA) (hm:k+6<=m) (ga:m<=va) (gi:m<=ia) (gl:m<=il) (q:∀H',Q (.n true) H'):
  aa (n+39) 81 [.j A.s,gJ x y,V.m [.j va,.j ia]] H Q:=by
 haveI hl:=P.A;refine gG (fn:=QW) [J _,J _,J _,aA,aA,aA,aA,aA,aA] rfl rfl rfl ?_;refine bS rfl ?_;refine aL N.T.b<|bS rfl ?_;haveI w5:=(ux<|.inl<|cS hx (by decide:1<=8)).2.2.2.2;refine bS (Fp w5) ?_;have U5:∀(W:Nat)(H1:Hp)(ws:List V)(Qa:V->Hp->Prop),ws.length=W->W<=2->nz H (.a ws) H1->
   (∀H2 A2 R2,Bd H2 k (D.k<|ju 1 W<|J<|.o (66+a) x y) A2 K R2->A2.s=A.s->Pl (D.k<|ju 1 W<|J<|.o (66+a) x y) c->lN H2 K c (dD (D.k<|ju 1 W<|J<|.o (66+a) x y) c c.length) x y va ia il kv jN m1->(D.k<|ju 1 W<|J<|.o (66+a) x y).b (66+c.length)=J (ju 1 W<|J<|.o (66+a) x y)->Qa (.d (66+c.length:Nat)) H2)->
   aa (n+38) 27 [.j A.s,.d 0,.k [72],.d 1,.d 0,kv,.j H.length] H1 Qa:=by
  intro W H1 ws Qa iy yZ u1 qa;haveI B1:=B.F u1;have t:=B.W.b.p.2.2.2.2.2;haveI rp:R H.length=none:=by
   induction e:R H.length with
   |none=>rfl|some r=>haveI:=(B.f _ r e).1;omega
  refine GC (n:=n+35) (so:=1) (nm:=[72]) (bv:=kv) (base:=J<|.o (66+a) x y) B1 (.inl rfl) (.inr ⟨_,rfl,ak⟩) rfl u1.b rp (.inr<|aH t.2 t.1) (cN<|mZ iy yZ) (be aR dz [.e Y<|.a cg Z,.l Z bq] U p hl) ?_;intro H2 A2 R2 B2 X G2;rw [iy]at B2;have g:∀l o,H[l]?=J o->m<=l->H2[l]?=J o:=λl o e q=>G2.i _ _ (u1.a _ _ e) (.inl<|fr l q) (.inr<|aH hm q) c_;haveI oc:∀i,i<66+c.length->(D.k<|ju 1 W<|J<|.o (66+a) x y).b i=D.b i:=λi h=>by rw [zP,if_neg<|aj<|eY h p]
  rw [p];refine qa H2 A2 R2 B2 X (P.bB oc λ_=>rfl) ⟨⟨g _ _ N.T.b ga,g _ _ N.T.e<|dF _ ga,N.T.f,g _ _ N.T.c<|dF _ ga⟩,g _ _ N.o gi,g _ _ N.i gl,?_,⟨g _ _ N.D.c<|dF _ gi,N.D.i,N.D.j,N.D.n⟩,N.e,N.l⟩ ?_;·rw [GV oc<|aK _];exact N.a
  rw [zP,if_pos p.symm]
 refine aU hw ?_ ?_
 ·intro hw;have ci:eK bW H .b (.k [er x]) (.k [84,85])=J true:=by
   refine(?_:J (aJ<|er x∈[84,85])=_);rw [decide_eq_true];rcases hw with e|e<;>rw [e]<;>simp
  refine bK ci<|bX λH1 u1=>U5 2 H1 _ _ rfl (aK _) u1 ?_;intro H2 A2 R2 B2 X w M2 z;have v:=B2.W;have s2:=v.b.b;rw [X]at s2;have Bc:tC (ju 1 2<|J<|.o (66+a) x y) (.o (66+a) x y):=⟨rfl,rfl,rfl,rfl,rfl,rfl⟩
  have d:=w.bC I z Bc rfl hx hy;refine aL s2<|aL s2<|xE (n:=n+31) (i:=0) v.c (by decide) ?_;intro H3 K3 v3 N3 a3;refine xD (n:=n+31) (c:=66+c.length) (as:=[.j 0,.l 7]) (t:=.o (66+c.length) (.j 0)<|.l 7) N3.g (bB.n a3<|bB.d<|At.d N3.g.a (i:=7)<|by decide) rfl ?_ ?_;·refine(?_:(aJ (66<=66+c.length)&&aJ (66+c.length<80)&&true&&true)=true);rw [decide_eq_true<|jZ 66 c.length,decide_eq_true (by omega:66+c.length<80)];rfl
  intro H4 K4 v4 N4 a4;have uJ:=N3.f N4;refine aL (uJ.w s2<|.inl<|X▸v.b.r)<|aL (uJ.w s2<|.inl<|X▸v.b.r)<|xE (n:=n+31) (i:=0) uJ.g (by decide) ?_;intro H5 K5 v5 N5 a5;haveI U6:=uJ.f N5;haveI ak2:At K kv (.o (66+a) x y):=ak;have cl:=zV (i:=a) (X:=.j 0) (fY:=.l 7) (ae<|nX I hl) hx hy rfl rfl;refine xO (n:=n+8) (vs:=[v5,.d 7]) (as:=[.j 0,.l 7]) N5.g (ak2.b U6) (bB.n a5<|bB.d<|At.d N5.g.a (i:=7)<|by decide) cl.1 cl.2.1 (show 2<1000 by decide) cl.2.2 ?_;intro H6 K6 v6 N6 a6;have J_:=U6.f N6;haveI W6:=v.n J_;obtain⟨c0,T⟩:=w.aD (aW:=Uo c a (x,y)) (λn h=>C2 h) d.b.2.1 d.b.2.2 hk gV I;haveI e1:c.length-1=a:=(bj (bb Y Z [.e aB aY,.e aR aB] U I<|bY<|aV au Y [.g Y aY] U I)<|bb Y Z [.g aB aR,.g aY aB] U I<|bY<|aV au Y [.g Y aY] U I)
  haveI wS:=T.k;haveI Tok:=T.m;rw [e1]at wS Tok;haveI a6:At K6 v6 (.o (66+a) (x.e [.j 0,.l 7])<|y.e [.j 0,.l 7]):=a6;rw [<-X];refine FW (n:=n) (A:=A2) w.F W6 a6 T.e wS T.l T.g ?_;intro H7 K7 vb N7 KA U7 Jc vk;haveI U8:=J_.f N7;have C:=J_.j;haveI U9:=N7.j;have ko:=bw v.c.d;haveI Je:(fP (D.k<|ju 1 2<|J<|.o (66+a) x y) (Uo c a (x,y)) (dn c a (x.e [.j 0,.l 7],y.e [.j 0,.l 7]) c.length).reverse).2.length<1000:=by rw [T.a];refine(?_:(gT c _).length<1000);unfold gT;rw [ai];exact pk
  refine Fj (n:=n) (A:=A2) w.F w.av (v.n U8) (a6.b N7) T.e wS Tok T.n T.o U7 Jc (de cJ Z [.l aB Z,.l aI aB,.t bu aI] U KA C ko) Je T.p T.q T.r ?_;intro H8 K8 ib jl jws N8 U3 U4 o8 i8 a8 D8;haveI N28:=U8.f N8;haveI Ua:=U7.d N8 (de cJ Z [.l aB Z,.l aI aB,.t bu aI] U KA C ko) λ_ m=>by exact bR m
  rw [T.a]at Ua;rw [T.h]at a8;exact Ng (aN:=a) (aW:=Uo c a (x,y)) w (v.n N28) d.a Bc.d Bc.h ((((a4.b N5).b N6).b N7).b N8) (w.br (λn h=>C2 h) hk gV I z Bc d) ⟨Ua,o8,i8,a8,D8,T.i,T.j⟩ (de cJ Z [.l aB Z,.l aI aB,.t bu aI] U KA C ko) (jt cJ Z [.l aB aI,.l aI bF,.t bu aB,.l bF Z] U C U9 ko U3) (jt cJ Z [.l aB aI,.l aI bF,.t bu aB,.l bF Z] U C U9 ko U4) yT pk q
 refine λqz=>fk qz λhw sx sy=>?_;haveI ci:eK bW H .b (.k [er x]) (.k [84,85])=J false:=by
   refine(?_:J (aJ<|er x∈[84,85])=_);rw [decide_eq_false];intro m;refine aU (dA.mp m) ?_ ?_;·intro e;exact hw.1 e
   intro m;exact hw.2<|bg.mp m
 refine bK ci<|bX λH1 u1=>U5 0 H1 _ _ rfl (jI _) u1 ?_;intro H2 A2 R2 B2 X w M2 z;have v:=B2.W;haveI s2:=v.b.b;rw [X]at s2;have Bc:tC (ju 1 0<|J<|.o (66+a) x y) (.o (66+a) x y):=⟨rfl,rfl,rfl,rfl,rfl,rfl⟩
 haveI d:=w.bE I z Bc hx hy sx sy;refine aL s2<|xD (n:=n+31) (c:=66+c.length) (vs:=[]) (as:=[]) (t:=.u<|66+c.length) v.c bB.f rfl ?_ ?_;·refine(?_:(aJ (66<=66+c.length)&&aJ (66+c.length<80))=true);rw [decide_eq_true<|jZ 66 c.length,decide_eq_true (by omega:66+c.length<80)];rfl
 intro H4 K4 v4 N4 a4;rw [<-X];exact Ng (A:=A2) (aN:=a) (aW:=Uo c a (x,y)) w (v.n N4) d.a Bc.d Bc.h a4 (w.br (λn h=>C2 h) hk gV I z Bc d) (M2.b N4 (aH hm ga) (aH hm gi)<|aH hm gl) (aH hm ga) (aH hm gi) (aH hm gl) yT pk q
end
noncomputable def tE(n:Int):Nat:=(IF n 999983).toNat
theorem aCn:mF .e (.d a) (.d 999983)=J (aP<|tE a):=by
 refine(?_:(if(0:Int)<999983/\(999983:Int)<1000000000 then J (V.d<|IF a 999983)else aA)=_);rw [if_pos ⟨by decide,by decide⟩];have:0<=IF a 999983:=by rw [aHm _<|by decide];exact Int.emod_nonneg _<|by decide
 delta tE aP;rw [Int.toNat_of_nonneg this]
section
theorem aCo{e:List Int}(hl:e.length<=63)(q:∀(H:Hp)(X m:Nat)(C:List Nat)(c:Option V),H[X]?=J (.a<|C.map aP)->0<C.length->C.length<=40->m<=40->dC (aa n) (tN.a 3) [J<|.j 0,J<|.j X,J<|.d (m:Nat),aA,aA,aA,aA,aA,aA,aA,aA,aA,aA,aA,aA,aA,c] H (gX Q)):
  dC (aa n) tN [J<|.j 0,aA,aA,aA,aA,aA,aA,aA,aA,aA,aA,aA,aA,aA,aA,aA,aA] [.f<|e.map .d] (gX Q):=by
 refine ZT (l:=0) (h:=[.f<|e.map .d]) (vs:=e.map .d) rfl (by rw [ai];exact(cN hl)) ?_;refine⟨40,rfl,by decide,?_⟩;refine bX λH1 D=>fq D.b<|bX λH2 I=>?_;haveI l1:=D.c;haveI l2:=I.c;haveI t:(e.map V.d).take 40=(e.take 40).map V.d:=aG7.symm;have d:(e.take 40).length<=40:=by rw [aHu];exact aHv _ _
 haveI g1:=I.a _ _ D.b;rw [t]at g1;haveI ne:H1.length≠([O.f<|e.map .d]:Hp).length:=(a9<|nW l1)
 rw [t];refine Me (λw G h=>X3 λ(S P:List Int)(c:Option V)=>A5 (w=S.map .d) (e.take 40=P++S) (h[([O.f<|e.map .d]:Hp).length]?=J (.a<|(e.take 40).map .d)) (h[H1.length]?=J (.a<|(P.map tE).map aP))<|G=[J<|.j 0,aA,aA,aA,aA,aA,aA,aA,aA,aA,aA,aA,aA,aA,aA,aA,c]) ?_ ?_ ?_ ?_;·exact⟨_,[],aA,rfl,rfl,g1,I.b,rfl⟩
 ·rintro w G h ⟨S,P,c,-,-,B,-⟩;exact .inl B
 ·rintro G h ⟨S,P,c,p,x,B,A,rfl⟩;obtain rfl:S=[]:=by induction S using bk with|nil=>rfl|cons _ _=>exact iN p
  rw [cI]at x;rw [x]at d;refine gR A rfl (by rw [ai,ai];exact(cN d)) ?_;rw [ai,ai];by_cases z:P.length=0;·refine jC (show((P.length:Nat):Int)=0 from(congrArg ip<|bj (cA Y bQ [.e Y bQ] U z)<|cA bQ Y [] U))<|bX λH5 u5=>q H5 _ P.length [1,0,2,1,2,1,0,0,1,0,0,1,0,1,0,2,0,0,0,0,0,1,0,0,0] _ u5.b (by decide) (by decide) d
  refine dt (show ¬((P.length:Nat):Int)=0 from(mt hZ.mp<|a9<|bA bQ Y [.t bQ Y] U<|nF z))<|q h _ P.length (P.map tE) _ A (by rw [ai];exact(bA bQ Y [.t bQ Y] U<|nF z)) (by rw [ai];exact d) d
 rintro v bo G h ⟨S,P,c,p,x,B,A,rfl⟩ K' kn;induction S using bk with
 |nil=>exact hI p|cons a S=>
  haveI R:=(dP p).1;haveI W:=(dP p).2;rw [R];clear p;subst W;haveI pl:P.length<40:=by haveI:=congrArg gB x;rw [b9,rV]at this;exact(dg Y (.n 40) [.l Z<|.n 40,.g Z<|.a Y bN] U d this)
  refine bK aCn<|Fb A (by rw [ai,ai];exact(ae pl)) ?_;haveI u:=am.d (o:=.a<|(P.map tE).map aP++[aP<|tE a]) A;revert u;generalize h.set H1.length (.a<|(P.map tE).map aP++[aP<|tE a])=h3;intro u;refine kn _ _ ⟨S,P++[a],_,rfl,by rw [x,d6];rfl,u.a _ _ B<|iX ne,?_,rfl⟩;rw [u.b,cL,cL];rfl
end
noncomputable def C4:dh:=⟨1,0,aA,0,[],[],[]⟩
noncomputable def rD:az:=⟨(jK 64 aA).set 1<|J C4,[aA]⟩
theorem aCp(h:rD.b i=J c):i=1/\c=C4:=by
 unfold az.b rD at h;dsimp only at h;by_cases e:i=1;·subst e;(replace h:=ao h;subst h);exact⟨rfl,rfl⟩
 rw [qY<|iX e,aHw]at h;split at h<;>exact aX h
theorem zW(h:rD.d j=J m):False:=by
 induction j using iJ with
 |zero=>exact aX h|succ j=>exact aX h
noncomputable def Ni(b a:Nat):eW:=⟨b+1,b+14,b+9,b+10,b+11,b+12,λ_=>b+16,λ_=>0,a⟩
noncomputable def vK(b:Nat):Rl:=λl=>if l=b+1 then J .k else if l=b+14 then J .c else if l=b+11 then J .e else if l=b+10 then J .f else if b+16<=l/\l<=b+25 then J (.b 1<|l-(b+16))else if l=b then J .a else aA
section
noncomputable abbrev zX(d a e s:Nat)(l m n p c:Option V):aS:=[J<|.j 0,J<|.j d,J<|.d (a:Nat),J<|.j e,J<|.j s,l,m,n,p,aA,aA,aA,aA,aA,aA,aA,c]
theorem aCq{ms:List Nat}{I:Option V}(hn:H[nu]?=J (.a<|ms.map aP))
  (q:∀R,Bd R (H.length+2) rD (Ni H.length<|H.length+26) K0 (vK H.length)->R[nu]?=J (.a<|ms.map aP)->R[H.length]?=J (.a [aP 0])->dC (aa<|n+40) (tN.a 7) (zX nu P H.length (H.length+1) aA aA aA aA I) R (gX Q)):
  dC (aa<|n+40) (tN.a 3) [J<|.j 0,J<|.j nu,J<|.d (P:Nat),aA,aA,aA,aA,aA,aA,aA,aA,aA,aA,aA,aA,aA,I] H (gX Q):=by
 haveI ln:=bw hn;refine bX λH1 u1=>?_;have l1:=u1.c;refine bX λH2 u2=>?_;haveI l2:=u2.c;refine aBQ (n:=n+38) u2.b l2 ?_;intro H3 I3 a B o3 t3 m3 n3;rw [l1]at I3 a B o3 t3 m3 n3⊢;refine dE rfl ?_;refine bX λH4 u4=>?_;have x:=u4.c;refine⟨64,rfl,by decide,by decide,u4.b,?_⟩;refine bX λW u5=>?_;have C:=u5.c;rw [show H4.length=H.length+14 from(bj (bb Y (.p 1 14) [.e aB<|.a aY j8,.e Y bN] U a x)<|bb kO Z [.g aB<|.a aR j8,.g Z bN] U a x)];have k5:∀l o,H3[l]?=J o->W[l]?=J o:=λl o e=>u5.a _ _<|u4.a _ _ e;refine dO (k5 _ _ o3) rfl λH6 X=>?_;have D:=X.c;haveI t5:W[H.length+14]?=J (.a (jK 64 [V.o]).flatten):=by haveI:=u5.b;rw [show H4.length=H.length+14 from(bj (bb Y (.p 1 14) [.e aB<|.a aY j8,.e Y bN] U a x)<|bb kO Z [.g aB<|.a aR j8,.g Z bN] U a x)]at this;exact this
 haveI t6:=X.a _ _ t5<|a9<|bA aR kO [] U;refine bX λH7 u7=>?_;have l7:=u7.c;refine bX λH8 u8=>?_;haveI l8:=u8.c;refine Mj (n:=n+39) u8.b l8 (u8.a _ _ u7.b) (nW l7) (by decide) ?_;intro H9 I9 l9 o9 g1 g2 g6 g7;rw [show H7.length=H.length+16 from(bj (mY Y (.p 1 16) [.e aB<|.a aY j8,.e aI bN,.e bF fM,.e bO bF,.e Y ku] U a x C D l7)<|mY kP Z [.g aB<|.a aR j8,.g aI bN,.g bF fM,.g bO bF,.g Z ku] U a x C D l7)]at I9 l9 o9 g1 g2 g6 g7⊢;refine dE rfl ?_;have k9:∀l o,l<H6.length->H6[l]?=J o->H9[l]?=J o:=λl o h e=>I9.d _ _ (u8.a _ _<|u7.a _ _ e)<|aj<|yg Y (.p 1 16) [.e aB<|.a aY j8,.e aI bN,.e bF fM,.e bO bF,.t Y bO] U a x C D h;haveI s9:=k9 _ _ (eY (eV (wn a x) C) D) X.b;refine aL s9 ?_;haveI t9:=k9 _ _ (fe [_,_,_,_,_] kO Z [.g aB<|.a aR j8,.g aI bN,.g bF fM,.g Z bF] U a x C D) t6;refine jS t9 (Bv (i:=1) (by decide)<|by decide) ?_;have u:am H9 (H.length+14) (.a<|(jK 64 [V.o]).flatten.set 1<|.j<|H.length+16) (H9.set (H.length+14)<|.a<|(jK 64 [V.o]).flatten.set 1<|.j<|H.length+16):=am.d t9;revert u;generalize H9.set (H.length+14) (.a<|(jK 64 [V.o]).flatten.set 1<|.j<|H.length+16)=p;intro u;haveI l10:=u.c;haveI fC:∀l o,l<W.length->l≠H.length+1->l≠H.length+14->W[l]?=J o->p[l]?=J o:=λl o h h1 h2 e=>u.a _ _ (k9 _ _ (eY h D)<|X.a _ _ e h1) h2;have A:∀l o,l<H3.length->l≠H.length+1->H3[l]?=J o->p[l]?=J o:=λl o h h1 e=>fC l o (eV (eV h x) C) h1 (aj<|dg Y (.p 1 14) [.e aB<|.a aY j8,.t Y aB] U a h)<|k5 _ _ e;haveI f2:∀l o,l<H1.length->H1[l]?=J o->p[l]?=J o:=λl o h e=>A l o (eV (nY h l1) a) (aj<|nY h l1)<|I3.d _ _ (u2.a _ _ e)<|aj<|nY h l1;haveI t:∀i c,rD.b i=J c->i=1/\c=C4:=λi c h=>aCp h;haveI kt:KT p (H.length+2) K0:=by refine⟨B.a,A _ _ (be cm Z [.g Z<|.a aR j8] U a) (a9<|bA aR cm [] U) B.b,A _ _ (be (.a cm au) Z [.g Z<|.a aR j8] U a) (a9<|bP _<|bP _<|aK _) B.e,A _ _ (be (.a cm dB) Z [.g Z<|.a aR j8] U a) (a9<|bP _<|bP _<|aK _) B.f,A _ _ (be (.a cm bq) Z [.g Z<|.a aR j8] U a) (a9<|bP _<|bP _<|aK _) B.h,A _ _ (be (.a cm<|.n 4) Z [.g Z<|.a aR j8] U a) (a9<|bP _<|bP _<|aK _) B.j,A _ _ (be (.a cm<|.n 5) Z [.g Z<|.a aR j8] U a) (a9<|bP _<|bP _<|aK _) B.d⟩
 haveI td:TD p K0 (H.length+16) 1 C4:=by refine⟨⟨_,_,_,_,_,u.a _ _ o9<|a9<|bA kO kP [] U,rfl,rfl⟩,⟨[],u.a _ _ g1<|a9<|bA kO (.a kP au) [] U,bB.f⟩,⟨[],u.a _ _ g2<|a9<|bA kO (.a kP dB) [] U,rfl⟩,u.a _ _ g6<|a9<|bA kO (.a kP fh) [] U,⟨[],u.a _ _ g7<|a9<|bA kO (.a kP<|.n 7) [] U,.d⟩⟩
 have r:∀l,vK H.length l=if l=H.length+1 then J .k else if l=H.length+14 then J .c else if l=H.length+11 then J .e else if l=H.length+10 then J .f else if H.length+16<=l/\l<=H.length+25 then J (.b 1<|l-(H.length+16))else if l=H.length then J .a else none:=λ_=>rfl;refine q p ⟨⟨kt,⟨u.a _ _ s9<|by refine(?_:H.length+1≠H.length+14);exact(aj<|bA aR kO [] U),⟨_,u.b,rfl,λi c h=>?_⟩,⟨[.o],A _ _ (by refine(?_:H.length+10<_);exact(be nR Z [.g Z<|.a aR j8] U a)) (by refine(?_:H.length+10≠_);exact(a9<|bA aR nR [] U)) m3,rfl,λj m h=>(zW h).elim⟩,λi c h=>?_,λj m h=>(zW h).elim,by decide,⟨[],A _ _ (by refine(?_:H.length+11<_);exact(be (.p 0 11) Z [.g Z<|.a aR j8] U a)) (by refine(?_:H.length+11≠_);exact(a9<|bA aR (.p 0 11) [] U)) n3,jI _⟩,tc _,⟨?_,?_,?_,λi c h=>?_,λj m h=>(zW h).elim⟩,⟨?_,?_,?_,λi c h=>?_,λj m h=>(zW h).elim,?_,?_⟩⟩⟩,?_,?_,?_,?_,λi c h d hd=>?_,λj m h=>(zW h).elim,λl z h=>?_⟩ (f2 _ _ (eV ln l1)<|u1.a _ _ hn)<|f2 _ _ (nW l1) u1.b;·haveI v:=(t i c h).1;haveI w:=(t i c h).2;rw [v];rw [w];rfl
 ·haveI v:=(t i c h).1;haveI w:=(t i c h).2;rw [v];rw [w];exact td
 ·refine(?_:H.length+2+6<=H.length+14);exact(cA (.a cm fh) kO [] U)
 ·refine(?_:H.length+2+6<=H.length+10);exact(cA (.a cm fh) nR [] U)
 ·refine(?_:H.length+2+6<=H.length+11);exact(cA (.a cm fh) (.p 0 11) [] U)
 ·refine(?_:H.length+2+6<=H.length+16);exact(cA (.a cm fh) kP [] U)
 ·refine(?_:H.length+14<H.length+26);exact(bA kO (.p 0 26) [] U)
 ·refine(?_:H.length+10<H.length+26);exact(bA nR (.p 0 26) [] U)
 ·refine(?_:H.length+11<H.length+26);exact(bA (.p 0 11) (.p 0 26) [] U)
 ·refine(?_:H.length+16+9<H.length+26);exact(bA (.a kP<|.n 9) (.p 0 26) [] U)
 ·refine(?_:H.length+26<=p.length);exact(bb (.p 0 26) Z [.g aB<|.a kP iF,.g Z aB] U l9 l10)
 ·refine(?_:H.length+2+6<=H.length+26);exact(cA (.a cm fh) (.p 0 26) [] U)
 ·exact if_pos rfl
 ·refine(?_:vK H.length (H.length+14)=_);rw [r,if_neg<|a9<|bA aR kO [] U,if_pos rfl]
 ·refine(?_:vK H.length (H.length+11)=_);rw [r,if_neg<|a9<|bA aR (.p 0 11) [] U,if_neg<|aj<|bA (.p 0 11) kO [] U,if_pos rfl]
 ·refine(?_:vK H.length (H.length+10)=_);rw [r,if_neg<|a9<|bA aR nR [] U,if_neg<|aj<|bA nR kO [] U,if_neg<|aj<|bA nR (.p 0 11) [] U,if_pos rfl]
 ·haveI v:=(t i c h).1;haveI w:=(t i c h).2;rw [v];rw [w];refine(?_:vK H.length (H.length+16+d)=_);rw [r,if_neg<|a9<|be aR (.a kP Z) [] U,if_neg<|a9<|be kO (.a kP Z) [] U,if_neg<|a9<|be (.p 0 11) (.a kP Z) [] U,if_neg<|a9<|be nR (.a kP Z) [] U,if_pos ⟨(aV kP (.a kP Z) [] U),(aV (.a kP Z) (.p 0 25) [.l Z<|.n 9] U hd)⟩,Rf]
 rw [r]at h;repeat' split at h
 all_goals first|exact⟨by omega,by omega⟩|cases h
end
noncomputable def qK:dh:=ju 3 1 aA
noncomputable def C5:az:=((rD.k qK).k qK).h 65 {qK with c:=[.m 64<|.j 0]}
noncomputable def Nj:az:=(C5.l ⟨64,[109],14,.j 0⟩).h 64 {qK with a:=[1]}
noncomputable def xV:az:=(Nj.l ⟨65,[106],14,.j 0⟩).h 65 {{qK with c:=[.m 64<|.j 0]}with a:=[2]}
theorem aCr:pJ xV [] where
 F:=⟨⟨_,rfl,rfl,rfl,rfl,rfl,rfl⟩,⟨_,rfl,rfl,rfl,rfl,rfl,rfl⟩⟩
 j:=rfl
 k:=rfl
 o:=⟨_,rfl,rfl,rfl,rfl,rfl,rfl,rfl⟩
 p:=rfl
 i:=λn l h=>by exact aX h
 d:=⟨by decide,by decide⟩
 q:=by decide
section
variable{ms:List Nat}
theorem Bd.ab(B:Bd H k p A x R)(h:R l=aA)(n:k+6<=l/\l<H.length):Bd H k p A x λj=>if j=l then J r else R j:=by
 have a:∀{j s},R j=J s->(if j=l then J r else R j)=J s:=λ{j s} e=>by rw [if_neg λq=>by rw [q,h]at e;cases e];exact e
 refine⟨B.W,a B.D,a B.t,a B.w,a B.C,λi c e d hd=>a<|B.v i c e d hd,λj m e d hd=>a<|B.E j m e d hd,λj s e=>?_⟩;split at e;·rename_i q;rw [q];exact⟨n.2,.inr n.1⟩
 exact B.f j s e
theorem aCs(B:Bd H k rD A K R)(hn:H[d]?=J (.a<|ms.map aP))(P:R d=aA)(hnk:d<k\/k+6<=d)(ht:H[v]?=J (.a [aP 0]))(z:R v=J .a)(EY:0<ms.length/\ms.length<1000)
  (q:∀(c:Hp)(D:eW)(K':List Ty)(w:Rl)(I W:Nat)(y5 y6:Option V),Bd c k xV D K' w->D.s=A.s->k+6<=I->w I=J .g->w v=J .a->c[I]?=J (.a [])->c[v]?=J (.a [aP 0])->c[d]?=J (.a<|ms.map aP)->w d=aA->c[W]?=J (.a [])->w W=aA->k+6<=W->W≠d->dC (aa<|n+40) (tN.a 13) (zX d X v A.s y5 y6 (J<|.j I) (J<|.j W) i_) c (gX Q)):
  dC (aa<|n+40) (tN.a 7) (zX d X v A.s aA aA aA aA i_) H (gX Q):=by
 have a:∀{H:Hp}{x:az}{A:eW}{K:List Ty}{R:Rl}{l:Nat},Bd H k x A K R->H.length<=l->R l=aA/\k+6<=l:=λ{H x A K R l} B h=>by
  have t:=B.W.b.p.2.2.2.2.2;refine⟨?_,(aH (aH t.2 t.1) h)⟩;induction e:R l with
  |none=>rfl|some r=>exact absurd (B.f l r e).1<|ve<|by assumption
 haveI ln:=bw hn;haveI lt:=bw ht;haveI kt:v<k\/k+6<=v:=(B.f _ _ z).2;have qN:∀(x:az)(nm:List Nat)(H:Hp)(D:eW)(K:List Ty)(R:Rl)(s:Nat)(Qa:V->Hp->Prop),Bd H k x D K R->D.s=s->(V.k nm).p=true->x.g.length+1<1000->
   (∀c Ub w,Bd c k (x.k qK) Ub K w->Ub.s=s->Go true k [] H R c w->Qa (aP x.g.length) c)->je (.a [V.k [88]]) H λl h=>aa (n+40) 27 [.j s,.d 0,.k nm,.d 3,.d 0,.d<|-1,.j l] h Qa:=by
  intro x nm H D K R s Qa B es hp sz qa;obtain rfl:=es;refine bX λH1 u1=>?_;haveI f1:=(a B<|aK _).1;haveI f2:=(a B<|aK _).2;refine GC (n:=n+37) (so:=3) (nm:=nm) (base:=aA) (B.F u1) (.inr rfl) (.inl ⟨rfl,rfl⟩) hp u1.b f1 (.inr f2) (show 1<1000 by decide) sz ?_;intro H2 A2 R2 B2 eA G2;exact qa H2 A2 R2 B2 eA<|(Go.f.n u1).d G2
 refine qN rD [73] H A K R A.s _ B rfl rfl (by decide) ?_;intro H1 A1 R1 B1 e1 G1;refine qN (rD.k qK) [74] H1 A1 K R1 A.s _ B1 e1 rfl (by decide) ?_;intro H2 A2 R2 B2 e2 G2;haveI s2:=B2.W.b.b;rw [e2]at s2;refine aL s2<|lK (n:=n+32) (t:=.m 64<|.j 0) B2.W.c (.inr ⟨.j 0,rfl,.inl rfl⟩) ?_;intro H3 K3 v3 N3 a3;haveI B3:=B2.I N3 λ_ m=>by exact bR m
 rw [<-e2];refine Mk (n:=n+39) (i:=65) (c:=qK) B3 rfl a3 (by decide) ?_;intro H4 B4 G4;haveI B4:Bd H4 k C5 A2 K3 R2:=B4;haveI G24:Go true k [] H2 R2 H4 R2:=(Go.s N3).d G4;haveI s4:=B4.W.b.b;refine⟨2,rfl,by decide,?_⟩;refine⟨trivial,?_⟩;refine bS rfl ?_;refine aL s4<|lK (n:=n+32) (t:=.j 0) B4.W.c (.inl rfl) ?_;intro H5 K5 v5 N5 a5;haveI B5:=B4.I N5 λ_ m=>by exact bR m
 refine GB (n:=n+37) (i:=64) (fl:=14) (c:=qK) (nm:=[109]) B5 rfl a5 (.inl rfl) (.inr<|.inr rfl) (by decide) (by decide) ?_;intro H6 A6 R6 B6 e6 G6;haveI B6:Bd H6 k Nj A6 K5 R6:=B6;haveI e62:A6.s=A.s:=e6.trans e2;haveI s6:=B6.W.b.b;refine⟨trivial,?_⟩;refine bS rfl ?_;rw [e6]at s6;refine aL s6<|lK (n:=n+32) (t:=.j 0) B6.W.c (.inl rfl) ?_;intro H7 K7 v7 N7 a7;haveI B7:=B6.I N7 λ_ m=>by exact bR m
 rw [<-e6];refine GB (n:=n+37) (i:=65) (fl:=14) (c:={qK with c:=[.m 64<|.j 0]}) (nm:=[106]) B7 rfl a7 (.inr<|.inl rfl) (.inr<|.inr rfl) (by decide) (by decide) ?_;intro C A8 R8 B8 e8 G8;haveI B8:Bd C k xV A8 K7 R8:=B8;haveI e80:A8.s=A6.s:=e8;refine⟨trivial,?_⟩;refine bX λH9 u9=>?_;haveI l9:=u9.c;haveI r8:=(a B8<|aK C.length).1;haveI k8:=(a B8<|aK C.length).2;haveI B9:=B8.F u9;refine bX λHa ua=>?_;haveI I:=ua.c;haveI r9:=(a B9<|aK H9.length).1;haveI k9:=(a B9<|aK H9.length).2;haveI Ba:=(B9.F ua).ab (l:=C.length) (r:=.g) r8 ⟨k8,(wn l9 I)⟩;have p:Go true k [] H R C R8:=((((G1.d G2).d G24).d<|Go.s N5).d G6).d<|(Go.s N7).d G8;haveI ga:∀l o,C[l]?=J o->Ha[l]?=J o:=λl o e=>ua.a _ _<|u9.a _ _ e;haveI Uc:=p.i _ _ hn (.inl P) hnk c_;haveI Ud:=p.i _ _ ht (Mm z<|.inr<|.inl rfl) kt c_;haveI rt:R8 v=J .a:=(p.g _ lt).trans z;haveI rn:R8 d=none:=(p.g _ ln).trans P;haveI Ue:=bw Uc;haveI l8t:=bw Ud;rw [<-e2,<-e6]at q;exact q Ha A8 K7 _ C.length H9.length _ _ Ba e80 k8 (if_pos rfl) ((if_neg<|j0 l8t).trans rt) (ua.a _ _ u9.b) (ga _ _ Ud) (ga _ _ Uc) ((if_neg<|j0 Ue).trans rn) ua.b ((if_neg<|a9<|nW l9).trans r9) k9<|a9<|eV Ue l9
end
noncomputable def S8:List (Ty×Ty):=[(.l 7,.l 7),(.j 1,.j 0),(.j 0,.j 0),(.r<|.j 0,.j 1),(.l 13,.l 13),(.l 7,.l 13),(.r<|.j 1,.r<|.j 1),(.l 13,.r<|.l 7)]
noncomputable def Nk(p:Ty×Ty):V:=gJ p.1 p.2
def GX(x y:Ty):Prop:=(er x=84\/er x=85)\/((er x≠84/\er x≠85)/\x.w 0=true/\y.w 0=true)
theorem aCt(h:r<8):X2 λx y=>A4 (S8[r]?=J (x,y)) (x.k 1=true) (y.k 1=true) (GX x y):=by unfold GX;rcases(by decide:∀r<8,r=0\/r=1\/r=2\/r=3\/r=4\/r=5\/r=6\/r=7) r h with rfl|rfl|rfl|rfl|rfl|rfl|rfl|rfl<;>exact⟨_,_,rfl,by decide,by decide,by decide⟩
section
theorem lN.c(N:lN H I w z x y p q t A d m1)(g:∀l o,m<=l->H[l]?=J o->B[l]?=J o) (n:m<=p) (v:m<=q) (C:m<=t):lN B I w z x y p q t A d m1:=
 ⟨⟨g _ _ n N.T.b,g _ _ (dF _ n) N.T.e,N.T.f,g _ _ (dF _ n) N.T.c⟩,g _ _ v N.o,g _ _ C N.i,N.a,⟨g _ _ (dF _ v) N.D.c,N.D.i,N.D.j,N.D.n⟩,N.e,N.l⟩
theorem Nl(P:Pl X d)(W:Wo k X A H K)(es:A.s=s)(v:d.length=e+1)(hx:x.k 2=true)(hy:y.k 2=true)(hL:H[la]?=J (.a<|d.map fG))(yS:k+6<=la)(hT:TT H sa ra<|cu d)(wQ:k+6<=sa/\k+6<=ra)(p:ji<|cu d)(hk:(cu d).1.map bI=d.flatMap λl=>l.c.map (·.1))
  (hE:H[ea]?=J (.a<|(gS d).map iR)) (wR:k+6<=ea) (hF:H[fa]?=J (.a<|(dD X d d.length).map dW)) (uL:k+6<=fa)
  (q:∀w K' z B I t R m1,Nx k H K w K'->H.length<=z->H.length<=B->H.length<=I->At K' R (.o (66+e) x y)->lN w K' d (dD X d d.length) x y z B I R t m1->Q (V.m [.j z,.j B]) w):
  aa (n+39) 79 [.j s,.j la,V.m [.j sa,.j ra],.j ea,.j fa,gJ x y] H Q:=by
 subst es;obtain⟨c,T⟩:=P.aD (aW:=Uo d e dH) (λn h=>C2 h) hx hy hk p v;have C:=P.A;haveI fc:=P.K<|aK d.length;haveI ml:=P.V.b;have nd:=P.V.f;rw [<-hk]at ml nd;rw [ai]at ml;haveI e1:d.length-1=e:=(bj (bb Y Z [.e aB aY,.e aR aB] U v<|bY<|aV au Y [.g Y aY] U v)<|bb Y Z [.g aB aR,.g aY aB] U v<|bY<|aV au Y [.g Y aY] U v)
 refine aBs (n:=n) P.F P.av W P.V (P.H hk) T (be bQ Y [.g Y aY] U v) hL yS hT wQ p nd ⟨by haveI:=p.b;exact(cN this ml),NO⟩ hE wR hF uL (λf m=>oH (fc.1 f m)<|cY C) (by haveI:=fc.2.1;exact(be Y dz [.l Z bq,.l Z bq,.l Z bq,.l Z bq,.l Y<|.m 4 Z] U C C C C fc.2.1)) ?_;intro w K' z B I t R N l1 l2 l3 ak VT o i a D;rw [e1]at ak;rw [T.a]at VT;rw [T.h]at a;exact q w K' z B I t R _ N l1 l2 l3 ak ⟨VT,o,i,a,D,T.i,T.j⟩
theorem aCu(P:Pl X a)(W:Wo k X A H K)(es:A.s=s)(h0:0<a.length)(t:x.k 2=true)(v:y.k 2=true)(c:ji<|cu a)(m:(cu a).1.map bI=a.flatMap λl=>l.c.map (·.1))
  (hE:H[w]?=J (.a<|(gS a).map iR)) (p:k+6<=w) (e:lN H K a fs (.j 0) (.j 1) z B wl wv EC m0) (d:lN H K a fs x y C D il kv jN m1) (g1:k+6<=z) (g2:k+6<=B) (g3:k+6<=C) (g4:k+6<=D) (q:∀I K',Nx k H K I K'->Q (.n true) I):
  aa (n+32) 80 [.j s,.j w,V.m [.j z,.j B],V.m [.j C,.j D],gJ x y] H Q:=by
 subst es;haveI R:=P.V.b;rw [<-m,ai]at R;refine aBx (n:=n) W (P.H m) (P.cl t v m c h0 e.e d.e d.l) t v hE p e.T d.T g1 g3 ?_ e.o d.o g2 g4 e.D d.D q;unfold gT;rw [ai];haveI:=c.b;exact(cN this R)
theorem aCv(W:Lw H k m A X R p t d a i B)(es:A.s=s)(I:pJ m a)(C:a.length<=2)(Lf:d0 H R k d D<|.a<|(dD m a a.length).map dW)(P:i<40000)
  (q:∀e v K' w c x l z,Lw e k c v K' w p t d (a++[l]) x B->v.s=s->pJ c (a++[l])->d0 e w k d z (.a<|(dD c (a++[l])<|a.length+1).map dW)->x<=i+25->Q (.j z) e):
  aa (n+11) 76 [.j s,.j d,.j t,.j p,.j D] H Q:=by
 subst es;exact aB8 W I C Lf P q
theorem aCw(P:Pl e a)(B:Bd H k e A K R)(es:A.s=s)(c:e.g.length=66+a.length)(D:a.length=p+1)(v:(cu a).1.map bI=a.flatMap λl=>l.c.map (·.1)) (d:ji<|cu a)
  (I:x.k 1=true) (W:y.k 1=true) (X:GX x y) (ak:At K kv<|.o (66+p) x y) (N:lN H K a (dD e a a.length) x y w z il kv jN m1) (fr:∀l,m<=l->R l=aA) (hm:k+6<=m) (ga:m<=w) (gi:m<=z) (gl:m<=il) (q:∀H',Q (.n true) H'):
  aa (n+39) 81 [.j s,gJ x y,V.m [.j w,.j z]] H Q:=by
 subst es;haveI t:=P.V.b;haveI C:=P.V.f;rw [<-v]at t C;rw [ai]at t;exact aCm P B c D v d C (by haveI:=d.b;exact(cN this t)) I W X ak N fr hm ga gi gl q
def aCx(k:Nat)(R:Rl)(e:az)(A:eW)(t v w i s a:Nat)(c:List cC)(P:List Nat)(Q W l:Option V)(x sa z B:Nat)(C:Hp)(D H X:Nat)(m:List V)(wv:V)(m0:fQ)(H4:Hp)(j:Nat)(G:aS)(h:Hp):Prop:=∀d:Prop,(∀(n p q:Option V)(w0:G=[J<|.j 0,J<|.j w,J<|.d (a:Nat),J<|.j v,J<|.j s,Q,W,J<|.j t,J<|.j x,J<|V.m [.j sa,.j z],J<|.j B,J<|V.m [.j D,.j H],J<|.j C.length,n,p,q,l])(w1:j=0\/24<=a->X2 λ(K':List Ty)(I:Nat)=>A8 (Lw h k e A K' R t v w c I P) (I<=i+j) (H4.length<=h.length) (TT h sa z<|cu c) (h[B]?=J (.a<|(gS c).map iR)) (h[x]?=J (.a<|(dD e c c.length).map dW)) (h[C.length]?=J (.a<|S8.map Nk))<|lN h K' c (dD e c c.length) (.j 0) (.j 1) D H X wv m m0),d)->d
theorem aCy(W:Lw H k σ A K R la ta nu v i ns)(es:A.s=s)(I:pJ σ v)(h2:2<=v.length)(yS:k+6<=la)(Lf:d0 H R k nu fb<|.a<|(dD σ v v.length).map dW)(hi:i<40000)(EK:p<=40)(q:∀H',Q (.n true) H'):
  dC (aa<|n+40) (tN.a 14) (zX nu p ta s y5 y6 (J<|.j la) (J<|.j fb) i_) H (gX Q):=by
 have P:=I.s;haveI O:=P.V;obtain⟨aN,ht⟩:∃aN,v.length=aN+1:=⟨v.length-1,(bY<|dN (by decide) h2).symm⟩
 refine aBi (n:=n+36) O W.L ?_;intro H1 sa ra G1 w B T1 X hk;have N1:=G1.q W.B.W.c λ_ m=>by exact bR m
 have W1:=W.E N1;haveI E:=P.H hk;refine aBm (n:=n+36) O W1.L (bz (by decide) h2) E.b ?_;intro H2 ea G2 C Uf;have N2:=G2.q W1.B.W.c λ_ m=>by exact bR m
 have W2:=W1.E N2;haveI kh:=N1.f N2;have tp:=W.B.W.b.p.2.2.2.2.2;have a:=N1.j;have c:=N2.j;haveI T2:TT H2 sa ra (cu v):=⟨N2.b T1.b<|.inr<|aH (aH tp.2 tp.1) w,N2.b T1.a<|.inr<|aH (aH tp.2 tp.1) B⟩
 haveI F2:=kh.w Lf.b<|.inr Lf.c;refine Nl (n:=n+1) (x:=.j 0) (y:=.j 1) P W2.B.W es ht rfl rfl W2.L.b yS T2 ⟨(aH (aH tp.2 tp.1) w),(aH (aH tp.2 tp.1) B)⟩ X hk Uf (aH (aH (aH tp.2 tp.1) a) C) F2 Lf.c ?_;intro H3 K3 wa wi wl EC wv m0 N3 l1 l2 l3 akw Nw;haveI W3:=W2.E N3;have d:=N3.j;haveI T3:TT H3 sa ra (cu v):=⟨N3.b T2.b<|.inr<|aH (aH tp.2 tp.1) w,N3.b T2.a<|.inr<|aH (aH tp.2 tp.1) B⟩
 haveI E3:=N3.b Uf<|.inr<|aH (aH (aH tp.2 tp.1) a) C;haveI F3:=N3.b F2<|.inr Lf.c;refine bX λH4 u4=>?_;have t:=u4.c;haveI W4:=W3.I u4;haveI M4:H4[H3.length]?=J (.a<|S8.map Nk):=u4.b;haveI T4:TT H4 sa ra (cu v):=⟨u4.a _ _ T3.b,u4.a _ _ T3.a⟩
 haveI E4:=u4.a _ _ E3;haveI F4:=u4.a _ _ F3;haveI Nw4:lN H4 K3 v (dD σ v v.length) (.j 0) (.j 1) wa wi wl wv EC m0:=Nw.c (m:=0) (λl o _ e=>u4.a _ _ e) (jI _) (jI _)<|jI _;haveI fr:∀l,H.length<=l->R l=none:=λl h=>W.Q h;refine bK (GF (a:=p) (b:=30) (by decide)<|by decide)<|⟨1+p/30,congrArg V.d (vj 1 _).symm,lV (IC (dN (Rh _ _) EK) _)<|by decide,?_⟩
 refine qC (aCx k R σ A la ta nu i s p v ns y5 y6 i_ fb sa ra ea H3 wa wi wl EC wv m0 H4) (si _) ?_ ?_ ?_;·exact λ_ k=>k aA aA aA rfl (λ_=>⟨K3,i,W4,aK _,aK _,T4,E4,F4,M4,Nw4⟩)
 ·intro G h q0;refine q0 _ λjq jr kj lY _=>?_;rw [lY];exact q h
 intro j G h hj q0;refine q0 _ λjq jr kj lY st=>?_;rw [lY];intro K2 kn kr;obtain⟨K5,i5,W5,Ug,l5,T5,E5,F5,M5,Nw5⟩:=st<|(fV p 24).elim (λz=>.inl<|Nat.lt_one_iff.mp<|DS hj<|congrArg (1+·)<|Nat.div_eq_of_lt<|lW z<|by decide) .inr;refine CM (n:=n+39) (m:=8) W5 (jA Y qj [.l Y<|.a Z aB,.t Z<|.n 40000,.t aB<|.a au aI,.l aI au] U Ug hi hj<|Nat.div_le_div_right (c:=30) EK) (by decide) ?_;intro H6 r hr W6 G6;have l6:=G6.q;have g6:∀l o,H.length<=l->h[l]?=J o->H6[l]?=J o:=λl o hl e=>G6.i _ _ e (.inl<|fr l hl) (.inr<|aH (aH tp.2 tp.1) hl) c_;have T6:TT H6 sa ra (cu v):=⟨g6 _ _ w T5.b,g6 _ _ B T5.a⟩
 haveI E6:=g6 _ _ (aH a C) E5;haveI F6:=G6.i _ _ F5 (.inl Lf.d) (.inr Lf.c) c_;have M6:=g6 _ _ (aH (aH a c) d) M5;haveI Nw6:=Nw5.c (m:=H.length) g6 (aH (aH a c) l1) (aH (aH a c) l2)<|aH (aH a c) l3;refine iH (aCt hr) λx y hr1 x1 y1 hw=>du M6 (by rw [jJ,hr1];rfl) (ae hr) ?_;haveI x2:=cS x1 (by decide:1<=2);haveI y2:=cS y1 (by decide:1<=2);refine Nl (n:=n+1) P W6.B.W es ht x2 y2 W6.L.b yS T6 ⟨(aH (aH tp.2 tp.1) w),(aH (aH tp.2 tp.1) B)⟩ X hk E6 (aH (aH (aH tp.2 tp.1) a) C) F6 Lf.c ?_;intro H7 K7 va ia il jN kv m1 N7 a1 a2 a3 ak Nn;haveI W7:=W6.E N7;haveI l7:=N7.j;haveI T7:TT H7 sa ra (cu v):=⟨N7.b T6.b<|.inr<|aH (aH tp.2 tp.1) w,N7.b T6.a<|.inr<|aH (aH tp.2 tp.1) B⟩
 haveI E7:=N7.b E6<|.inr<|aH (aH (aH tp.2 tp.1) a) C;haveI F7:=N7.b F6<|.inr Lf.c;haveI M7:=N7.b M6<|.inr<|aH (aH (aH (aH tp.2 tp.1) a) c) d;haveI Uh:=Nw6.b N7 (aH (aH (aH (aH tp.2 tp.1) a) c) l1) (aH (aH (aH (aH tp.2 tp.1) a) c) l2)<|aH (aH (aH (aH tp.2 tp.1) a) c) l3;refine aCu (n:=n+8) P W7.B.W es (bz (by decide) h2) x2 y2 X hk E7 (aH (aH (aH tp.2 tp.1) a) C) Uh Nn (aH (aH (aH (aH tp.2 tp.1) a) c) l1) (aH (aH (aH (aH tp.2 tp.1) a) c) l2) (aH (aH (aH (cM (aH (aH (aH (aH tp.2 tp.1) a) c) d) t) l5) l6) a1) (aH (aH (aH (cM (aH (aH (aH (aH tp.2 tp.1) a) c) d) t) l5) l6) a2) ?_;intro H8 K8 D;have W8:=W7.E D;haveI l8:=D.j;by_cases hz:(p:Int)<24
 ·refine jC hz<|
   aCw (n:=n+1) (m:=H.length) P W8.B es I.p ht hk X x1 y1 hw (ak.b D) (Nn.b D (aH (aH (aH (cM (aH (aH (aH (aH tp.2 tp.1) a) c) d) t) l5) l6) a1) (aH (aH (aH (cM (aH (aH (aH (aH tp.2 tp.1) a) c) d) t) l5) l6) a2)<|aH (aH (aH (cM (aH (aH (aH (aH tp.2 tp.1) a) c) d) t) l5) l6) a3) fr (aH tp.2 tp.1) (aH (aH (aH (cM (aH (aH a c) d) t) l5) l6) a1) (aH (aH (aH (cM (aH (aH a c) d) t) l5) l6) a2) (aH (aH (aH (cM (aH (aH a c) d) t) l5) l6) a3) ?_
  intro H9;exact(kn _ _ λ_ k=>k _ _ _ rfl (λh=>by omega)).1
 refine dt hz<|(kn _ _ λ_ k=>k _ _ _ rfl (λ_=>⟨K8,i5+1,W8,(bb aR (.a Z bN) [.l Y<|.a Z aB] U Ug),(aH (aH (aH l5 l6) l7) l8),⟨D.b T7.b<|.inr<|aH (aH tp.2 tp.1) w,D.b T7.a<|.inr<|aH (aH tp.2 tp.1) B⟩,D.b E7<|.inr<|aH (aH (aH tp.2 tp.1) a) C,D.b F7<|.inr Lf.c,D.b M7<|.inr<|aH (aH (aH (aH tp.2 tp.1) a) c) d,Uh.b D (aH (aH (aH (aH tp.2 tp.1) a) c) l1) (aH (aH (aH (aH tp.2 tp.1) a) c) l2)<|aH (aH (aH (aH tp.2 tp.1) a) c) l3⟩)).1
def aCz(H:Hp)(l d:Nat)(w:List Nat)(m:Option V)(n:Nat)(x:Option V)(j:Nat)(G:aS)(h:Hp):Prop:=∀a:Prop,(∀(p:eW)(K':List Ty)(q:Rl)(c:az)(t:Nat)(e:List cC)(v:Nat)(z:Option V)(A:Lw h (H.length+2) c p K' q n H.length l e t w)(B:p.s=H.length+1)(C:pJ c e)(D:e.length=j)(I:d0 h q (H.length+2) l v<|.a<|(dD c e j).map dW)(P:t<=25*j)(Q:G=zX l d H.length (H.length+1) z x (J<|.j n) (J<|.j v) m),a)->a
theorem aCA{ns:List Int}(hl:ns.length<=63)(q:∀H',Q (.n true) H'):aa (n+41) 82 [.j 0] [.f<|ns.map .d] Q:=by
 refine ce (fn:=QX) rfl rfl ?_;intro rr;refine aCo hl ?_;intro H t a ms v hn m0 m1 hz;refine aCq hn ?_;intro H1 B1 w x;have ln:=bw hn;haveI r:∀l,vK H.length l=if l=H.length+1 then J .k else if l=H.length+14 then J .c else if l=H.length+11 then J .e else if l=H.length+10 then J .f else if H.length+16<=l/\l<=H.length+25 then J (.b 1<|l-(H.length+16))else if l=H.length then J .a else none:=λ_=>rfl;refine aCs (A:=Ni H.length<|H.length+26) B1 w ?_ (.inl<|bP _<|jB ln) x ?_ ⟨m0,(cN m1)⟩ ?_;·rw [r,if_neg<|aj<|bP _<|jB ln,if_neg<|aj<|bP _<|jB ln,if_neg<|aj<|bP _<|jB ln,if_neg<|aj<|bP _<|jB ln,if_neg λe=>absurd ln<|ve<|dN (jZ _ 16) e.1,if_neg<|aj ln]
 ·rw [r,if_neg<|aj<|bP _<|aK _,if_neg<|aj<|bP _<|aK _,if_neg<|aj<|bP _<|aK _,if_neg<|aj<|bP _<|aK _,if_neg λe=>absurd e.1<|RJ<|aGS<|by decide,if_pos rfl]
 intro H2 A2 K2 z la p A y6 B2 e2 B C D P R X rnu gfb rfb kfb nfb;haveI W2:Lw H2 (H.length+2) xV A2 K2 z la H.length t [] 0 ms:=⟨B2,⟨P,λ_ m=>(by exact bR m),λ_ m=>(by exact bR m)⟩,C,D,λn l h=>(by exact aX h),R,X,⟨rnu,.inl<|bP _<|jB ln⟩,⟨m0,(cN m1)⟩⟩
 haveI L2:d0 H2 z (H.length+2) t p (.a<|(dD xV [] 0).map dW):=⟨gfb,rfb,kfb,nfb⟩
 refine bK (GF (a:=a) (b:=24) (by decide)<|by decide)<|⟨2+a/24,congrArg V.d (vj 2 _).symm,lV (IC (dN (Rh _ _) hz) _)<|by decide,?_⟩
 refine qC (aCz H t a ms v la y6) (si _) ?_ ?_ ?_;·exact λ_ k=>k A2 K2 z xV 0 ([]) p A W2 e2 aCr rfl L2 (aK _) rfl
 ·intro G h q0;refine q0 _ λA' K' R' gf i' ls p A W es I hj L hi c=>?_;apply cQ c;intro rr;rw [<-hj]at L;exact aCy W es I (aV dB Y [.g Y<|.a dB Z] U hj) B L (by omega) hz q
 intro j G h hj q0;refine q0 _ λA' K' R' gf i' ls p A W es I d L hi c=>?_;subst d;intro K1 kn kr;apply cQ c;intro rr;refine aCv (n:=n+29) W es I (by omega) L (by omega) ?_;intro H3 A3 K3 R3 σ3 i3 l fb3 W3 e3 I3 L3 h3;exact(kn _ _ λ_ k=>k A3 K3 R3 σ3 i3 (ls++[l]) fb3 _ W3 e3 I3 b9 L3 (bb Y (.m 25 aY) [.l aB<|.m 25 Z,.l Y<|.p 2 25] U hi h3) rfl).1
end
theorem aCB{a:List Int}(c:a.length<=63):xZ rS bW 41 82 [.j 0] [.f<|a.map .d] λv _=>v=.n true:=by refine M0 41 _ _ _ _ _ (aCA (n:=0) c λ_=>rfl) λ_ _ h=>h
end Mine
end
section
namespace Mine
open PySem PySem.W
theorem aGN(P:iI):Hl (Hd.Kf P)=true:=by kernel_rfl
end Mine
end
section
namespace Mine
open PySem PyProof.Rows PySem.Calls PySem.W
theorem LG:∀{c:List WData},WShape.hasItems R c .int=true->∃d:List Int,c=d.map .int|[],_=>⟨[],rfl⟩|x::c,h=>by have h:=bi.mp (show(_&&_)=true from h);refine oE (hasW_int h.1) λi a=>?_;rw [a];refine oE (LG h.2) λd a=>?_;rw [a];exact⟨i::d,rfl⟩
theorem LH:∀{a:List Int}{c:List aQ}{d:List cO},ReadsAllW R cl h c (a.map .int) d->ca h m (a.map .d) c
 |[],_,_,r=>by cases r;rfl|n::a,_,_,r=>by
  cases r with
  |cons e l=>cases e;exact k_ _ _ rfl ⟨_,rfl⟩ (LH l)
theorem WL(P:iI):qX (Hd.Kf P) kC Hd.dL.name=J (J<|.ref 825):=by kernel_rfl
theorem WM{a:List Int}(h:(Hs.row).pre.holds [] {args:=[.list<|a.map .int]}=true):a.length<=63:=by
 haveI e:(Hs.row).pre=.and (.not<|.lt (.lit<|.int (63:Nat))<|.len<|.arg 0) (.lit<|.bool true):=rfl;rw [e]at h;haveI q:(match(match(J<|vf<|aJ<|(63:Int)<((a.map RP).length:Nat))with|some (vf b)=>J (vf !b)|_=>aA)with|some (vf true)=>true|_=>false)=true:=by revert h;refine(?_:(match(match(match(J<|vf<|aJ<|(63:Int)<((a.map RP).length:Nat))with|some (vf b)=>J (vf !b)|_=>aA)with|some (.bool false)=>J (.bool false)|some (.bool true)=>J (.bool true)|_=>aA)with|some (vf true)=>true|_=>false)=true->_);cases aJ ((63:Int)<((a.map RP).length:Nat))<;>exact id
 rw [ai]at q;by_cases z:(63:Int)<(a.length:Nat);·rw [decide_eq_true z]at q;exact ft q
 exact AI.mp<|AM.mp z
theorem WN:WalkO Hd.qv Hd.loose (XL Hd.qv []) Hd.Hk.says Hd.rr.toRowW Hd.dL [] λf I=>pZ f I:=by
 intro w q c mg mb A Q a o pm cd doc dV kV ho hd aMA hdf hmg B wA aIP as t aIQ Iv C aMC;haveI X:(Hd.Kf w.params).In c.heap:=kIn_of Q;haveI h1:=(pre_splitW t).1;haveI h2:=(pre_splitW t).2;refine sK (hasAllW_cons h1) λd r bM TC hr=>?_;clear h1 C aIQ t;subst bM;obtain rfl:=hasAllW_nil hr;refine aG (hasW_list TC) λxs D hi=>?_;clear TC;subst D;refine oE (LG hi) λP D=>?_;clear hi;subst D;haveI hl:=WM h2;obtain⟨b,I,n,ob,rfl,gb,cb,db,rb⟩:∃b I n ob,aIP=[.ref b]/\c.heap.get? b=J ob/\ob.cls=.type "list"/\ob.data=.seq I n/\∃as,ReadsAllW Hd.rr.toRowW.records (classAt q.heap) c.heap I.toList (P.map .int) as:=by
  cases Iv with
  |cons r1 r2=>
   cases r2;cases r1 with
   |list q1 q2 q3 q4=>exact⟨_,_,_,_,rfl,q1,q2,q3,_,q4⟩
 refine oE rb λas' rb=>?_;haveI ea:a=825:=by haveI:=mg_of X A.T.g<|WL w.params;rw [hmg]at this;cases this;rfl
 rw [ea];let W:Wd:=⟨Hd.rr.toRowW.prog,w,Hd.Kf w.params,c.heap,Hd.qv,_,mg,mb,c.os,X,topRead_of A.T,aGN w.params⟩
 haveI R:aZ W [(b,b)] [.f<|P.map .d] c.heap:=by
  refine⟨rfl,λl o p x H=>?_,λl l' p p' x H ne=>?_,λl o p x H=>?_,λ_ _ e=>e⟩
  ·induction l using iJ with
   |zero=>
    (replace x:=ao x;subst x);(replace H:=ao H;subst H)
    exact yq rfl I.toList ⟨ob,gb,cb,n,db⟩ (LH rb)
   |succ l=>exact aX x
  ·induction l using iJ with
   |zero=>induction l' using iJ with|zero=>exact absurd rfl ne|succ l'=>exact aX H
   |succ l=>exact aX x
  clear H;induction l using iJ with
  |zero=>(replace x:=ao x;subst x);exact .inl ⟨_,rfl⟩|succ l=>exact aX x
 refine Hu<|Hv (OV W 41 82 [.j 0] [.f<|P.map .d] (λv _=>v=.n true) 825 (aCB hl) (by decide) callerA c [(b,b)] [.ref b] (λz s'=>GoodWG Hd.rr.toRowW.claim (classAt q.heap) (ExcName.means q.heap) [.list<|P.map .int] c (.ok<|.ret z) s') ?_ R ⟨B,rfl⟩ ⟨_,_,rfl,⟨_,rfl,rfl⟩,rfl⟩ ?_) λr s' g=>?_;·exact⟨rfl,by decide,by decide⟩
 ·rintro v H' rfl cD s' z R' S' rz O';haveI rz:z=.bool true:=rz;rw [rz];refine⟨.inl ⟨.bool true,.bool true,[],rfl,λ_=>rfl,ReadsW.bool _,?_,λ_=>⟨fU,λ_ m=>nomatch m⟩⟩,OldK.of_keep R'.j,O'.2,AllBare.of_eq O'.1⟩;refine(?_:(WShape.has [] (.bool true) .bool&&WTm.holds [] (.eq .res<|.lit<|.bool true) {args:=[.list<|P.map .int],res:=J<|.bool true,after:=[.list<|P.map .int]})=true);kernel_rfl
 induction r with
 |ok r=>induction r with|ret z=>exact g|_=>exact g.elim
 |error e=>exact g.elim
theorem holds:PySem.Challenge.rw_xm0275_01.Holds:=Hd.hd WN
end Mine
end
end
theorem PySem.Challenge.cw_xm0275_01_holds : PySem.Challenge.rw_xm0275_01.Holds :=
 Mine.holds
