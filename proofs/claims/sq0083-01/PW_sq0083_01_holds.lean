import PyProof.Rows.All
import PySem.Value
import PyProof.Calls
import PyProof.RulesTry
import PyProof.CallFns
import PyProof.ForAny
import PyProof.CompUse
import PyProof.StrWalks
import PyProof.CollectIter
import PyProof.CompFree
import PyProof.DictItemsLoops
import PyProof.DictWalks
import PyProof.EnumMake
import PyProof.WalksMore
import PyProof.IsiHeapPairs
import PyProof.IsiPairs
import PyProof.ListStr
import PyProof.MaxThree
import PyProof.Rows.TupAssign
import PyProof.Rows.RuleN_abs
import PyProof.Rows.Walk
import PyProof.RulesAssignMore
import PyProof.TupleOfStr
import Wide.BytesRules
import KE.BytesMake
import KE.LcSums
import KE.KBytesWalk
import KE.KDictSum
import KE.KDictOf
import KE.KTupSum
import Wide.FinOn
import OpenK.AllK
import Wide.All
import PySem.Challenge.RW_sq0083_01
set_option Elab.async false
set_option linter.all false
set_option genSizeOf false
set_option genSizeOfSpec false
set_option genInjectivity false
set_option genCtorIdx false
set_option tactic.hygienic false
set_option maxRecDepth 100000
set_option bootstrap.genMatcherCode false
noncomputable section
namespace c6
universe u v
theorem aA{α:Sort u}{β:Sort v}{a₁ a₂:α}(f:α->β)(h:a₁=a₂):f a₁=f a₂:=congrArg f h
theorem aE{c:Prop}{h:Decidable c}(hnc:¬c){α:Sort u}{t e:α}:ite c t e=e:=if_neg hnc
theorem aM{c:Prop}{h:Decidable c}(hc:c){α:Sort u}{t e:α}:ite c t e=t:=if_pos hc
end c6
open c6
open And renaming intro->hH
open Array renaming getElem?_toList->s7,length_toList->s8,mem_toList_iff->A5,mk->lG,size_map->a31,toArray_toList->a30
open Bool renaming and_eq_true_iff->fG,and_true->aV2,false->ae,false_eq_true->a24,false_ne_true->A7,or_eq_true_iff->xm,true->aa
open Classical renaming em->G0,not_not->GP
open Decidable renaming byCases->xq
open Eq renaming subst->pD
open False renaming elim->AT
open ForInStep renaming yield->Hj
open Inhabited renaming default->Q2
open Int renaming add_assoc->gq,add_comm->iy,add_le_add->fU,add_le_add_left->fI,add_le_add_right->g9,add_lt_add_left->Ro,add_mul->Rb,add_mul_ediv_left->Ra,add_mul_ediv_right->aS9,add_mul_emod_self_right->aT0,add_nonneg->GO,add_sub_cancel->mq,add_zero->e7,ediv_ediv_of_nonneg->sU,ediv_eq_zero_of_lt->GJ,ediv_le_ediv->uQ,ediv_le_self->Q_,ediv_nonneg->xn,ediv_one->GK,emod_add_mul_ediv->Rc,emod_def->aS7,emod_eq_of_lt->xo,emod_lt_of_pos->qT,emod_nonneg->pz,eq_ofNat_of_zero_le->GS,fdiv_eq_ediv_of_nonneg->aV9,le_add_of_nonneg_left->GN,le_add_of_nonneg_right->n8,le_add_one->aS3,le_antisymm->qS,le_of_eq->aV1,le_of_lt->eT,le_of_lt_add_one->iR,le_refl->aU,le_sub_one_of_lt->aS0,le_trans->az,lt_add_of_pos_right->aS6,lt_add_one_of_le->aT1,lt_of_le_of_lt->g8,lt_of_lt_of_le->jF,lt_trans->AW,mul_add->qX,mul_assoc->qW,mul_ediv_add_emod->GM,mul_le_mul->GG,mul_le_mul_of_nonneg_left->pE,mul_le_mul_of_nonneg_right->aT6,mul_le_mul_of_nonpos_left->aT5,mul_nonneg->AV,mul_zero->Rd,natAbs_of_nonneg->aV6,natCast_add->qY,natCast_nonneg->dx,natCast_succ->Sc,natCast_zero->G_,ne_of_gt->pA,ne_of_lt->aS1,neg_le_neg->GF,not_le->n6,not_lt->fH,ofNat_le->bT,ofNat_lt->mo,ofNat_natAbs_of_nonpos->aV7,one_mul->aU6,pow_succ->aU7,sub_add_cancel->Rk,sub_le_self->aT4,sub_le_sub->xl,sub_le_sub_right->Ri,sub_pos_of_lt->a22,sub_self->aU0,sub_zero->a19,toNat_le->uW,toNat_le_toNat->aU8,toNat_lt->aX5,toNat_natCast->aX6,toNat_of_nonneg->Rn,zero_add->qU,zero_mul->Rg
open Int.le renaming dest->Rf
open Int.ofNat renaming inj->aU9
open LawfulBEq renaming eq_of_beq->c_
open List renaming all_eq_true->A8,any_toArray->RI,append_assoc->aX,append_nil->c9,append_toArray->aV8,casesOn->uR,cons_append->Rh,contains_iff_mem->Bn,drop->aR6,drop_eq_nil_of_le->a13,drop_left->aS5,drop_nil->RP,drop_zero->aZ6,filterMap_cons->RT,forIn_cons->aZ1,getD_eq_getElem?_getD->Sk,getElem?_append_right->aX7,getElem?_eq_getElem->Hg,getElem?_map->G1,getElem?_toArray->u2,isEmpty_iff->Sv,length->aU1,length_append->aC,length_cons->eU,length_drop->RX,length_map->bO,length_nil->j6,length_replicate->GR,length_reverse->sW,length_singleton->aT9,length_take_of_le->Bb,lookup->G7,lookup_cons->pJ,map_append->qZ,map_congr_left->aY8,map_cons->kO,map_map->AZ,map_reverse->aT7,mem_append->pG,mem_append_right->GQ,mem_cons->bC,mem_cons_of_mem->GE,mem_cons_self->xj,mem_filterMap->Sx,mem_map->AX,mem_of_mem_drop->aU3,mem_of_mem_take->aU2,mem_singleton->b_,mem_toArray->RH,nil_append->aT8,nodup_append->A0,nodup_cons->lI,nodup_nil->Sw,of_mem_zip->RW,range->u3,rec->Q3,replicate->gp,reverse_cons->pB,reverse_reverse->aU5,size_toArray->j8,sum_cons->aT2,take->py,take_append_drop->aZ3,take_left->aS4,take_length->RV,take_nil->RO,take_sublist->aZ9,zip_append->RU,zip_cons_cons->G6
open List.cons renaming inj->aV3
open Nat renaming add_assoc->cH,add_comm->c5,add_le_add->gQ,add_le_add_left->eH,add_le_add_right->cL,add_right_comm->Q9,add_sub_of_le->RY,beq->bF,beq_refl->AU,ble->eZ,blt->j9,eq_of_beq_eq_true->jk,le_add_left->uT,le_add_right->cm,le_antisymm->a14,le_mul_of_pos_left->aS8,le_of_add_le_add_right->aT3,le_of_ble_eq_true->d6,le_of_eq->jG,le_of_lt->uV,le_of_lt_succ->GT,le_of_succ_le->mr,le_of_succ_le_succ->xp,le_refl->dP,le_succ->jm,le_succ_of_le->uU,le_trans->ak,lt_add_of_pos_right->Rj,lt_irrefl->RS,lt_of_le_of_lt->ms,lt_of_succ_lt_succ->xk,lt_succ_of_le->aV0,lt_succ_of_lt->Sl,lt_succ_self->n7,min_eq_left->GI,mul_le_mul_left->jl,mul_succ->pC,ne_of_gt->R4,ne_of_lt->jI,not_lt->Rp,not_lt_zero->GD,not_succ_le_zero->Re,rec->AL,sub_eq_zero_of_le->aZ5,sub_le_of_le_add->aZ2,sub_self->aX8,sub_sub_right->aZ4,sub_sub_self->aZ7,succ_le_succ->cg,succ_lt_succ->GH,succ_ne_self->td,succ_ne_zero->aU4,succ_pos->sV,zero_add->gM,zero_le->j7,zero_lt_succ->aS2
open Nat.succ renaming inj->pH
open Ne renaming symm->AY
open Option renaming isNone_iff_eq_none->aZ0,isSome->RE,isSome_iff_exists->u5,map->uO,map_eq_some_iff->a17,none->Y,some->U
open Option.some renaming inj->bL
open Prod.mk renaming inj->c8
open Pure renaming pure->cG
open PyProof renaming noPylong_small->aW0
open PyProof.Rows renaming Assign_Tuple_swapped->a39,IntsAre->xF,Subscript_->RM,getMethod_list_of->R9,isnot_none_gen->aW9,slot_tuple_getitem->aY4,subscriptTail->RL
open PySem renaming Addr->ai,Around->cW,Builtin->iU,DictEntry->jj,Flow->sS,GenState->Q8,Heap->cu,IsEnum->Sd,IsPart->xA,ItemsOf->pK,NameKind->n_,OsState->mn,Pairs->aW8,Params->cP,Program->pv,Result->u6,Shared->bB,Stmt->cj,Value->av,Walks->u_,World->kN,allTrue->xy,argBest->xE,assign->Hi,assignEach->pL,assignInOrder->a33,attributeBase->xz,backTo->eV,behindInMarks->xw,binaryOp->Rv,boolOp->A_,builtinsNs->A2,cLine->q5,callWith->u7,call_meets->G8,cellOf->Su,cellsFrom->Bc,checkBuiltinCall->Se,clipAt->Ba,codeAny->oa,codeAny_builtin->a26,codeAny_call_function->a00,codeAny_mono->xC,compEnvC->lK,compareOp->uZ,concat_meets->Rw,eval->aQ,evalPart->G4,evalPart_none->aY6,exec->hE,execs->kQ,foldedSetIterable->Bl,getAttr->RD,getItem->mu,getMethod->xD,getMethod_builtin->a11,holding->iT,importedModules->aR5,intItems->lJ,intItems_at->Hh,isSubtype_type->a25,leaving->R0,letOwnedTupleGo->G9,list_append->a06,mainGlobals->uN,markedBehindIn->aX0,markedBehindIn_of_false->aX1,methodCallForm->a09,methodCallPos->a10,model->fJ,noFill_tuple_add->Rx,nsFind->lH,numAt->gr,operate->xv,pairTrees_cons_walk->aY9,pastItsLine_dict->aW2,plainId_quiet->Si,pyIter->jJ,pyNext->Bf,rawInt->Bg,recursionLimit->GZ,refuseLoop_ref->a47,relabel->Bm,release->xu,seq_tuple_add->Ry,setItem->xB,sizeLine->jH,sizeLine_eq->A4,slot_list_iter->a34,slot_list_setitem->a37,spliced->iS,standAt->u1,starEach->eW,stored->G5,subscripted->RK,swappedStores->Bj,swapsWith->Sr,swapsWithSole->a38,sysModules->kP,treeTable->AR,truthy->xx,unsupported->Sj,valueAt->RF,wpAny->aw,wpAny_Call_NameR->u8,wpAny_Constant_int->Rs,wpAny_Name->GV,wpAny_Return_some->Sp,wpAny_Try_except->a40,wpAny_Tuple_spliced->aV5,wpAny_UnaryOp->aX2,wpAny_allTrue_And_cons->aX3,wpAny_allTrue_Or_cons->aX4,wpAny_assignInOrder_more->a36,wpAny_assignInOrder_none->a35,wpAny_assign_Name->So,wpAny_bind->aF,wpAny_call->s_,wpAny_callSpecial?_slot->RR,wpAny_call_entry->G3,wpAny_comprehension_free->a41,wpAny_execs_cons->q8,wpAny_execs_nil->Bk,wpAny_field->Hb,wpAny_getItem_list_slice->aY5,wpAny_holding->e8,wpAny_isSubtype_exc->Hk,wpAny_letTemporaryGo->RN,wpAny_load->RG,wpAny_loadName_local->GW,wpAny_loadPart'->Sf,wpAny_loadPart_at->vc,wpAny_lookBehind->aW3,wpAny_madeBy_exc->a43,wpAny_mono->bz,wpAny_newFunctionEnv_cells->a01,wpAny_newObj_type->u4,wpAny_of_eq->RZ,wpAny_pure->bW,wpAny_pyIter_list->R_,wpAny_pyIter_tuple->Sa,wpAny_seqItems->R2,wpAny_sequenceKey->aY3,wpAny_setField_rec->Hc,wpAny_specialOf->aY1,wpAny_standAt->jn,wpAny_truthy_bool->pI,wpAny_typeOf->Sh,wpAt_bind->a44,wpAt_of_wpAny->a45
open PySem.Around renaming frames_deeper->xG,under_plainId->a27
open PySem.Builtin.List renaming listExtendWith->a23
open PySem.Builtin.Range renaming rangeFitsLong->a21,rangeSize->Bh,small->a18
open PySem.Builtin.Slice renaming sliceAdjust->RQ,sliceApplied->aY2,slicePlaces->G2
open PySem.Builtin.Tuple renaming tupleExact->a29
open PySem.Calls renaming Name_function_global->Rt,callWith_builtin->R5,evalArgs_plain->a02,loadGlobal_global->aV4,spliced_cons->A3,spliced_nil->Ru
open PySem.Challenge renaming rw_sq0083_01->GC
open PySem.Code renaming body->AQ,quiet_builtin->a46
open PySem.Data renaming seq->Hf
open PySem.DictEntry renaming refKey->aW1
open PySem.F renaming args_list_append_2->a05,args_tuple_add_2->RB,entry_dict_get->a08,entry_list_append->a04,entry_tuple_add->RA,plainAttrs_dict->a12,plain_list_iadd->a28,slot_dict_get->R8,slot_dict_items->a32,slot_enumerate_next->a20,slot_list_append->R7,slot_list_extend->a03,slot_list_pop->a07,slot_tuple_add->Rz
open PySem.Heap renaming CodeRec->a42,SameBut->sX,get?_none_of_le->R3,get?_push_of_some->eB,get?_push_size->hg,get?_update_ne->a48,get?_update_self->uX,lt_size->g_,size_push->tc
open PySem.Heap.IsSliceOf renaming new->aY7
open PySem.Heap.SameBut renaming update->A6
open PySem.IsRange renaming new->Sg
open PySem.NameKind renaming cell->aZ8,free->og
open PySem.Obj renaming mapSeq->u9,putNameByArray->GY,putName_eq->GX
open PySem.PyData renaming keyHash->aR4
open PySem.SeqAt renaming EqAt->xr,RcAt->uY,RcNeAt->xt
open PySem.SeqAt.EqAt renaming int_int->aW7
open PySem.SeqAt.RcAt renaming lists->aW5
open PySem.SeqAt.RcNeAt renaming lists->aW6
open PySem.Str renaming ofString->eG
open PySem.Value renaming bytes->aW4,int->s9,isInt->A9,ref->q7,type->He
open PySem.W renaming Frag->n9,SharedT->Q4,WellAll->Hl,behindTheImports->AS,boot_drawn->Q5,boot_heap->qR,boot_o_0->AM,boot_o_2->AN,boot_toks->Q6,copiedNames->Rr,emptyDict->Be,findIn->h8,keepIn->q4,lookIn->RC,looks_findIn->R6,specialIn->Rq,takerIn->GU,topFrame->uM,topStub->Q7,typeIn->A1,typeIs_bytes->q6,wellAll_cons_inv->a49
open PySem.W.FB renaming args_bytes_getitem_2->aY0,entry_bytes_getitem->aX9,slot_bytes_getitem->RJ
open PySem.W.Fast renaming te14364793385576792824->GB,te16421684217811934046->aR8,tw14364793385576792824->AP,tw16421684217811934046->aR7,tw2368527892694137696->aR9
open PySem.W.KBw renaming pyIter_bytes->a15,walks->a16
open PySem.Walks renaming tuple->Sb
namespace Hd
set_option maxHeartbeats 0
open PySem PySem.W
noncomputable abbrev N:=BT.node
noncomputable abbrev Z:=BT.nil
noncomputable abbrev r(a:Nat):av:= .ref a
noncomputable abbrev iv(i:Int)(t:Nat):av:= .int i t
noncomputable abbrev st(s:String)(t:Nat):av:= .str (eG s) t
noncomputable abbrev E(P:cP)(s:String)(t:Nat)(v:av):jj:=⟨aR4 P<|eG s,.str (eG s) t,v⟩
noncomputable abbrev tu(l:List av):Obj:=⟨.type "tuple",Y,.seq l.toArray 0,#[]⟩
noncomputable abbrev co(l:List av):Obj:=⟨.type "code",Y,.fields l.toArray,#[]⟩
noncomputable abbrev fl(l:List av):Obj:=⟨.none,Y,.fields l.toArray,#[]⟩
noncomputable def pw:pv:=PySem.Challenge.pw_sq0083_01
noncomputable def ah:List cj->Nat->cj
 |s::_,0=>s
 |_::l,n+1=>ah l n
 |[],_=> .Pass ⟨0,0,0,0⟩
def sa(i:Nat):cj:=ah pw.main.body i
noncomputable def tD{α:Type}(s:cj)(no:α)(f:Str->Arguments->List cj->Scope->Pos->α)(c:Str->List cj->List Str->α):α:=match s with
 |.FunctionDef n a b _ _ _ sc _ _ p=>f n a b sc p
 |.ClassDef n _ _ b _ _ _ _ _ l _=>c n b l
 |_=>no
def TQ(s:cj)(j:Nat):cj:=tD s s (λ_ _ _ _ _=>s) λ_ b _=>ah b j
def sm(i j:Nat):cj:=TQ (sa i) j
def fo(cls:av)(s:cj)(h:Str)(g:Nat)(d kd doc m i j:av)(b:Nat):Obj:=tD s Q2 (λn a body sc _=>⟨cls,Y,.func {name:=n,qualname:=h,params:=a,body:= .stmts body,scope:=sc,globals:=g,closure:=[],defaults:=d,kwdefaults:=kd,doc:=doc,pyModule:=m,annotations:=Y,code:=i,closureTuple:=j,builtins:=b},#[]⟩) λ_ _ _=>Q2
def m0:av:=st "__main__" 164
def m1:av:=st "gluepage.errors" 194
def m2:av:=st "gluepage.scaled" 320
def m3:av:=st "gluepage.fonts" 468
def m4:av:=st "gluepage.tfm" 711
def m5:av:=st "gluepage.nodes" 863
def m6:av:=st "gluepage.boxops" 1107
def m7:av:=st "gluepage.packing" 1127
def m8:av:=st "gluepage.dvi" 1261
def m9:av:=st "gluepage.dviread" 1695
def qE:av:=st "gluepage.ligkern" 1991
def i6:av:=st "law_sq0083_01" 2116
def T:Obj:=tu []
noncomputable def Iy:Nat->List String->List av
 |_,[]=>[]
 |t,s::l=>st s t::Iy (t+1) l
noncomputable def uA:Nat->List Int->List av
 |_,[]=>[]
 |t,i::l=>iv i t::uA (t+1) l
def cB(t:Nat):av:=st "/claim/cut.py" t
def oY(s:cj):Str:=tD s "" (λn _ _ _ _=>n) λn _ _=>n
def X_(s:cj):Nat:=tD s 0 (λ_ a _ _ _=>a.args.length) λ_ _ _=>0
def OZ(s:cj):List Str:=tD s [] (λ_ _ _ _ _=>[]) λ_ _ l=>l
noncomputable def zQ(s:cj):Int:=s.pos.line
def i0:av:=iv 0 0
def zl(n q:Str)(t:Nat)(h:Int)(ar:Nat)(k:Int)(b:Bool)(a c:Nat)(v w u:av)(e:Nat):Obj:=
 co [.str n t,.str q<|t+1,cB<|t+2,iv h 0,iv ar 0,i0,i0,iv k 0,r a,.bool b,iv 181 0,r c,.none,v,w,u,iv e 0,iv h 0,cB<|e+1]
noncomputable def fn(s:cj)(q:Str)(a t:Nat)(m d:av)(nm:List String):List Obj:=
 let f:=λb v w e=>[fo .none s q 0 .none .none .none .none .none .none 0,zl (oY s) q t (zQ s) (X_ s) 3 aa a (a+1) v w (r b) e,fo (.type "function") s q 3 d .none .none m (r<|b+1) .none 0]
 T::fl []::match nm with
 |[]=>f (a+2) .none .none (t+3)
 |_=>tu (Iy (t+3) nm)::T::f (a+4) (r<|a+2) (r<|a+3) (t+3+nm.length)
def s(a:Nat)(l:List Obj)(x:Nat):Obj:=Q3 (motive:=λ_=>Nat->Obj) (λ_=>T) (λo _ h i=>AL o (λj _=>h j) i) l (x -a)
noncomputable def b(k:Nat)(f g:Nat->Obj)(x:Nat):Obj:=cond (eZ k x) (g x) (f x)
def f(i a t:Nat)(m d:av)(nm:List String):Nat->Obj:=s a (fn (sa i) (oY<|sa i) a t m d nm)
def g(i j a t:Nat)(m d:av)(nm:List String):Nat->Obj:=s a (fn (sm i j) (oY (sa i)++(".":Str)++oY (sm i j)) a t m d nm)
noncomputable def bi(s:String)(v:av):Obj:=⟨.type "builtin_function_or_method",Y,.fields #[.builtin s,v],#[]⟩
def gs(s:String)(t:Nat)(c:Nat)(u v:av):Obj:=⟨.type "getset_descriptor",Y,.fields #[st s t,r c,u,v],#[]⟩
noncomputable def di(l:List jj)(k:Nat):Obj:=⟨.type "dict",Y,.dict l.toArray k,#[]⟩
def fr(a b:Nat)(m:av):Obj:=⟨.type "frame",Y,.plain,#[U<|r a,U<|r 3,U<|r b,Y,U m,Y,U<|r 0]⟩
def si(n:Str)(z t:Nat)(bs h sub:List av)(x:Option av)(a:String):Obj:=⟨.type "type",Y,.cls ⟨n,bs,r (z+2)::h,z+1,n,aa,[],sub,ae,Y,ae⟩,#[x,Y,U<|.str n<|t -2,U<|.str n<|t+6,U<|.builtin a,U<|.bool aa]⟩
noncomputable def ce(P:cP)(s:cj)(z w:Nat)(h:List jj)(d:jj)(k:Nat)(o:Obj):List Obj:=
 [di (h++d::match k with
  |0=>[E P "__dict__" (w+2)<|r<|z+3,E P "__weakref__" (w+4)<|r<|z+4,E P "__doc__" (w+5) .none]
  |1=>[E P "__doc__" (w+1) .none]
  |_=>[E P "__weakref__" (w+2)<|r<|z+3,E P "__doc__" (w+3) .none]) (match k with|0=>4|1=>2|_=>3),o]++(match k with
  |0=>[gs "__dict__" (w+1) (z+2) (.builtin "function.__dict__")<|.builtin "function.__dict__#set",gs "__weakref__" (w+3) (z+2) (.builtin "ExceptionGroup.__weakref__") .none]
  |1=>[]
  |_=>[gs "__weakref__" (w+1) (z+2) (.builtin "ExceptionGroup.__weakref__") .none])++[⟨.type "super",Y,.fields #[r<|z+2,r<|z+2,r<|z+2],#[]⟩,bi "object.__init_subclass__"<|r<|z+2]
def cc(P:cP)(i a z t u:Nat)(m:av)(k:Nat)(bs:List av)(o:Obj)(x:List jj)(l:List<|Nat×Nat×Nat):(Nat->Obj)×(Nat->Obj):=
 let b:=sa i
 let n:=oY b
 let j:=zQ b
 let w:=u+(OZ b).length
 let hd:=E P "__module__" (t+5) m
 let ln:=E P "__firstlineno__" (t+9) (iv j<|t+8)
 let h:=x++l.map λp=>⟨aR4 P<|oY<|sm i p.1,.str (oY<|sm i p.1) p.2.1,r p.2.2⟩
 let y:=E P "__static_attributes__" w (r z)
 (s z<|tu ((OZ b).zipIdx.map λp=> .str p.1<|u+p.2)::ce P b z w (hd::ln::h) y k o,
  s a [tu bs,bi "type.__prepare__"<|.type "type",di (hd::E P "__qualname__" (t+7) (.str n<|t+6)::ln::(h++[y]))<|h.length+4,T,fl<|l.flatMap λp=>[iv (zQ<|sm i p.1) 0,iv 4 0,r<|p.2.2 -1],zl n n t j 0 0 ae (a+3) (a+4) .none .none .none<|t+3,fr (a+5) (a+2) m])
def c(P:cP)(i a z t u:Nat)(m:av)(x:List jj)(h:List<|Nat×Nat×Nat):(Nat->Obj)×(Nat->Obj):=
 cc P i a z t u m 0 [] (si (oY<|sa i) z t [.type "object"] [.type "object"] [] Y "object.__new__") x h
def e(P:cP)(i a z t:Nat):(Nat->Obj)×(Nat->Obj):=
 cc P i a z t (t+10) m1 1 [r 39] (si (oY<|sa i) z t [r 39] [r 39,.type "ValueError",.type "Exception",.type "BaseException",.type "object"] [] (U<|r a) "ValueError.__new__") [] []
def w(a t:Nat)(l:List Int):Nat->Obj:=
 s a [tu<|uA t l,⟨.type "tuple_iterator",Y,.fields #[.none,iv l.length 0],#[]⟩,T,⟨.type "StopIteration",Y,.fields #[r<|a+2,.none,.none,.none,.bool ae,.none],#[]⟩]
def Az(k:Nat):Obj:=si "PageError" 37 198 [.type "ValueError"] [.type "ValueError",.type "Exception",.type "BaseException",.type "object"] (([r 52,r 64,r 76,r 88,r 100,r 112]:List av).take k) (U<|r 22) "ValueError.__new__"
def YH:List av:=([(0,20),(2,27),(3,48),(4,60),(5,72),(6,84),(7,96),(8,108),(15,124),(16,131),(17,138),(18,145),(19,152),(20,159),(21,166),(22,173),(31,238),(32,245),(33,252),(34,259),(35,266),(36,273),(37,280),(38,287),(41,381),(42,388),(43,393),(44,398),(45,403),(46,410),(47,417),(48,424),(49,431),(50,439),(51,446),(52,453),(53,460),(61,491),(62,498),(63,519),(64,539),(65,560),(66,579),(67,584),(68,589),(69,596),(70,603),(73,608),(74,615),(78,630),(79,637),(80,644),(81,651),(82,658),(83,665),(84,672),(85,679),(86,686),(87,693),(88,700),(89,708),(102,745),(103,752),(104,759),(105,766),(106,771),(107,778),(108,785),(109,827),(110,834),(111,911),(112,916),(113,921),(114,928),(115,935),(116,942),(119,984),(120,1026),(121,1068),(122,1089),(123,1094),(124,1101),(125,1108),(126,1115),(127,1122),(128,1129),(129,1136),(130,1143),(131,1148),(132,1155),(133,1160),(134,1167),(138,1175),(139,1182),(140,1201),(141,1208),(142,1215),(143,1222),(144,1230),(147,1238),(148,1245),(149,1252),(150,1259),(151,1264),(152,1271),(153,1278),(154,1283),(155,1290),(156,1295)]:List<|Nat×Nat).flatMap λp=>[iv (zQ<|sa p.1) 0,i0,r p.2]
def zt(k:Nat):Obj:=fl (YH.take k)
def N9(P:cP):(Nat->Obj)×(Nat->Obj):=cc P 2 22 37 198 217 m1 2 [.type "ValueError"] T [] [(0,216,36)]
def NO(P:cP):(Nat->Obj)×(Nat->Obj):=e P 3 43 50 226
def NL(P:cP):(Nat->Obj)×(Nat->Obj):=e P 4 55 62 242
def Ld(P:cP):(Nat->Obj)×(Nat->Obj):=e P 5 67 74 258
def Ma(P:cP):(Nat->Obj)×(Nat->Obj):=e P 6 79 86 274
def Nh(P:cP):(Nat->Obj)×(Nat->Obj):=e P 7 91 98 290
def HD(P:cP):(Nat->Obj)×(Nat->Obj):=e P 8 103 110 306
def Pw(P:cP):(Nat->Obj)×(Nat->Obj):=c P 22 168 217 403 457 m2 [] [(0,419,181),(1,427,188),(2,435,195),(3,442,202),(4,449,209),(5,456,216)]
def Ql(P:cP):(Nat->Obj)×(Nat->Obj):=c P 38 282 369 581 690 m3 [] [(0,605,298),(1,613,305),(2,621,312),(3,629,319),(4,637,326),(5,645,333),(6,654,340),(7,663,347),(8,672,354),(9,680,361),(10,689,368)]
def NT(P:cP):(Nat->Obj)×(Nat->Obj):=c P 62 493 507 940 960 m5 [E P "kind" 950<|iv 0 865] [(1,959,506)]
def Jg(P:cP):(Nat->Obj)×(Nat->Obj):=c P 63 514 527 972 989 m5 [E P "kind" 982<|iv 1 866] [(1,988,526)]
def Lw(P:cP):(Nat->Obj)×(Nat->Obj):=c P 64 534 548 1004 1026 m5 [] [(0,1025,547)]
def IV(P:cP):(Nat->Obj)×(Nat->Obj):=c P 65 555 569 1045 1065 m5 [E P "kind" 1055<|iv 5 870] [(1,1064,568)]
def IA(P:cP):(Nat->Obj)×(Nat->Obj):=c P 108 780 815 1393 1445 m8 [] [(0,1410,793),(1,1418,800),(2,1430,807),(3,1444,814)]
def Ih(P:cP):(Nat->Obj)×(Nat->Obj):=c P 110 829 899 1465 1559 m8 [] [(0,1483,842),(1,1491,849),(2,1500,856),(3,1508,863),(4,1516,870),(5,1525,877),(6,1536,884),(7,1548,891),(8,1558,898)]
def QA(P:cP):(Nat->Obj)×(Nat->Obj):=c P 116 937 968 1634 1679 m8 [] [(0,1653,951),(1,1668,960),(2,1678,967)]
def P0(P:cP):(Nat->Obj)×(Nat->Obj):=c P 119 979 1014 1705 1754 m9 [] [(0,1722,992),(1,1733,999),(2,1743,1006),(3,1753,1013)]
def K4(P:cP):(Nat->Obj)×(Nat->Obj):=c P 120 1021 1056 1766 1808 m9 [] [(0,1782,1034),(1,1789,1041),(2,1796,1048),(3,1807,1055)]
def Kb(P:cP):(Nat->Obj)×(Nat->Obj):=c P 121 1063 1077 1828 1847 m9 [] [(0,1846,1076)]
def JI(P:cP):(Nat->Obj)×(Nat->Obj):=c P 139 1177 1189 2022 2038 qE [] [(0,2037,1188)]
def lo(P:cP):Nat->Obj:=b 646 (b 327 (b 168 (b 86 (b 43 (b 29 (b 15 (s 0 [AM P,boot_o_1 P,AN P,T,boot_o_4 P,boot_o_5 P,boot_o_6 P,boot_o_7 P,boot_o_8 P,boot_o_9 P,boot_o_10 P,T,T,zl "<module>" "<module>" 182 1 0 0 ae 11 12 .none .none .none 185,fr 13 3 m0])<|b 22 (f 0 15 187 m0 .none ["k"])<|(N9 P).2)<|b 30 (s 29 [tu [(st "" 208)]])<|b 37 (g 2 0 30 209 m1 (r 29) ["self","reason"])<|(N9 P).1)<|b 62 (b 50 ((NO P).2)<|b 55 ((NO P).1)<|(NL P).2)<|b 74 (b 67 ((NL P).1)<|(Ld P).2)<|b 79 ((Ld P).1)<|(Ma P).2)<|b 119 (b 103 (b 91 ((Ma P).1)<|b 98 ((Nh P).2)<|(Nh P).1)<|b 110 ((HD P).2)<|b 115 ((HD P).1)<|w 115 338 [0,1,2,3])<|b 140 (b 126 (f 15 119 346 m2 .none ["value","low","high"])<|b 133 (f 16 126 355 m2 .none ["value"])<|f 17 133 362 m2 .none ["value"])<|b 154 (b 147 (f 18 140 369 m2 .none ["value"])<|f 19 147 376 m2 .none ["number","by"])<|b 161 (f 20 154 384 m2 .none ["excess","total","ratio"])<|f 21 161 393 m2 .none ["sums","order"])<|b 247 (b 210 (b 189 (b 175 ((Pw P).2)<|b 182 (g 22 0 175 413 m2 .none ["self"])<|g 22 1 182 420 m2 .none ["self","glue"])<|b 196 (g 22 2 189 428 m2 .none ["self","width"])<|b 203 (g 22 3 196 436 m2 .none ["self"])<|g 22 4 203 443 m2 .none ["self"])<|b 228 (b 217 (g 22 5 210 450 m2 .none ["self"])<|b 224 ((Pw P).1)<|w 224 482 [0,1,2,3])<|b 233 (b 232 (w 228 490 [128,128,255])<|s 232 [tu<|uA 496 [0,0,0,0,0,0]])<|b 240 (f 31 233 503 m3 .none ["value"])<|f 32 240 510 m3 .none ["sizes","size"])<|b 290 (b 268 (b 254 (f 33 247 518 m3 .none ["pieces","chars","place","code"])<|b 261 (f 34 254 528 m3 .none ["chars","many","code","row","sort","rest"])<|f 35 261 540 m3 .none ["chars","code","far","turns"])<|b 282 (b 275 (f 36 268 550 m3 .none ["program","kerns","chars","boundary","many","place","row","octet","skip","following","op","rest"])<|f 37 275 568 m3 .none ["program","skip","following","op","rest"])<|b 289 ((Ql P).2)<|s 289 [T])<|b 299 (b 291 (s 290 [T])<|b 292 (s 291 [tu [(r 289),(r 290),(iv 256 470)]])<|g 38 0 292 591 m3 (r 291) ["self","number","name","size","params","chars","program","kerns","boundary"])<|b 313 (b 306 (g 38 1 299 606 m3 .none ["self","code"])<|g 38 2 306 614 m3 .none ["self","code"])<|b 320 (g 38 3 313 622 m3 .none ["self","code"])<|g 38 4 320 630 m3 .none ["self","code"])<|b 482 (b 412 (b 369 (b 348 (b 334 (g 38 5 327 638 m3 .none ["self","code"])<|b 341 (g 38 6 334 646 m3 .none ["self","code","row"])<|g 38 7 341 655 m3 .none ["self","code","row"])<|b 355 (g 38 8 348 664 m3 .none ["self","code","row"])<|b 362 (g 38 9 355 673 m3 .none ["self","number"])<|g 38 10 362 681 m3 .none ["self","number","value"])<|b 390 (b 376 ((Ql P).1)<|b 383 (f 41 376 715 m4 .none ["size","reduced","factor"])<|f 42 383 724 m4 .none ["row","reduced","factor","first","second","third","fourth","part"])<|b 400 (b 395 (f 43 390 738 m4 .none [])<|f 44 395 744 m4 .none [])<|b 405 (f 45 400 750 m4 .none [])<|f 46 405 756 m4 .none ["octets","at","counts","slots","first","last","code","row","slot","sort","rest"])<|b 448 (b 433 (b 419 (f 47 412 773 m4 .none ["slots","tables","pieces","chars","code","slot","rest","row"])<|b 426 (f 48 419 787 m4 .none ["octets","at","many","size","first","second","third","fourth","slant"])<|f 49 426 802 m4 .none ["octets","row","design"])<|b 434 (s 433 [tu [.none]])<|b 441 (f 50 434 811 m4 (r 433) ["octets","number","name","size","counts","check","design","wanted","at","slots","tables","many","program","kerns","chars","params","font"])<|f 51 441 834 m4 .none ["octets","number","name","thousandths","design"])<|b 466 (b 455 (f 52 448 845 m4 .none ["octets","number","name","size","scale"])<|b 462 (f 53 455 856 m4 .none ["program"])<|w 462 865 [0,1,2,3,4,5,6,7])<|b 474 (b 470 (w 466 881 [8,9,10,11,12,13,14])<|w 470 895 [0,1,2])<|b 478 (w 474 901 [0,1,2,3])<|w 478 909 [0,1,2,3,4,5,100])<|b 562 (b 521 (b 500 (b 486 (w 482 923 [0,1,2,3])<|b 493 (f 61 486 931 m5 .none ["code"])<|(NT P).2)<|b 507 (g 62 1 500 951 m5 .none ["self","font","code"])<|b 514 ((NT P).1)<|(Jg P).2)<|b 534 (b 522 (s 521 [tu [(.bool ae),(.bool ae)]])<|b 527 (g 63 1 522 983 m5 (r 521) [])<|(Jg P).1)<|b 548 (b 541 ((Lw P).2)<|g 64 0 541 1014 m5 .none ["self","kind","width","height","depth","items"])<|b 555 ((Lw P).1)<|(IV P).2)<|b 605 (b 581 (b 569 (g 65 1 562 1056 m5 .none ["self","width","sort"])<|b 576 ((IV P).1)<|f 66 576 1075 m5 .none [])<|b 591 (b 586 (f 67 581 1081 m5 .none [])<|f 68 586 1087 m5 .none [])<|b 598 (f 69 591 1093 m5 .none ["node"])<|f 70 598 1100 m5 .none ["node"])<|b 621 (b 610 (f 73 605 1111 m6 .none [])<|b 617 (f 74 610 1117 m6 .none ["rule","box","height","width"])<|w 617 1129 [0,1])<|b 632 (b 625 (w 621 1133 [0,1,2,3])<|f 78 625 1141 m7 .none ["items","totals","height","depth","node"])<|b 639 (f 79 632 1152 m7 .none ["items","node"])<|f 80 639 1160 m7 .none ["up","down"]) (b 954 (b 787 (b 722 (b 688 (b 667 (b 653 (f 81 646 1168 m7 .none ["totals","excess","order","total","report"])<|b 660 (f 82 653 1179 m7 .none ["box","glue"])<|f 83 660 1187 m7 .none ["box","flexed"])<|b 674 (f 84 667 1195 m7 .none ["box","node"])<|b 681 (f 85 674 1203 m7 .none ["box","found","fixed","flexed","node"])<|f 86 681 1214 m7 .none ["items","kept","out","node"])<|b 703 (b 695 (f 87 688 1224 m7 .none ["own","mode","amount"])<|b 702 (f 88 695 1233 m7 .none ["box","totals","excess","report"])<|s 702 [tu [(iv 1 1130),(iv 0 1243),.none]])<|b 714 (b 710 (f 89 703 1244 m7 (r 702) ["items","mode","amount","outside","kept","out","totals","height","depth","width","box"])<|w 710 1263 [128,132,133,137,138,139,140,141,142])<|b 718 (w 714 1281 [143,157,171,235,239,243,247,248,249])<|w 718 1299 [223,2])<|b 740 (b 734 (b 726 (w 722 1303 [25400000,473628672,1000])<|b 730 (w 726 1313 [5,10,4,9])<|w 730 1321 [0,1,2,3,4,5])<|b 738 (w 734 1333 [0,1,2])<|b 739 (s 738 [tu [(iv 5 870),(iv 6 871),(iv 7 872),(iv 9 882),(iv 10 883),(iv 11 884),(iv 12 885)]])<|s 739 [tu [(iv 5 870),(iv 6 871),(iv 7 872),(iv 9 882),(iv 10 883)]])<|b 761 (b 747 (f 102 740 1341 m8 .none ["octets","number","room","place"])<|b 754 (f 103 747 1351 m8 .none ["octets","first","size","room"])<|f 104 754 1361 m8 .none ["octets","first","number","room"])<|b 773 (b 768 (f 105 761 1371 m8 .none ["octets"])<|f 106 768 1378 m8 .none [])<|b 780 (f 107 773 1384 m8 .none ["place"])<|(IA P).2)<|b 878 (b 829 (b 808 (b 794 (g 108 0 787 1403 m8 .none ["self","plain"])<|b 801 (g 108 1 794 1411 m8 .none ["self","begin"])<|g 108 2 801 1419 m8 .none ["self","octets","size","hit","state","row"])<|b 815 (g 108 3 808 1431 m8 .none ["self","octets","size","seen","place","there","spot","state"])<|b 822 ((IA P).1)<|f 109 822 1455 m8 .none ["state","used"])<|b 850 (b 836 ((Ih P).2)<|b 843 (g 110 0 836 1475 m8 .none ["self","fonts","depth"])<|g 110 1 843 1484 m8 .none ["self","depth"])<|b 864 (b 857 (g 110 2 850 1492 m8 .none ["self","begin","depth"])<|g 110 3 857 1501 m8 .none ["self","h"])<|b 871 (g 110 4 864 1509 m8 .none ["self","v"])<|g 110 5 871 1517 m8 .none ["self","font","known"])<|b 923 (b 899 (b 885 (g 110 6 878 1526 m8 .none ["self","font","code","h","v"])<|b 892 (g 110 7 885 1537 m8 .none ["self","height","width","h","v","moves"])<|g 110 8 892 1549 m8 .none ["self","octets","h","v"])<|b 913 (b 906 ((Ih P).1)<|f 111 906 1576 m8 .none ["box","offsets","found","place","item","spot","part","behind"])<|b 918 (f 112 913 1590 m8 .none [])<|f 113 918 1596 m8 .none [])<|b 944 (b 930 (f 114 923 1602 m8 .none ["page","box","left","base","depth","begin","is_vertical","row","inner","part","part_left","part_base","is_copy","h","v"])<|b 937 (f 115 930 1623 m8 .none ["box","left","top"])<|(QA P).2)<|b 952 (b 945 (s 944 [tu<|uA 1644 [40]])<|g 116 0 945 1645 m8 (r 944) ["self","depth","mark"])<|b 953 (s 952 [T])<|s 953 [tu [(r 952),(iv 0 1654),(iv 0 1655)]])<|b 1138 (b 1042 (b 993 (b 975 (b 961 (g 116 1 954 1656 m8 (r 953) ["self","box","counts","left","top","page","place"])<|b 968 (g 116 2 961 1669 m8 .none ["self","octets","number","place"])<|(QA P).1)<|b 979 (w 975 1697 [0,1,2])<|b 986 ((P0 P).2)<|g 119 0 986 1715 m9 .none ["self","octets"])<|b 1014 (b 1000 (g 119 1 993 1723 m9 .none ["self","room","end","found","place"])<|b 1007 (g 119 2 1000 1734 m9 .none ["self","room","found","half"])<|g 119 3 1007 1744 m9 .none ["self","many","end","found"])<|b 1028 (b 1021 ((P0 P).1)<|(K4 P).2)<|b 1035 (g 120 0 1028 1776 m9 .none ["self"])<|g 120 1 1035 1783 m9 .none ["self"])<|b 1091 (b 1063 (b 1049 (g 120 2 1042 1790 m9 .none ["self"])<|b 1056 (g 120 3 1049 1797 m9 .none ["self","across","down","h","v"])<|(K4 P).1)<|b 1077 (b 1070 ((Kb P).2)<|g 121 0 1070 1838 m9 .none ["self","units","comment"])<|b 1084 ((Kb P).1)<|f 122 1084 1862 m9 .none ["stream","found"])<|b 1110 (b 1096 (f 123 1091 1870 m9 .none [])<|b 1103 (f 124 1096 1876 m9 .none ["opcode"])<|f 125 1103 1883 m9 .none ["stream","which","first","second"])<|b 1124 (b 1117 (f 126 1110 1893 m9 .none ["state","code","fonts","moves","font"])<|f 127 1117 1904 m9 .none ["stream","state","moves","height","width"])<|b 1131 (f 128 1124 1915 m9 .none ["state","number","known"])<|f 129 1131 1924 m9 .none ["stream","opcode","known","fonts","number","row"])<|b 1217 (b 1170 (b 1157 (b 1145 (f 130 1138 1936 m9 .none ["stream","state","opcode","known","fonts","size","many"])<|b 1150 (f 131 1145 1949 m9 .none [])<|f 132 1150 1955 m9 .none ["stream","known","fonts","told","opcode","number","row"])<|b 1162 (f 133 1157 1968 m9 .none [])<|b 1169 (f 134 1162 1974 m9 .none ["octets","fonts","stream","units","many","device","last","opcode","begin","counts","state"])<|s 1169 [tu<|uA 1993 [0,1,2,3,5,6,7,11]])<|b 1189 (b 1177 (f 138 1170 2004 qE .none ["font","left","right","place","program","going","skip","following","op","rest"])<|b 1184 ((JI P).2)<|g 139 0 1184 2032 qE .none [])<|b 1203 (b 1196 ((JI P).1)<|f 140 1196 2054 qE .none ["word","code","parts","is_made"])<|b 1210 (f 141 1203 2064 qE .none ["word"])<|f 142 1210 2071 qE .none ["word","op","code","now","keeps_left","keeps_right","parts","taken","made","turn"])<|b 1254 (b 1232 (b 1224 (f 143 1217 2087 qE .none ["font","codes","left_edge","edge","word","steps","left","right","told"])<|b 1225 (s 1224 [tu [(.bool aa),(.bool aa)]])<|f 144 1225 2102 qE (r 1224) ["font","codes","left_edge","right_edge","code","found","piece","has_left"])<|b 1240 (b 1233 (s 1232 [tu<|uA 2118 [667883746520804040339592396131,1000000000055096219,1000000000000658403]])<|f 147 1233 2122 i6 .none ["script","k"])<|b 1247 (f 148 1240 2130 i6 .none ["cell"])<|f 149 1247 2137 i6 .none ["bag","many","digit","mixed"])<|b 1273 (b 1261 (f 150 1254 2147 i6 .none ["bag","letters","turn","width","height","rows","behind","is_kern","check","design"])<|b 1266 (f 151 1261 2163 i6 .none [])<|f 152 1266 2169 i6 .none ["words","found","word"])<|b 1285 (b 1280 (f 153 1273 2178 i6 .none ["word","size","bits"])<|f 154 1280 2187 i6 .none [])<|b 1292 (f 155 1285 2193 i6 .none ["octets","which","size","scale"])<|f 156 1292 2203 i6 .none [])
def mk(g:Nat->Obj)(n:Nat):Nat->Nat->BT:=
 AL (motive:=λ_=>Nat->Nat->BT) (λ_ _=>Z) (λ_ h i k=>cond (eZ i 1296) (N (g i) (h (i+k)<|2*k)<|h (i+2*k)<|2*k) Z) n
abbrev mt(P:cP)(n i k:Nat):BT:=mk (lo P) n i k
def tr(P:cP)(a b c:Obj):BT:=N (lo P 0) (N (lo P 1) (N a (N (lo P 7) (mt P 7 15 16)<|N (lo P 23) (N c (mt P 5 71 64)<|mt P 5 103 64)<|mt P 6 55 32)<|mt P 8 11 8)<|mt P 9 5 4) (N (lo P 2) (N (lo P 4) (mt P 8 8 8)<|N b (mt P 7 20 16)<|mt P 7 28 16)<|mt P 9 6 4)
def Qy(P:cP):List jj:=[E P "__doc__" 166 .none,E P "__package__" 167 .none,E P "__loader__" 168<|.builtin "__main__.__loader__#opaque",E P "__spec__" 169 .none,E P "__annotations__" 170<|r 6,E P "__builtins__" 171<|r 4,E P "__file__" 173<|st "/claim/cut.py" 172,E P "__cached__" 174 .none,E P "_wall" 193<|r 21,E P "PageError" 223<|r 39,E P "BadArgument" 239<|r 52,E P "Overflow" 255<|r 64,E P "BadFont" 271<|r 76,E P "BadDevice" 287<|r 88,E P "TooDeep" 303<|r 100,E P "TooMuch" 319<|r 112,E P "UNITY" 323<|iv 65536 322,E P "MAX_DIMEN" 329<|iv 1073741823 328,E P "MAX_NUMBER" 335<|iv 2147483647 334,E P "INF_BAD" 337<|iv 10000 336,E P "NORMAL" 342<|iv 0 338,E P "FIL" 343<|iv 1 339,E P "FILL" 344<|iv 2 340,E P "FILLL" 345<|iv 3 341,E P "is_whole" 354<|r 125,E P "check_whole" 361<|r 132,E P "check_number" 368<|r 139,E P "check_dimen" 375<|r 146,E P "rounded" 383<|r 153,E P "badness" 392<|r 160,E P "top_order" 400<|r 167,E P "Totals" 467<|r 219,E P "EDGE" 471<|iv 256 470,E P "MOST_FONTS" 473<|iv 255 472,E P "MOST_PARAMS" 475<|iv 64 474,E P "MOST_SIZE" 481<|iv 134217727 480,E P "PLAIN_SORT" 486<|iv 0 482,E P "PROGRAM_SORT" 487<|iv 1 483,E P "LARGER_SORT" 488<|iv 2 484,E P "PIECES_SORT" 489<|iv 3 485,E P "STOP_SKIP" 493<|iv 128 490,E P "KERN_OP" 494<|iv 128 491,E P "LEAD" 495<|iv 255 492,E P "NO_CHARACTER" 502<|r 232,E P "is_size" 509<|r 239,E P "check_sizes" 517<|r 246,E P "check_pieces" 527<|r 253,E P "check_chars" 539<|r 260,E P "check_larger" 549<|r 267,E P "check_program" 567<|r 274,E P "left_start" 578<|r 281,E P "Font" 710<|r 371,E P "LONGEST" 714<|iv 32767 713,E P "size_parts" 723<|r 382,E P "scaled_product" 737<|r 389,E P "read_counts" 743<|r 394,E P "read_sizes" 749<|r 399,E P "read_rows" 755<|r 404,E P "read_slots" 772<|r 411,E P "read_chars" 786<|r 418,E P "read_params" 801<|r 425,E P "read_design" 810<|r 432,E P "read_tfm" 833<|r 440,E P "read_scaled" 844<|r 447,E P "load_metrics" 855<|r 454,E P "right_code" 862<|r 461,E P "CHAR" 873<|iv 0 865,E P "LIGATURE" 874<|iv 1 866,E P "HBOX" 875<|iv 2 867,E P "VBOX" 876<|iv 3 868,E P "RULE" 877<|iv 4 869,E P "KERN" 878<|iv 5 870,E P "GLUE" 879<|iv 6 871,E P "PENALTY" 880<|iv 7 872,E P "DISC" 888<|iv 8 881,E P "MARK" 889<|iv 9 882,E P "INSERT" 890<|iv 10 883,E P "ADJUST" 891<|iv 11 884,E P "MATH" 892<|iv 12 885,E P "SPECIAL" 893<|iv 13 886,E P "UNSET" 894<|iv 14 887,E P "NATURAL" 898<|iv 0 895,E P "STRETCHED" 899<|iv 1 896,E P "SHRUNK" 900<|iv 2 897,E P "FONT_KERN" 905<|iv 0 901,E P "EXPLICIT" 906<|iv 1 902,E P "ACCENT_KERN" 907<|iv 2 903,E P "MU_KERN" 908<|iv 3 904,E P "PLAIN" 916<|iv 0 909,E P "ALEADERS" 917<|iv 1 910,E P "CLEADERS" 918<|iv 2 911,E P "XLEADERS" 919<|iv 3 912,E P "MU_SKIP" 920<|iv 4 913,E P "NONSCRIPT" 921<|iv 5 914,E P "NAMED" 922<|iv 100 915,E P "FOR_DEVICE" 927<|iv 0 923,E P "WRITING" 928<|iv 1 924,E P "OPENING" 929<|iv 2 925,E P "CLOSING" 930<|iv 3 926,E P "check_code" 937<|r 492,E P "Char" 969<|r 509,E P "Ligature" 1001<|r 529,E P "Box" 1042<|r 550,E P "Kern" 1074<|r 571,E P "width_of" 1080<|r 580,E P "height_of" 1086<|r 585,E P "depth_of" 1092<|r 590,E P "line_height" 1099<|r 597,E P "line_depth" 1106<|r 604,E P "MOST_COPIES" 1110<|iv 2000 1109,E P "leader_places" 1116<|r 609,E P "with_rule_sizes" 1126<|r 616,E P "EXACTLY" 1131<|iv 0 1129,E P "SPREAD" 1132<|iv 1 1130,E P "FINE" 1137<|iv 0 1133,E P "LOOSE" 1138<|iv 1 1134,E P "TIGHT" 1139<|iv 2 1135,E P "OVERFULL" 1140<|iv 3 1136,E P "natural_line" 1151<|r 631,E P "check_column" 1159<|r 638,E P "quotient" 1167<|r 645,E P "set_glue" 1178<|r 652,E P "flex" 1186<|r 659,E P "set_part" 1194<|r 666,E P "part_size" 1202<|r 673,E P "places" 1213<|r 680,E P "moved" 1223<|r 687,E P "goal_size" 1232<|r 694,E P "set_box" 1242<|r 701,E P "hpack" 1260<|r 709,E P "SET_1" 1272<|iv 128 1263,E P "SET_RULE" 1273<|iv 132 1264,E P "PUT_1" 1274<|iv 133 1265,E P "PUT_RULE" 1275<|iv 137 1266,E P "NO_OPERATION" 1276<|iv 138 1267,E P "PAGE_BEGIN" 1277<|iv 139 1268,E P "PAGE_END" 1278<|iv 140 1269,E P "PUSH" 1279<|iv 141 1270,E P "POP" 1280<|iv 142 1271,E P "RIGHT_1" 1290<|iv 143 1281,E P "DOWN_1" 1291<|iv 157 1282,E P "FONT_0" 1292<|iv 171 1283,E P "FONT_1" 1293<|iv 235 1284,E P "SPECIAL_1" 1294<|iv 239 1285,E P "FONT_DEF_1" 1295<|iv 243 1286,E P "PREAMBLE" 1296<|iv 247 1287,E P "POSTAMBLE" 1297<|iv 248 1288,E P "POST_POST" 1298<|iv 249 1289,E P "FILLING" 1301<|iv 223 1299,E P "IDENTITY" 1302<|iv 2 1300,E P "NUMERATOR" 1306<|iv 25400000 1303,E P "DENOMINATOR" 1307<|iv 473628672 1304,E P "MAGNIFICATION" 1308<|iv 1000 1305,E P "COMMENT_TEXT" 1310<|st "gluepage" 1309,E P "DEEPEST_BOXES" 1312<|iv 60 1311,E P "FIRST_SET" 1317<|iv 5 1313,E P "SECOND_SET" 1318<|iv 10 1314,E P "FIRST_AGAIN" 1319<|iv 4 1315,E P "SECOND_AGAIN" 1320<|iv 9 1316,E P "FREE" 1327<|iv 0 1321,E P "FIRST_FREE" 1328<|iv 1 1322,E P "SECOND_FREE" 1329<|iv 2 1323,E P "FIXED" 1330<|iv 3 1324,E P "IS_FIRST" 1331<|iv 4 1325,E P "IS_SECOND" 1332<|iv 5 1326,E P "NONE_SEEN" 1336<|iv 0 1333,E P "FIRST_SEEN" 1337<|iv 1 1334,E P "SECOND_SEEN" 1338<|iv 2 1335,E P "SILENT_ACROSS" 1339<|r 738,E P "SILENT_DOWN" 1340<|r 739,E P "put_number" 1350<|r 746,E P "put_signed" 1360<|r 753,E P "put_counted" 1370<|r 760,E P "put_units" 1377<|r 767,E P "define_font" 1383<|r 772,E P "check_place" 1390<|r 779,E P "Moves" 1454<|r 817,E P "barred" 1462<|r 828,E P "PageWriter" 1575<|r 901,E P "parts_of" 1589<|r 912,E P "across_part" 1595<|r 917,E P "down_part" 1601<|r 922,E P "out_box" 1622<|r 929,E P "check_page" 1631<|r 936,E P "DviWriter" 1694<|r 970,E P "CHAR_ROW" 1700<|iv 0 1697,E P "RULE_ROW" 1701<|iv 1 1698,E P "SPECIAL_ROW" 1702<|iv 2 1699,E P "OctetStream" 1763<|r 1016,E P "PageState" 1825<|r 1058,E P "Device" 1861<|r 1079,E P "read_units" 1869<|r 1090,E P "read_font" 1875<|r 1095,E P "is_font_definition" 1882<|r 1102,E P "read_move" 1892<|r 1109,E P "read_letter" 1903<|r 1116,E P "read_rule" 1914<|r 1123,E P "choose_font" 1923<|r 1130,E P "add_font" 1935<|r 1137,E P "page_step" 1948<|r 1144,E P "read_page" 1954<|r 1149,E P "read_post_fonts" 1967<|r 1156,E P "read_postamble" 1973<|r 1161,E P "read_file" 1990<|r 1168,E P "KNOWN_OPS" 2001<|r 1169,E P "STEPS" 2003<|iv 20 2002,E P "look" 2019<|r 1176,E P "Word" 2053<|r 1191,E P "leave" 2063<|r 1202,E P "pass_on" 2070<|r 1209,E P "put_between" 2086<|r 1216,E P "word_nodes" 2101<|r 1223,E P "run" 2115<|r 1231,E P "_law_chosen" 2121<|r 1232,E P "_law_cell" 2129<|r 1239,E P "_law_bag" 2136<|r 1246,E P "_law_draw" 2146<|r 1253,E P "_law_metrics" 2162<|r 1260,E P "_law_words" 2168<|r 1265,E P "_law_octets" 2177<|r 1272,E P "_law_at" 2186<|r 1279,E P "_law_joined" 2192<|r 1284,E P "_law_loaded" 2202<|r 1291,E P "law" 2208<|r 1296]
def gl(P:cP)(nm:av)(k:Nat):Obj:=⟨.type "dict",Y,.dict (E P "__name__" 165 nm::(Qy P).take (k -1)).toArray k,#[]⟩
def sT(nm:av)(k m c n t:Nat)(P:cP)(os:mn):Q4:=⟨tr P (gl P nm k) (zt m)<|Az c,n,{},lG [],{},t,os⟩
def env:Env:={scope:=pw.main.scope,locals:=mainNs,globals:=mainNs,cells:=[],code:= .ref 13,frame:=U 14}
noncomputable abbrev q0:Pos:=⟨0,0,0,0⟩
noncomputable abbrev ann:Option av:=U (.ref 6)
def fO(i k:Nat):List cj:=(pw.main.body.drop i).take k
abbrev St:=cP->mn->Q4
abbrev vn:=Nat×St×Pos×List cj
def cF:List vn:=[(898,sT m0 9 0 0 15 187,⟨0,0,0,0⟩,fO 0 6),
 (709,sT m1 14 15 3 79 272,⟨13,0,14,8⟩,fO 6 8),
 (102,sT m2 21 24 6 115 338,⟨25,0,25,7⟩,fO 14 1),
 (647,sT m2 25 24 6 119 346,⟨26,19,26,24⟩,fO 15 13),
 (185,sT m3 37 48 6 224 482,⟨95,0,95,9⟩,fO 28 2),
 (870,sT m3 44 48 6 232 496,⟨97,20,97,24⟩,fO 30 12),
 (408,sT m4 55 75 6 383 724,⟨217,0,222,28⟩,fO 42 13),
 (412,sT m5 67 111 6 462 865,⟨324,0,324,8⟩,fO 55 3),
 (358,sT m5 85 111 6 474 901,⟨327,20,327,26⟩,fO 58 3),
 (737,sT m5 100 111 6 486 931,⟨330,30,330,37⟩,fO 61 4),
 (459,sT m5 104 123 6 555 1043,⟨350,0,363,27⟩,fO 65 11),
 (167,sT m7 113 147 6 617 1129,⟨446,0,446,8⟩,fO 76 2),
 (397,sT m7 119 147 6 625 1141,⟨448,20,448,28⟩,fO 78 13),
 (448,sT m8 131 183 6 710 1263,⟨532,0,532,8⟩,fO 91 3),
 (84,sT m8 151 183 6 722 1303,⟨535,9,535,17⟩,fO 94 1),
 (19,sT m8 154 183 6 726 1309,⟨536,24,536,37⟩,fO 95 2),
 (322,sT m8 156 183 6 726 1313,⟨538,0,538,13⟩,fO 97 3),
 (584,sT m8 169 183 6 738 1339,⟨541,23,541,34⟩,fO 100 10),
 (661,sT m8 179 207 6 829 1463,⟨624,0,627,84⟩,fO 110 6),
 (318,sT m8 185 225 6 937 1632,⟨783,0,789,50⟩,fO 116 2),
 (84,sT m9 186 228 6 975 1697,⟨844,0,844,8⟩,fO 118 1),
 (883,sT m9 189 228 6 979 1703,⟨845,20,845,31⟩,fO 119 3),
 (891,sT m9 192 237 6 1084 1862,⟨907,0,916,24⟩,fO 122 24),
 (315,sT i6 214 297 6 1232 2118,⟨1176,0,1176,8⟩,fO 146 11)]
def sF:St:=sT i6 225 327 6 1297 2209
noncomputable def pF:Pos:=⟨1252,0,1291,15⟩
noncomputable def uH:List vn->St×Pos
 |[]=>(sF,pF)
 |r::_=>(r.2.1,r.2.2.1)
noncomputable def Db:List vn->Nat
 |[]=>2
 |r::l=>r.1+Db l
noncomputable def CC:List vn->List cj
 |[]=>[]
 |r::l=>r.2.2.2++CC l
abbrev R:=Option (sS×Q4×Code×Pos)
noncomputable def lh(w:kN)(k:Nat):pv->List cj->mn->R:=match cF.drop k with
 |r::_=>λp b os=>Fast.tw10110043849684766642 AP p w 11 ann 1 r.1 (r.2.1 w.params os) (piecesOf r.2.2.2 env (AQ b env) r.2.2.1 [uM q0])
 |[]=>λ_ _ _=>Y
def rh(w:kN)(k:Nat):pv->List cj->mn->R:=match cF.drop k with
 |_::l=>λ_ b os=>U (.next,(uH l).1 w.params os,AQ b env,(uH l).2)
 |[]=>λ_ _ _=>Y
abbrev Pc(k:Nat)(w:kN):Prop:=lh w k=rh w k
noncomputable abbrev Gz:String:="special-get-raises"
theorem d3 k(f: ∀w:kN,Pc k<|w.withFollow Gz ae)(t: ∀w:kN,Pc k<|w.withFollow Gz aa) w:Pc k w:=byRow2 Gz (P:=Pc k) f t w
theorem Z9 w:Pc 0 w:=by kernel_rfl
theorem pc1 w:Pc 1 w:=by kernel_rfl
theorem pc2 w:Pc 2 w:=d3 2 (λ_=>by kernel_rfl) (λ_=>by kernel_rfl) w
theorem pc3 w:Pc 3 w:=by kernel_rfl
theorem Zt w:Pc 4 w:=d3 4 (λ_=>by kernel_rfl) (λ_=>by kernel_rfl) w
theorem UX w:Pc 5 w:=by kernel_rfl
theorem pc6 w:Pc 6 w:=by kernel_rfl
theorem pc7 w:Pc 7 w:=d3 7 (λ_=>by kernel_rfl) (λ_=>by kernel_rfl) w
theorem pc8 w:Pc 8 w:=d3 8 (λ_=>by kernel_rfl) (λ_=>by kernel_rfl) w
theorem pc9 w:Pc 9 w:=by kernel_rfl
theorem ay3 w:Pc 10 w:=by kernel_rfl
theorem TH w:Pc 11 w:=d3 11 (λ_=>by kernel_rfl) (λ_=>by kernel_rfl) w
theorem WH w:Pc 12 w:=by kernel_rfl
theorem aH9 w:Pc 13 w:=d3 13 (λ_=>by kernel_rfl) (λ_=>by kernel_rfl) w
theorem am7 w:Pc 14 w:=d3 14 (λ_=>by kernel_rfl) (λ_=>by kernel_rfl) w
theorem XH w:Pc 15 w:=by kernel_rfl
theorem ae7 w:Pc 16 w:=d3 16 (λ_=>by kernel_rfl) (λ_=>by kernel_rfl) w
theorem aK6 w:Pc 17 w:=by kernel_rfl
theorem ZC w:Pc 18 w:=by kernel_rfl
theorem Zx w:Pc 19 w:=by kernel_rfl
theorem ad4 w:Pc 20 w:=d3 20 (λ_=>by kernel_rfl) (λ_=>by kernel_rfl) w
theorem ao7 w:Pc 21 w:=by kernel_rfl
theorem Vj w:Pc 22 w:=by kernel_rfl
theorem aQ1 w:Pc 23 w:=by kernel_rfl
def H1(P:cP):cu:=absHeap (tr P (gl P i6 225) (zt 327)<|Az 6) 1297 {}
section
variable(w:kN)(p:pv)(b:List cj)(os:mn)
theorem gA:(λp b os=>Fast.tw14082659384304107361 AP p w 11 ann 2 (sF w.params os).abs<|restOf [] env (AQ b env) pF [uM q0])=λ_ _ os=>U (sF w.params os).abs:=by kernel_rfl
def Ch(l:List vn):Prop:=topRun AR p w 11 ann (Db l) ((uH l).1 w.params os).abs (restOf (CC l) env (AQ b env) (uH l).2 [uM q0])=U (sF w.params os).abs
theorem Ch.nil:Ch w p b os []:=by
 have h:=congrFun (congrFun (congrFun (gA w) p) b) os
 rw[<-Fast.te14082659384304107361,<-GB] at h
 exact h
theorem Ch.cons{r}(e:cF.drop k=r::l)(h:Pc k w)(c:Ch w p b os l):Ch w p b os<|r::l:=by
 have h:=congrFun (congrFun (congrFun h p) b) os
 unfold lh rh at h
 rw[e,<-Fast.te10110043849684766642,<-GB] at h
 exact piece_app (segRun_of h) c
theorem AH:Ch w p b os cF:=
 Ch.cons (k:=0) w p b os rfl (Z9 w) (.cons (k:=1) w p b os rfl (pc1 w)<|.cons (k:=2) w p b os rfl (pc2 w)<|.cons (k:=3) w p b os rfl (pc3 w)<|.cons (k:=4) w p b os rfl (Zt w)<|.cons (k:=5) w p b os rfl (UX w)<|.cons (k:=6) w p b os rfl (pc6 w)<|.cons (k:=7) w p b os rfl (pc7 w)<|.cons (k:=8) w p b os rfl (pc8 w)<|.cons (k:=9) w p b os rfl (pc9 w)<|.cons (k:=10) w p b os rfl (ay3 w)<|.cons (k:=11) w p b os rfl (TH w)<|.cons (k:=12) w p b os rfl (WH w)<|.cons (k:=13) w p b os rfl (aH9 w)<|.cons (k:=14) w p b os rfl (am7 w)<|.cons (k:=15) w p b os rfl (XH w)<|.cons (k:=16) w p b os rfl (ae7 w)<|.cons (k:=17) w p b os rfl (aK6 w)<|.cons (k:=18) w p b os rfl (ZC w)<|.cons (k:=19) w p b os rfl (Zx w)<|.cons (k:=20) w p b os rfl (ad4 w)<|.cons (k:=21) w p b os rfl (ao7 w)<|.cons (k:=22) w p b os rfl (Vj w)<|.cons (k:=23) w p b os rfl (aQ1 w)<|Ch.nil w p b os)
end
theorem WF:AS pw=CC cF:=by kernel_rfl
def Ha(P:cP):cu:=⟨lG [AM P,boot_o_1 P,AN P,boot_o_3 P,boot_o_4 P,boot_o_5 P,boot_o_6 P,boot_o_7 P,boot_o_8 P,boot_o_9 P,boot_o_10 P,T,zt 0,zl "<module>" "<module>" 182 1 0 0 ae 11 12 .none .none .none 185,fr 13 3 m0],{}⟩
abbrev cE:Code:=AQ (AS pw) env
theorem pre w:(λos=>Fast.tw15667345088766844465 AP pw w 11 ann 12 ⟨qR w.params,lG [],Q5,Q6,os⟩<|Q7 pw)=λos=>U (⟨Ha w.params,lG [],{},187,os⟩,⟨Fast.tw11892475500146522536 AP cE,cE,q0,[uM q0]⟩):=by kernel_rfl
theorem aK0 w os:topGo AR pw w 11 ann 12 ⟨qR w.params,lG [],Q5,Q6,os⟩ (Q7 pw)=U (⟨Ha w.params,lG [],{},187,os⟩,⟨denote AR cE,cE,q0,[uM q0]⟩):=by
 have h:=congrFun (pre w) os
 rw[<-Fast.te15667345088766844465,<-Fast.te11892475500146522536,<-GB] at h
 exact h
theorem ys w:(λp os=>Fast.tw14374325043358763698 AP p w 11 ann 1 1 ⟨Ha w.params,lG [],{},187,os⟩<|blockOf (AS pw) env cE q0 [uM q0])=λ_ os=>U (.next,((uH cF).1 w.params os).abs,cE,q0):=by kernel_rfl
theorem U9 w p os:segRun AR p w 11 ann 1 1 ⟨Ha w.params,lG [],{},187,os⟩ (blockOf (AS pw) env cE q0 [uM q0])=U (.next,((uH cF).1 w.params os).abs,cE,q0):=by
 have h:=congrFun (congrFun (ys w) p) os
 rw[<-Fast.te14374325043358763698,<-GB] at h
 exact h
theorem VF w os:topRun AR pw w 11 ann (12+(1+Db cF)) ⟨qR w.params,lG [],Q5,Q6,os⟩ (Q7 pw)=U ⟨H1 w.params,lG [],{},2209,os⟩:=by
 refine go_top (aK0 w os) (piece_block (U9 w pw os) ?_)
 have h:=AH w pw (AS pw) os
 unfold Ch at h
 rw[<-WF] at h
 exact h
def q:pv:={pw with main:={pw.main with body:=[sa 156]}}
noncomputable def names(l:List jj):List Str:=match l with
 |⟨_,.str s _,_⟩::r=>s::names r
 |_::r=>names r
 |[]=>[]
noncomputable def p0:cP:={strHash:=λ_=>0,shareClass:=λ_=>0,mergeTok:=id,idOf:=λ_=>0,idOfShared:=λ_ _=>0,followText:=λ_=>ae,idOfImm:=λ_=>0}
def loose:List Str:=((names<|Qy p0).drop 8).take 215
noncomputable abbrev Xt:bB->Bool:=λ_=>aa
def S1(w:kN)(os:mn):bB:=⟨H1 w.params,lG [],{},2209,os⟩
theorem ap2(w:kN):(λos:mn=>(staticsOk (aR5 pw.main.body) (qR w.params)<|H1 w.params,namesBound pw<|H1 w.params,gensDone ⟨H1 w.params,lG [],{},2209,os⟩,laidKept (qR w.params)<|H1 w.params))=λ_=>(aa,aa,aa,aa):=by kernel_rfl
theorem aR3(w:kN):((qR w.params).isNs uN&&(lG []:Array Q8).size==0,(qR w.params).objs.size,(qR w.params).nsMap uN "__annotations__")=(aa,11,ann):=by kernel_rfl
theorem Zv w:(λos:mn=>Fast.tw4187177175401517315 q loose (aR5 pw.main.body) Xt aa<|S1 w os)=λ_=>openGood q loose:=by kernel_rfl
open PyProof.Rows
def YP(w:kN)(h:cu):Prop:= ∀a o,(H1 w.params).get? a=U o->h.get? a=U o
theorem aD7:opening pw=plainProg pw.main.scope.names:=by kernel_rfl
theorem Tf s:fenceModules? pw s=U s:=by kernel_rfl
theorem left:LeftO pw q loose Xt (λs=>s.heap) (λw=>H1 w.params) 30000 aa:=
 LeftO.of_pieces (H₀:=qR) (H₁:=H1) (m₀:=11) (ann:=ann) (boot_open aD7 (by decide+kernel) Tf) aR3 VF (by decide+kernel) λw=>by
  funext os
  have l1:=congrFun (ap2 w) os
  simp only[Prod.mk.injEq] at l1
  obtain⟨a,b,c,d⟩:=l1
  have l2:=congrFun (Zv w) os
  rw[<-Fast.te4187177175401517315] at l2
  rw[a,b,c,d]
  exact aA (λx=>(aa,x,H1 w.params)) l2
abbrev jt:OpenLaw:=GC
def Y2(s:cj):DefRec:=tD s ⟨"",⟨[],[],Y,[],[],Y,[]⟩,[],{kind:= .function,names:=[],isGenerator:=ae,isCoroutine:=ae,more:=[]},⟨0,0,0,0⟩⟩ (λn a b sc p=>⟨n,a,b,sc,p⟩) λ_ _ _=>⟨"",⟨[],[],Y,[],[],Y,[]⟩,[],{kind:= .function,names:=[],isGenerator:=ae,isCoroutine:=ae,more:=[]},⟨0,0,0,0⟩⟩
def dl:DefRec:=Y2 (sa 156)
theorem SQ:defOf q jt.row.name=U (dl,[]):=by kernel_rfl
theorem Xp:jt.row.prog.theDef jt.row.name=U (dl.params,dl.body,dl.scope):=by kernel_rfl
theorem YK:kwWritten? dl.params.kwonlyargs dl.params.kw_defaults=U []:=by kernel_rfl
theorem ax6:(chainsOk q&&opensWell jt.row.prog&&(frees jt.row.toRowW&&jt.row.within.isEmpty))=aa:=by kernel_rfl
section
open TablesWhole
theorem rO{t a j} n: ∀l,wSs TablesWhole.holds t a j (py n l)=aa->wSs TablesWhole.holds t a j (aR6 n l)=aa->wSs TablesWhole.holds t a j l=aa:=by
 induction n with
 |zero=>exact λl _ k=>k
 |succ n ih=>
  intro l h k
  cases l with
  |nil=>exact k
  |cons s r=>
   have h:(wS TablesWhole.holds t a j s&&wSs TablesWhole.holds t a j (py n r))=aa:=h
   have h:=fG.mp h
   show(wS TablesWhole.holds t a j s&&wSs TablesWhole.holds t a j r)=aa
   rw[h.1,ih r h.2 k]
   rfl
abbrev wY:TablesWhole.Ctx:=⟨pw.main.scope,[],[],[],Y⟩
def jy(k:Nat):List cj:=AL pw.main.body (λ_ l=>l.drop 20) k
abbrev Wp(l:List cj):Prop:=aR7 TablesWhole.holds pw.main.scope wY pw.main.scope l=aa
theorem ab3:aR7 Fast.tw12652042256554560961 pw.main.scope wY pw.main.scope pw.main.body=[]:=by kernel_rfl
theorem wp0:Wp<|py 20<|jy 0:=by kernel_rfl
theorem wp1:Wp<|py 20<|jy 1:=by kernel_rfl
theorem Tc:Wp<|py 20<|jy 2:=by kernel_rfl
theorem Wz:Wp<|py 20<|jy 3:=by kernel_rfl
theorem wp4:Wp<|py 20<|jy 4:=by kernel_rfl
theorem wp5:Wp<|py 20<|jy 5:=by kernel_rfl
theorem wp6:Wp<|py 20<|jy 6:=by kernel_rfl
theorem wp7:Wp<|jy 7:=by kernel_rfl
theorem qB{l}(h:Wp l):wSs TablesWhole.holds pw.main.scope wY pw.main.scope l=aa:=by
 unfold Wp at h
 rw[<-aR8] at h
 exact h
theorem aG6:wSs TablesWhole.holds pw.main.scope wY pw.main.scope pw.main.body=aa:=rO 20 (jy 0) (qB wp0) (rO 20 (jy 1) (qB wp1)<|rO 20 (jy 2) (qB Tc)<|rO 20 (jy 3) (qB Wz)<|rO 20 (jy 4) (qB wp4)<|rO 20 (jy 5) (qB wp5)<|rO 20 (jy 6) (qB wp6)<|qB wp7)
theorem av3:wModule TablesWhole.holds pw.main=aa:=by
 have t:=ab3
 rw[<-aR8,<-Fast.te12652042256554560961] at t
 show TablesWhole.holds.all [_,_,wSs TablesWhole.holds pw.main.scope ⟨pw.main.scope,[],wSs gather pw.main.scope wY pw.main.scope pw.main.body,[],Y⟩ pw.main.scope pw.main.body]=aa
 rw[t,aG6]
 kernel_rfl
theorem VI{p:pv}(a:p.modules=[])(b:p.parses=[])(c:p.harvested=[])(h:wModule TablesWhole.holds p.main=aa):p.tablesWhole=aa:=by
 show TablesWhole.holds.all [_,_,_,_]=aa
 rw[h,a,b,c]
 rfl
end
theorem Tn:jt.row.prog.bare:=⟨rfl,rfl,rfl,rfl,rfl,VI rfl rfl rfl av3⟩
theorem au8:jt.row.toRowW.promised:=by w_witness2
theorem au(i:jt.row.wellSaid=aa)
  (call:WalkO q loose (λ_ _=>True) YP jt.row.toRowW dl [] λf vs=>PySem.call f vs):jt.row.Holds:=by
 refine W.holds_open (q:=q) (loose:=loose) (Xt:=Xt) (XP:=λ_ _=>True) (Yf:=λs=>s.heap) (Ya:=λw=>H1 w.params) (YP:=YP) (N:=30000) left ?_ ?_ (λ_ _=>trivial) (λ_ _ _ _ _=>trivial) SQ Xp YK (λ_ _=>recFacts_nil rfl) rfl i ax6 Tn au8 call
 ·intro w s e a o h;rw[e];exact h
 ·intro w h h' y k a o e;exact k _ _ (y _ _ e)
end Hd
namespace c6
set_option maxHeartbeats 0
open PySem PySem.W
noncomputable abbrev Jm:=GC
abbrev bq:Str->Bool:=Fast.tw13343964577679436407 (aR9 Jm).prog (aR9 Jm).prog.main.body
theorem Zi:bq {cps:={toList:=[118,97,114,115]}}=ae:=by kernel_rfl
theorem Xc:bq {cps:={toList:=[100,105,114]}}=ae:=by kernel_rfl
theorem bq3:bq {cps:={toList:=[108,111,99,97,108,115]}}=ae:=by kernel_rfl
theorem Yr{α:Type}{p:α->Bool}{a b c:α}(x:p a=ae)(y:p b=ae)(z:p c=ae):R.filterR p [a,b,c]=[]:=by
 unfold R.filterR
 simp only[x,y,z]
theorem Zk:R.filterR bq [{cps:={toList:=[118,97,114,115]}},{cps:={toList:=[100,105,114]}},{cps:={toList:=[108,111,99,97,108,115]}}]=[]:=Yr Zi Xc bq3
theorem w2:GC.wellSaid=aa:=by
 rw[Fast.te9446332074065402090]
 unfold Fast.tw9446332074065402090
 repeat' (with_reducible refine look_both ?_ ?_)
 all_goals try(unfold Fast.tw17960256430627541270 Fast.tw2436336058641802641 Fast.tw12908688711261696721)
 all_goals repeat' (with_reducible refine look_both ?_ ?_)
 all_goals try rw[Zk]
 all_goals decide+kernel
end c6
namespace c6
open PySem
theorem tI:True:=trivial
theorem gI{α:Type u}{a:α}{C:Prop}(h:U a=Y):C:=nomatch h
theorem bR{α:Type u}{a:α}{C:Prop}(h:Y=U a):C:=nomatch h
theorem dB{α:Type u}{a:α}{C:Prop}(h:a∈[]):C:=nomatch h
theorem fE{C:Prop}(h:ae=aa):C:=nomatch h
theorem j4{C:Prop}(h:aa=ae):C:=nomatch h
theorem Ah{α:Type u}{a:α}{l:List α}{C:Prop}(h:a::l=[]):C:=nomatch h
@[elab_as_elim] theorem iK{α:Type u}{P:α->Prop}{a b:α}(e:U a=U b)(k:P a):P b:=bL e▸k
@[elab_as_elim] theorem BX{α:Type u}{β:Type v}{P:α->β->Prop}{a c:α}{b d:β}(e:(a,b)=(c,d))(k:P a b):P c d:=(c8 e).1▸(c8 e).2▸k
@[elab_as_elim] theorem aH3{α:Type u}{β:Type v}{P:α->β->Prop}{a c:α}{b d:β}(e:U (a,b)=U (c,d))(k:P a b):P c d:=BX (bL e) k
theorem Ac{α:Type u}{β:Type v}{f:α->β}{b:Bool}{x y:α}:f (cond b x y)=cond b (f x) (f y):=by
 cases b <;>rfl
theorem MG{α:Type u}{o:Option α}{k:α->Prop}{X:Prop}(h:o.elim False k)(z: ∀a,o=U a->k a->X):X:=by
 cases o
 ·exact h.elim
 ·exact z _ rfl h
def Tb:Bool->Prop:=Bool.rec False True
theorem dd{p:Prop} [Decidable p] (h:Tb<|decide p:=by constructor):p:=if c:p then c else by
 rw[decide_eq_false c] at h
 exact h.elim
set_option genCtorIdx true in
inductive V where
 |none
 |bool (b:Bool)
 |int (i:Int)
 |str (s:Str)
 |a8 (l:List Int)
 |aj (l:List V)
 |fl (l:List V)
 |fz (a:ai) (c:Nat) (fs:List<|Nat×V)
 |fd (es:List<|Int×V)
 |ref (a:ai)
set_option genCtorIdx true in
inductive O where
 |list (l:List V)
 |dict (es:List<|Int×V)
 |aK (c:Nat) (fs:List<|Nat×V)
abbrev H:=ai->Option O
abbrev L:=List (Option V)
noncomputable def H.cr(h:H)(a:ai)(o:O):H:=λx=>if x=a then U o else h x
noncomputable def H.lu(h:H)(a:ai):H:=λx=>if x=a then .none else h x
def H.le(h k:H):Prop:= ∀a o,h a=U o->k a=U o
noncomputable def bc{α:Type}:List (Nat×α)->Nat->Option α
 |[],_=> .none
 |(k,v)::r,n=>cond (bF k n) (U v) (bc r n)
noncomputable def iB{α:Type}:List (Nat×α)->Nat->α->List (Nat×α)
 |[],n,v=>[(n,v)]
 |(k,w)::r,n,v=>cond (bF k n) ((k,v)::r) ((k,w)::iB r n v)
noncomputable def bw:List (Int×V)->Int->Option V
 |[],_=> .none
 |(k,v)::r,n=>if k=n then U v else bw r n
noncomputable def eX:List (Int×V)->Int->V->List (Int×V)
 |[],n,v=>[(n,v)]
 |(k,w)::r,n,v=>if k=n then(k,v)::r else(k,w)::eX r n v
noncomputable def ah{α:Type}:List α->Nat->Option α
 |[],_=> .none
 |x::_,0=>U x
 |_::r,n+1=>ah r n
noncomputable def gj(ρ:L)(i:Nat)(K:V->Prop):Prop:=match ah ρ i with
 |U (U v)=>K v
 |_=>False
noncomputable def cY:L->Nat->V->L
 |[],_,_=>[]
 |_::r,0,v=>U v::r
 |x::r,n+1,v=>x::cY r n v
set_option genCtorIdx true in
inductive jM where|add|ro|sub|mul|nK|mN|o0|wt
set_option genCtorIdx true in
inductive mX where|eq|ne|lt|le|gt|ge|is|ml|oV|sC
set_option genCtorIdx true in
inductive Ty where|int|bool|tuple|str|bytes
inductive Bi where|len|abs|max|min|sum|pd|tuple|list (fr:Bool)|dict (fr:Bool)|bytes|sorted|range|kz|gh (t:Ty)
mutual
inductive E where
 |c (v:V)
 |x (i:Nat)
 |g (k:Nat)
 |dT (o:jM) (a b:E)
 |neg (a:E)
 |nt (a:E)
 |an (a b:E)
 |or (a b:E)
 |eY (o:mX) (a b:E)
 |iN (o p:mX) (a b d:E)
 |ite (t a b:E)
 |tu (es:Es)
 |li (fr:Bool) (es:Es)
 |di (fr:Bool) (ks vs:Es)
 |at(a:E) (f:Nat)
 |ix (a i:E)
 |sl (a l u:E)
 |iz (a:E)
 |call (f:Nat) (es:Es)
 |new (k:Nat) (es:Es)
 |me (a:E) (m:Nat) (es:Es)
 |bi (b:Bi) (es:Es)
 |comp (fr:Bool) (iF:List Nat) (it cond elt:E)
 |gu (a:E)
inductive Es where
 |nil
 |cons (e:E) (r:Es)
end
mutual
inductive Tg where
 |x (i:Nat)
 |at(o:E) (f:Nat)
 |ix (o i:E)
 |aj (ts:ig)
inductive ig where
 |nil
 |cons (t:Tg) (r:ig)
end
mutual
inductive S where
 |expr (e:E)
 |af (t:Tg) (e:E)
 |Al (i:Nat) (o:jM) (e:E)
 |z5 (a:E) (f:Nat) (o:jM) (e:E)
 |zU (a i:E) (o:jM) (e:E)
 |ite (t:E) (a b:Ss)
 |while (t:E) (b:Ss)
 |for (t:Tg) (it:E) (b:Ss)
 |ret (e:E)
 |bu
 |cont
 |M9
 |tr (b:Ss)
 |wP (i f:Nat)
 |yH (i:Nat)
inductive Ss where
 |nil
 |cons (s:S) (r:Ss)
end
inductive Fl where|next|brk|cont|ret (v:V)
structure Fn where
 np:Nat
 gU:List V
 nl:Nat
 body:Ss
structure lR where
 gF:Nat->Option V
 vH:Nat->Nat->Option V
 nq:Nat->Nat->Option Nat
 mf:Nat->Nat
 nG:Nat->Nat->Bool
 kT:Nat->Option Nat
 fn:Nat->Option Fn
noncomputable def fT:Nat->V->Bool
 |0,_=>ae
 |n+1,v=>match v with
  |.none=>aa
  |.int _=>aa
  |.str _=>aa
  |.a8 _=>aa
  |.aj l=>l.all (fT n)
  |.fl l=>l.all (fT n)
  |_=>ae
noncomputable def sh:V->Bool
 |.none=>aa
 |_=>ae
noncomputable abbrev vi(l:List Int):List V:=l.map V.int
inductive cy (h:H) (J:Prop->Prop):mX->V->V->Prop
 |Mk {i j:Int}:J (i=j)->cy h J .eq (.int i) (.int j)
 |zE {i j:Int}:J (¬i=j)->cy h J .ne (.int i) (.int j)
 |J1 {i j:Bool}:J (¬i=j)->cy h J .ne (.bool i) (.bool j)
 |L5 {i j:Int}:J (i <j)->cy h J .lt (.int i) (.int j)
 |DO {i j:Int}:J (i<=j)->cy h J .le (.int i) (.int j)
 |qe {i j:Int}:J (j <i)->cy h J .gt (.int i) (.int j)
 |Zp {i j:Int}:J (j<=i)->cy h J .ge (.int i) (.int j)
 |an1 {s t:Str}:J (s=t)->cy h J .eq (.str s) (.str t)
 |Yx {i:Int}:J False->cy h J .eq .none (.int i)
 |ae9 {l:List V}:J (l=[])->cy h J .eq (.fl l) (.fl [])
 |aQ3 {l:List V}:J (¬l=[])->cy h J .ne (.fl l) (.fl [])
 |ak2 {a:ai} {l:List V}:h a=U (.list l)->J (l=[])->cy h J .eq (.ref a) (.fl [])
 |JN {l:List V}:l.all (fT 7)=aa->J False->cy h J .ne (.aj l) (.aj l)
 |JO {l:List V}:l.all (fT 7)=aa->J False->cy h J .ne (.fl l) (.fl l)
 |ar8:J True->cy h J .is .none .none
 |SW {v:V}:sh v=ae->J False->cy h J .is v .none
 |Qm:J False->cy h J .ml .none .none
 |Jo {v:V}:sh v=ae->J True->cy h J .ml v .none
 |at3 {a b c d:Nat} {fs gs:List<|Nat×V}:J (¬a=b)->cy h J .ml (.fz a c fs) (.fz b d gs)
 |ak5 {es:List<|Int×V} {i:Int}:J ((bw es i).isSome=aa)->cy h J .oV (.int i) (.fd es)
 |ab0 {a:ai} {es:List<|Int×V} {i:Int}:h a=U (.dict es)->J ((bw es i).isSome=aa)->cy h J .oV (.int i) (.ref a)
 |Um {es:List<|Int×V} {i:Int}:J (¬(bw es i).isSome=aa)->cy h J .sC (.int i) (.fd es)
 |Vl {a:ai} {es:List<|Int×V} {i:Int}:h a=U (.dict es)->J (¬(bw es i).isSome=aa)->cy h J .sC (.int i) (.ref a)
 |Po {l:List Int} {i:Int}:J (i∈l)->cy h J .oV (.int i) (.fl<|vi l)
 |ak7 {l:List Int} {i:Int}:J (i∈l)->cy h J .oV (.int i) (.aj<|vi l)
 |ao0 {l:List Int} {i:Int}:J (¬i∈l)->cy h J .sC (.int i) (.aj<|vi l)
def a_(n:Nat):Prop:=n<=1000000
def sR(a:Int):Prop:= -9223372036854775808<=a/\a<=9223372036854775808
inductive gY (h:H) (Q:V->H->Prop):jM->V->V->Prop
 |jg {i j:Int}:Q (.int<|i+j) h->gY h Q .add (.int i) (.int j)
 |vF {i j:Int}:Q (.int<|i -j) h->gY h Q .sub (.int i) (.int j)
 |z_ {i j:Int}:sR i->Q (.int<|i*j) h->gY h Q .mul (.int i) (.int j)
 |Sy {i j:Int}:0 <j->j <1073741824->Q (.int<|i/j) h->gY h Q .nK (.int i) (.int j)
 |Mw {i j:Int}:0 <j->Q (.int<|i% j) h->gY h Q .mN (.int i) (.int j)
 |aF3 {i j:Int}:sR i->0<=j->j<=100->Q (.int<|i^j.toNat) h->gY h Q .o0 (.int i) (.int j)
 |Y8 {i j:Int}:0<=j->Q (.int<|i/2^j.toNat) h->gY h Q .wt (.int i) (.int j)
 |MZ {a b:List V}:a_ (a++b).length->Q (.aj<|a++b) h->gY h Q .add (.aj a) (.aj b)
 |vN {a b:List V}:a_ (a++b).length->Q (.fl<|a++b) h->gY h Q .add (.fl a) (.fl b)
 |Yz {x:ai} {a b:List V}:h x=U (.list a)->a_ (a++b).length->Q (.fl<|a++b) h->gY h Q .add (.ref x) (.fl b)
 |UF {a b:List V}:a_ (a++b).length->(∀x,h x=Y->Q (.ref x) (h.cr x<|.list<|a++b))->gY h Q .ro (.fl a) (.fl b)
inductive lT (h:H) (Q:V->H->Prop):jM->V->V->Prop
 |aL2 {i j:Int}:Q (.int<|i+j) h->lT h Q .add (.int i) (.int j)
inductive gi (h:H) (Q:V->H->Prop):V->V->Prop
 |nh {l:List V} {i:Int} {v:V}:0<=i->i<=4611686018427387904->ah l i.toNat=U v->Q v h->gi h Q (.aj l) (.int i)
 |HF {l:List V} {i:Int} {v:V}:0<=i->i<=4611686018427387904->ah l i.toNat=U v->Q v h->gi h Q (.fl l) (.int i)
 |E_ {l:List Int} {i:Int} {v:V}:0<=i->i<=4611686018427387904->ah (vi l) i.toNat=U v->Q v h->gi h Q (.a8 l) (.int i)
 |om {a:ai} {l:List V} {i:Int} {v:V}:h a=U (.list l)->0<=i->i<=4611686018427387904->ah l i.toNat=U v->Q v h->gi h Q (.ref a) (.int i)
 |Ir {l:List V} {v:V}:Q v h->gi h Q (.fl<|l++[v]) (.int (-1))
 |FY {a:ai} {l:List V} {v:V}:h a=U (.list<|l++[v])->Q v h->gi h Q (.ref a) (.int (-1))
 |WK {es:List<|Int×V} {i:Int} {v:V}:bw es i=U v->Q v h->gi h Q (.fd es) (.int i)
 |QH {a:ai} {es:List<|Int×V} {i:Int} {v:V}:h a=U (.dict es)->bw es i=U v->Q v h->gi h Q (.ref a) (.int i)
noncomputable def cB{α:Type}(l:List α)(a b:Nat):List α:=(l.take b).drop a
inductive jp (h:H) (Q:V->H->Prop):V->V->V->Prop
 |Qd {l:List Int} {i j:Int}:a_ l.length->0<=i->0<=j->Q (.a8<|cB l (min i.toNat l.length)<|min j.toNat l.length) h->jp h Q (.a8 l) (.int i) (.int j)
 |Q1 {l:List V} {i:Int}:a_ l.length->0<=i->Q (.fl<|cB l (min i.toNat l.length) l.length) h->jp h Q (.fl l) (.int i) .none
 |aE0 {l:List V} {j:Int}:a_ l.length->0<=j->Q (.fl<|cB l 0<|min j.toNat l.length) h->jp h Q (.fl l) .none (.int j)
 |av6 {l:List V} {i j:Int}:a_ l.length->0<=i->0<=j->Q (.fl<|cB l (min i.toNat l.length)<|min j.toNat l.length) h->jp h Q (.fl l) (.int i) (.int j)
 |HV {a:ai} {l:List V} {i:Int}:h a=U (.list l)->a_ l.length->0<=i->Q (.fl<|cB l (min i.toNat l.length) l.length) h->jp h Q (.ref a) (.int i) .none
 |aw6 {l:List Int} {i:Int}:a_ l.length->0<=i->Q (.a8<|cB l (min i.toNat l.length) l.length) h->jp h Q (.a8 l) (.int i) .none
 |ai0 {l:List V} {j:Int}:a_ l.length->0<=j->j <l.length->Q (.aj<|l.take j.toNat) h->jp h Q (.aj l) .none (.int j)
inductive oy (h:H) (Q:V->H->Prop):V->Prop
 |aD2 {l:List V}:a_ l.length->Q (.fl l.reverse) h->oy h Q (.fl l)
 |aD5 {a:ai} {l:List V}:h a=U (.list l)->a_ l.length->Q (.fl l.reverse) h->oy h Q (.ref a)
noncomputable def j5(fr:Bool)(l:List V)(h:H)(Q:V->H->Prop):Prop:=match fr with
 |aa=>Q (.fl l) h
 |ae=> ∀a,h a=Y->Q (.ref a) (h.cr a<|.list l)
def ww(fr:Bool)(es:List<|Int×V)(h:H)(Q:V->H->Prop):Prop:=match fr with
 |aa=>Q (.fd es) h
 |ae=> ∀a,h a=Y->Q (.ref a) (h.cr a<|.dict es)
inductive nU (h:H) (Q:V->H->Prop):ai->Prop
 |f_l {a:ai} {l:List V}:h a=U (.list l)->Q (.fl l) (h.lu a)->nU h Q a
 |f_d {a:ai} {es:List (Int×V)}:h a=U (.dict es)->Q (.fd es) (h.lu a)->nU h Q a
 |VB {a:ai} {c:Nat} {fs:List (Nat×V)}:h a=U (.aK c fs)->Q (.fz a c fs) (h.lu a)->nU h Q a
noncomputable def pQ:List V->H->(List V->H->Prop)->Prop
 |[],h,K=>K [] h
 |v::r,h,K=>match v with
  |.ref a=>nU h (λv h=>pQ r h λvs h=>K (v::vs) h) a
  |v=>pQ r h λvs h=>K (v::vs) h
inductive qx (h:H) (Q:V->H->Prop):V->Prop
 |aA2 {a:ai}:nU h Q a->qx h Q (.ref a)
 |ae2 {l:List V}:pQ l h (λvs h=>Q (.aj vs) h)->qx h Q (.aj l)
inductive CI (h:H) (f:Nat) (K:H->Prop):V->Prop
 |mk {a b:ai} {c:Nat} {fs:List (Nat×V)}:h a=U (.aK c fs)->bc fs f=U (.ref b)->nU h (λw h=>h a=U (.aK c fs)/\K (h.cr a (.aK c (iB fs f w)))) b->CI h f K (.ref a)
inductive Dg (h:H) (K:V->H->Prop):V->Prop
 |mk {a:ai}:nU h K a->Dg h K (.ref a)
noncomputable def BY:List V->List V->List (Int×V)->(List (Int×V)->Prop)->Prop
 |.int k::ks,v::vs,es,K=>BY ks vs (eX es k v) K
 |[],[],es,K=>K es
 |_,_,_,_=>False
inductive kj (T:lR) (h:H) (Q:V->H->Prop):V->Nat->Prop
 |iG {a:ai} {c f:Nat} {fs:List<|Nat×V} {v:V}:bc fs f=U v->Q v h->kj T h Q (.fz a c fs) f
 |eQ {a:ai} {c f:Nat} {fs:List<|Nat×V} {v:V}:h a=U (.aK c fs)->bc fs f=U v->Q v h->kj T h Q (.ref a) f
 |zj {a:ai} {c f:Nat} {fs:List<|Nat×V} {v:V}:bc fs f=Y->T.vH c f=U v->Q v h->kj T h Q (.fz a c fs) f
abbrev cZ:=Nat->List V->H->(V->H->Prop)->Prop
noncomputable abbrev U1:Nat:=0
noncomputable abbrev ZY:Nat:=1
noncomputable abbrev zD:Nat:=2
noncomputable abbrev Fq:Nat:=3
noncomputable abbrev xZ:Nat:=4
inductive nI (h:H) (Q:V->H->Prop) (a:ai):Nat->List V->Prop
 |wn {l:List V} {v:V}:h a=U (.list l)->a_ (l.length+1)->Q .none (h.cr a<|.list<|l++[v])->nI h Q a U1 [v]
 |Cd {l:List V} {v:V}:h a=U (.list<|l++[v])->a_ l.length->Q v (h.cr a<|.list l)->nI h Q a ZY []
 |aG9 {l k:List V}:h a=U (.list l)->a_ (l++k).length->Q .none (h.cr a<|.list<|l++k)->nI h Q a zD [.fl k]
 |To {b:ai} {l k:List V}:h a=U (.list l)->b≠a->h b=U (.list k)->a_ (l++k).length->Q .none (h.cr a (.list (l++k)))->nI h Q a zD [.ref b]
inductive ow (h:H) (Q:V->H->Prop) (es:List (Int×V)):List V->Prop
 |LV {i:Int}:Q ((bw es i).getD .none) h->ow h Q es [.int i]
 |QM {i:Int} {d:V}:Q ((bw es i).getD d) h->ow h Q es [.int i,d]
noncomputable def ez(a s:Int):Nat->List V
 |0=>[]
 |n+1=> .int a::ez (a+s) s n
noncomputable def sp(a b s:Int):Nat:=(if s>0 then(if a <b then(b -a -1)/s+1 else 0) else(if a>b then(a -b -1)/(-s)+1 else 0)).toNat
def ip(a:Int):Prop:= -1099511627776<=a/\a<=1099511627776
noncomputable def lW(n:Int):List V->List V
 |[]=>[]
 |v::r=> .aj [.int n,v]::lW (n+1) r
abbrev It:=List V->(H->Prop)->H->Prop
def bP:H->Prop:=λ_=>True
inductive hQ (h:H) (K:It):V->Prop
 |ug {l:List V}:K l bP h->hQ h K (.aj l)
 |fN {l:List V}:K l bP h->hQ h K (.fl l)
 |KS {l:List Int}:K (vi l) bP h->hQ h K (.a8 l)
 |zX {s:Str}:K (s.cps.toList.map λc=>V.str ⟨#[c]⟩) bP h->hQ h K (.str s)
 |aI3 {es:List<|Int×V}:a_ es.length->K (es.map λe=>V.int e.1) bP h->hQ h K (.fd es)
 |LB {a:ai} {l:List V}:h a=U (.list l)->K l (λh=>h a=U (.list l)) h->hQ h K (.ref a)
inductive j3 (h:H) (K:It):List V->Prop
 |lN {b:Int}:ip b->K (ez 0 1 b.toNat) bP h->j3 h K [.int b]
 |ae8 {a b:Int}:ip a->ip b->K (ez a 1 (b -a).toNat) bP h->j3 h K [.int a,.int b]
 |FF {a b s:Int}:ip a->ip b-> -1000<=s/\s<=1000->s≠0->K (ez a s (sp a b s)) bP h->j3 h K [.int a,.int b,.int s]
inductive lq (h:H) (K:It):List V->Prop
 |Eu {l:List V}:K (lW 0 l) bP h->lq h K [.fl l]
 |YZ {l:List V} {n:Int}:ip n->K (lW n l) bP h->lq h K [.fl l,.int n]
inductive tN (h:H) (K:It):V->Prop
 |Y6 {es:List (Int×V)}:a_ es.length->K (es.map λe=>V.aj [.int e.1,e.2]) bP h->tN h K (.fd es)
noncomputable def dM(a:Int):List Int->Int
 |[]=>a
 |b::r=>dM (if a <b then b else a) r
noncomputable def z8(a:Int):List Int->Int
 |[]=>a
 |b::r=>z8 (if b <a then b else a) r
def eg(l:List Int):Prop:= ∀i∈l,0<=i/\i<=255
inductive cn (h:H) (Q:V->H->Prop):Bi->List V->Prop
 |zN {l:List V}:a_ l.length->Q (.int l.length) h->cn h Q .len [.fl l]
 |aQ8 {l:List V}:a_ l.length->Q (.int l.length) h->cn h Q .len [.aj l]
 |ak3 {l:List Int}:a_ l.length->Q (.int l.length) h->cn h Q .len [.a8 l]
 |aP9 {l:Str}:a_ l.length->Q (.int l.length) h->cn h Q .len [.str l]
 |af4 {l:List<|Int×V}:a_ l.length->Q (.int l.length) h->cn h Q .len [.fd l]
 |vY {a:ai} {l:List V}:h a=U (.list l)->a_ l.length->Q (.int l.length) h->cn h Q .len [.ref a]
 |aR0 {a:ai} {l:List<|Int×V}:h a=U (.dict l)->a_ l.length->Q (.int l.length) h->cn h Q .len [.ref a]
 |Jj {i:Int}:Q (.int i.natAbs) h->cn h Q .abs [.int i]
 |aP5 {i j:Int}:Q (.int<|dM i [j]) h->cn h Q .max [.int i,.int j]
 |aL3 {i j m n:Int}:Q (.int<|dM i [j,m,n]) h->cn h Q .max [.int i,.int j,.int m,.int n]
 |aE5 {i:Int} {l:List Int}:Q (.int<|dM i l) h->cn h Q .max [.fl<|vi<|i::l]
 |Nw {i:Int} {l:List Int}:Q (.int<|z8 i l) h->cn h Q .min [.aj<|vi<|i::l]
 |FW {l:List Int}:Q (.int l.sum) h->cn h Q .sum [.fl<|vi l]
 |vU {c:Nat}:Q (.int c) h->cn h Q .pd [.str ⟨#[c]⟩]
 |aA1 {l:List V}:a_ l.length->Q (.aj l) h->cn h Q .tuple [.aj l]
 |ar1 {l:List V}:a_ l.length->Q (.aj l) h->cn h Q .tuple [.fl l]
 |I6 {l:List Int}:a_ l.length->Q (.aj<|vi l) h->cn h Q .tuple [.a8 l]
 |aj6 {a:ai} {l:List V}:h a=U (.list l)->a_ l.length->Q (.aj l) h->cn h Q .tuple [.ref a]
 |aE8 {l:List V}:a_ l.length->Q (.fl l) h->cn h Q (.list aa) [.fl l]
 |Tq {l:List Int}:a_ l.length->Q (.fl<|vi l) h->cn h Q (.list aa) [.a8 l]
 |ac8 {a:ai} {l:List V}:h a=U (.list l)->a_ l.length->(∀x,h x=Y->Q (.ref x) (h.cr x<|.list l))->cn h Q (.list ae) [.ref a]
 |ao5 {l:List<|Int×V}:a_ l.length->Q (.fd l) h->cn h Q (.dict aa) [.fd l]
 |ZP {a:ai} {l:List<|Int×V}:h a=U (.dict l)->a_ l.length->(∀x,h x=Y->Q (.ref x) (h.cr x<|.dict l))->cn h Q (.dict ae) [.ref a]
 |Ua {l:List Int}:eg l->a_ l.length->Q (.a8 l) h->cn h Q .bytes [.fl<|vi l]
 |ah7 {a:ai} {l:List Int}:h a=U (.list<|vi l)->eg l->a_ l.length->Q (.a8 l) h->cn h Q .bytes [.ref a]
 |aP0 {a:ai} {es:List<|Int×V}:h a=U (.dict es)->es.length <64->(∀l:List Int,l.Perm (es.map (·.1))->l.Pairwise (· <= ·)->Q (.fl<|vi l) h)->cn h Q .sorted [.ref a]
 |MB {i:Int}:Q (.bool aa) h->cn h Q (.gh .int) [.int i]
 |OO {i:Int}:Q (.bool ae) h->cn h Q (.gh .bool) [.int i]
 |aD8 {l:List V}:Q (.bool aa) h->cn h Q (.gh .tuple) [.aj l]
 |ar5 {s:Str}:Q (.bool aa) h->cn h Q (.gh .str) [.str s]
 |VO {l:List Int}:Q (.bool aa) h->cn h Q (.gh .bytes) [.a8 l]
noncomputable def du(B:V->L->H->(Fl->L->H->Prop)->Prop)(g:H->Prop):List V->L->H->(Fl->L->H->Prop)->Prop
 |[],ρ,h,Q=>g h/\Q .next ρ h
 |v::r,ρ,h,Q=>g h/\B v ρ h λf ρ h=>match f with
  |.next=> ∃h',H.le h' h/\du B g r ρ h' Q
  |.cont=> ∃h',H.le h' h/\du B g r ρ h' Q
  |.brk=>Q .next ρ h
  |.ret v=>Q (.ret v) ρ h
noncomputable def hU(B:V->H->(Option V->H->Prop)->Prop)(g:H->Prop):List V->H->(List V->H->Prop)->Prop
 |[],h,K=>g h/\K [] h
 |v::r,h,K=>g h/\B v h λo h=>hU B g r h λws h=>match o with
  |U w=>K (w::ws) h
  |.none=>K ws h
noncomputable def iZ(t:L->H->(H->Prop)->(H->Prop)->Prop)(B:L->H->(Fl->L->H->Prop)->Prop):Nat->L->H->(Fl->L->H->Prop)->Prop
 |0,_,_,_=>False
 |n+1,ρ,h,Q=>t ρ h (λh=>B ρ h λf ρ h=>match f with
  |.next=> ∃h',H.le h' h/\iZ t B n ρ h' Q
  |.cont=> ∃h',H.le h' h/\iZ t B n ρ h' Q
  |.brk=>Q .next ρ h
  |.ret v=>Q (.ret v) ρ h) (λh=>Q .next ρ h)
structure Sm where
 v:H->(V->H->Prop)->Prop
 t:H->(H->Prop)->(H->Prop)->Prop
 i:H->It->Prop
inductive tv (h:H) (T F:H->Prop):V->Prop
 |DY {b:Bool}:(b=aa->T h)->(b=ae->F h)->tv h T F (.bool b)
inductive lB (A B:Prop):V->Prop
 |mk {b:Bool}:(b=aa->A)->(b=ae->B)->lB A B (.bool b)
inductive r7 (h:H) (Q:V->H->Prop):V->Prop
 |rT {i:Int}:Q (.int (-i)) h->r7 h Q (.int i)
inductive sO (h:H) (Q:V->H->Prop):V->Prop
 |KD {b:Bool}:Q (.bool (!b)) h->sO h Q (.bool b)
inductive rX (A:Prop):V->Prop
 |Pm:A->rX A .none
noncomputable def mk(v:H->(V->H->Prop)->Prop):Sm:=⟨v,λh T F=>v h λv h=>tv h T F v,λh K=>v h λv h=>hQ h K v⟩
open Classical in
noncomputable def fC(p:Prop):Bool:=decide p
noncomputable def iF(ρ:L):List Nat->(L->Prop)->Prop
 |[],K=>K []
 |i::r,K=>gj ρ i λv=>iF ρ r λl=>K (U v::l)
inductive lk (T:lR) (C:cZ) (h:H) (ve:H->(List V->H->Prop)->Prop) (Q:V->H->Prop):Nat->V->Prop
 |Vn {a:ai} {c m f:Nat} {fs:List<|Nat×V}:bc fs (T.mf m)=Y->T.nq c m=U f->ve h (λvs h=>C f (.fz a c fs::vs) h Q)->lk T C h ve Q m (.fz a c fs)
 |jA {a:ai} {c m f:Nat} {fs:List<|Nat×V}:h a=U (.aK c fs)->bc fs (T.mf m)=Y->T.nq c m=U f->ve h (λvs h=>C f (.ref a::vs) h Q)->lk T C h ve Q m (.ref a)
 |aj4 {es:List (Int×V)}:ve h (λvs h=>ow h Q es vs)->lk T C h ve Q Fq (.fd es)
 |aw3 {a:ai} {es:List (Int×V)}:h a=U (.dict es)->ve h (λvs h=> ∃es',h a=U (.dict es')/\ow h Q es' vs)->lk T C h ve Q Fq (.ref a)
 |qj {a:ai} {l:List V} {m:Nat}:h a=U (.list l)->eZ m zD=aa->ve h (λvs h=>nI h Q a m vs)->lk T C h ve Q m (.ref a)
mutual
noncomputable def ao(T:lR)(C:cZ):E->L->Sm
 |.c v,_=>mk λh Q=>Q v h
 |.x i,ρ=>mk λh Q=>gj ρ i λv=>Q v h
 |.g k,_=>mk λh Q=>(match T.gF k with|U v=>Q v h|.none=>False)
 |.dT o a b,ρ=>mk λh Q=>(ao T C a ρ).v h λj h=>(ao T C b ρ).v h λe h=>gY h Q o j e
 |.neg a,ρ=>mk λh Q=>(ao T C a ρ).v h λv h=>r7 h Q v
 |.nt a,ρ=>⟨λh Q=>(ao T C a ρ).v h λv h=>sO h Q v,λh c F=>(ao T C a ρ).t h F c,λ_ _=>False⟩
 |.an a b,ρ=>⟨λh Q=>(ao T C a ρ).v h λv h=>lB ((ao T C b ρ).v h Q) (Q (.bool ae) h) v,
   λh c F=>(ao T C a ρ).t h (λh=>(ao T C b ρ).t h c F) F,λ_ _=>False⟩
 |.or a b,ρ=>⟨λh Q=>(ao T C a ρ).v h λv h=>lB (Q (.bool aa) h) ((ao T C b ρ).v h Q) v,
   λh c F=>(ao T C a ρ).t h c λh=>(ao T C b ρ).t h c F,λ_ _=>False⟩
 |.eY o a b,ρ=>⟨λh Q=>(ao T C a ρ).v h λj h=>(ao T C b ρ).v h λe h=>cy h (λp=>Q (.bool<|fC p) h) o j e,
   λh c F=>(ao T C a ρ).v h λj h=>(ao T C b ρ).v h λe h=>cy h (λp=>(p->c h)/\(¬p->F h)) o j e,λ_ _=>False⟩
 |.iN o p a b d,ρ=>⟨λh Q=>(ao T C a ρ).v h λj h=>(ao T C b ρ).v h λe h=>cy h (λr=>(r->(ao T C d ρ).v h λq h=>cy h (λr=>Q (.bool<|fC r) h) p e q)/\(¬r->Q (.bool ae) h)) o j e,
   λh c F=>(ao T C a ρ).v h λj h=>(ao T C b ρ).v h λe h=>cy h (λr=>(r->(ao T C d ρ).v h λq h=>cy h (λr=>(r->c h)/\(¬r->F h)) p e q)/\(¬r->F h)) o j e,λ_ _=>False⟩
 |.ite t a b,ρ=>mk λh Q=>(ao T C t ρ).t h (λh=>(ao T C a ρ).v h Q) (λh=>(ao T C b ρ).v h Q)
 |.tu es,ρ=>mk λh Q=>cU T C es ρ h λvs h=>Q (.aj vs) h
 |.li fr es,ρ=>mk λh Q=>cU T C es ρ h λvs h=>j5 fr vs h Q
 |.di fr ks vs,ρ=>mk λh Q=>cU T C ks ρ h λkv h=>cU T C vs ρ h λvv h=>BY kv vv [] λes=>ww fr es h Q
 |.at a f,ρ=>mk λh Q=>(ao T C a ρ).v h λv h=>kj T h Q v f
 |.ix a i,ρ=>mk λh Q=>(ao T C a ρ).v h λv h=>(ao T C i ρ).v h λi h=>gi h Q v i
 |.sl a l u,ρ=>mk λh Q=>(ao T C a ρ).v h λv h=>(ao T C l ρ).v h λl h=>(ao T C u ρ).v h λu h=>jp h Q v l u
 |.iz a,ρ=>mk λh Q=>(ao T C a ρ).v h λv h=>oy h Q v
 |.call f es,ρ=>mk λh Q=>cU T C es ρ h λvs h=>C f vs h Q
 |.new k es,ρ=>mk λh Q=>cU T C es ρ h λvs h=>(match T.kT k with
   |U f=> ∀a,h a= .none->C f (.ref a::vs) (h.cr a<|.aK k []) λv h=>rX (Q (.ref a) h) v
   |.none=>False)
 |.me a m es,ρ=>⟨λh Q=>(ao T C a ρ).v h λv h=>lk T C h (cU T C es ρ) Q m v,λh c F=>(ao T C a ρ).v h λv h=>lk T C h (cU T C es ρ) (λv h=>tv h c F v) m v,
   λh K=>(ao T C a ρ).v h λv h=>(match bF m xZ with|aa=>tN h K v|ae=>False)⟩
 |.bi b es,ρ=>⟨λh Q=>cU T C es ρ h λvs h=>cn h Q b vs,
   λh c F=>cU T C es ρ h λvs h=>cn h (λv h=>tv h c F v) b vs,
   λh K=>cU T C es ρ h λvs h=>(match b with
    |.range=>j3 h K vs
    |.kz=>lq h K vs
    |b=>cn h (λv h=>hQ h K v) b vs)⟩
 |.comp fr cs it cond elt,ρ=>mk λh Q=>(ao T C it ρ).i h λxs g h=>a_ xs.length/\iF ρ cs λs=>
   hU (λv h K=>(ao T C cond<|U v::s).t h (λh=>(ao T C elt<|U v::s).v h λw h=>K (U w) h) λh=>K .none h) g xs h λws h=>j5 fr ws h Q
 |.gu a,ρ=>mk λh Q=>(ao T C a ρ).v h λv h=>qx h Q v
noncomputable def cU(T:lR)(C:cZ):Es->L->H->(List V->H->Prop)->Prop
 |.nil,_,h,K=>K [] h
 |.cons e r,ρ,h,K=>(ao T C e ρ).v h λv h=>cU T C r ρ h λvs h=>K (v::vs) h
end
inductive oI (T:lR) (h:H) (f:Nat) (w:V) (K:H->Prop):V->Prop
 |ab6 {a:ai} {c:Nat} {fs:List (Nat×V)}:h a=U (.aK c fs)->T.nG c f=aa->eZ fs.length 100=aa->K (h.cr a (.aK c (iB fs f w)))->oI T h f w K (.ref a)
noncomputable def ef{α:Type}:List α->Nat->α->List α
 |[],_,_=>[]
 |_::r,0,v=>v::r
 |x::r,n+1,v=>x::ef r n v
inductive nJ (h:H) (w:V) (K:H->Prop):V->V->Prop
 |Fu {a:ai} {l:List V} {i:Int}:h a=U (.list l)->0<=i->i <l.length->a_ l.length->K (h.cr a (.list (ef l i.toNat w)))->nJ h w K (.ref a) (.int i)
 |J7 {a:ai} {es:List (Int×V)} {i:Int}:h a=U (.dict es)->a_ es.length->K (h.cr a (.dict (eX es i w)))->nJ h w K (.ref a) (.int i)
noncomputable def oZ:ig->Nat
 |.nil=>0
 |.cons _ r=>oZ r+1
inductive js (h:H) (K:List V->Prop):V->Prop
 |B8 {l:List V}:K l->js h K (.aj l)
 |Nr {l:List V}:K l->js h K (.fl l)
 |UB {l:List Int}:K (vi l)->js h K (.a8 l)
 |L4 {a:ai} {l:List V}:h a=U (.list l)->K l->js h K (.ref a)
mutual
noncomputable def af(T:lR)(C:cZ):Tg->V->L->H->(L->H->Prop)->Prop
 |.x i,v,ρ,h,K=>K (cY ρ i v) h
 |.at o f,v,ρ,h,K=>(ao T C o ρ).v h λw h=>oI T h f v (λh=>K ρ h) w
 |.ix o i,v,ρ,h,K=>(ao T C o ρ).v h λw h=>(ao T C i ρ).v h λj h=>nJ h v (λh=>K ρ h) w j
 |.aj ts,v,ρ,h,K=>js h (λl=>match bF l.length (oZ ts) with
  |aa=>lO T C ts l ρ h K
  |ae=>False) v
noncomputable def lO(T:lR)(C:cZ):ig->List V->L->H->(L->H->Prop)->Prop
 |.nil,[],ρ,h,K=>K ρ h
 |.cons t r,v::vs,ρ,h,K=>af T C t v ρ h λρ h=>lO T C r vs ρ h K
 |_,_,_,_,_=>False
end
mutual
noncomputable def ex(T:lR)(C:cZ):S->L->H->(Fl->L->H->Prop)->Prop
 |.expr e,ρ,h,Q=>(ao T C e ρ).v h λ_ h=>Q .next ρ h
 |.af t e,ρ,h,Q=>(ao T C e ρ).v h λv h=>af T C t v ρ h λρ h=>Q .next ρ h
 |.Al i o e,ρ,h,Q=>gj ρ i λa=>(ao T C e ρ).v h λb h=>lT h (λv h=>Q .next (cY ρ i v) h) o a b
 |.z5 a f o e,ρ,h,Q=>(ao T C a ρ).v h λc h=>kj T h (λx h=>(ao T C e ρ).v h λb h=>lT h (λv h=>oI T h f v (λh=>Q .next ρ h) c) o x b) c f
 |.zU a i o e,ρ,h,Q=>(ao T C a ρ).v h λc h=>(ao T C i ρ).v h λvi h=>gi h (λx h=>(ao T C e ρ).v h λb h=>lT h (λv h=>nJ h v (λh=>Q .next ρ h) c vi) o x b) c vi
 |.ite t a b,ρ,h,Q=>(ao T C t ρ).t h (λh=>aZ T C a ρ h Q) (λh=>aZ T C b ρ h Q)
 |.while t b,ρ,h,Q=> ∃n,iZ (λρ h j F=>(ao T C t ρ).t h j F) (λρ h Q=>aZ T C b ρ h Q) n ρ h Q
 |.for t it b,ρ,h,Q=>(ao T C it ρ).i h λxs g h=>du (λv ρ h Q=>af T C t v ρ h λρ h=>aZ T C b ρ h Q) g xs ρ h Q
 |.ret e,ρ,h,Q=>(ao T C e ρ).v h λv h=>Q (.ret v) ρ h
 |.bu,_,_,_=>False
 |.cont,ρ,h,Q=>Q .cont ρ h
 |.M9,ρ,h,Q=>Q .next ρ h
 |.tr b,ρ,h,Q=>aZ T C b ρ h Q
 |.wP i f,ρ,h,Q=>gj ρ i λv=>CI h f (λh=>Q .next ρ h) v
 |.yH i,ρ,h,Q=>gj ρ i λv=>Dg h (λw h=>Q .next (cY ρ i w) h) v
noncomputable def aZ(T:lR)(C:cZ):Ss->L->H->(Fl->L->H->Prop)->Prop
 |.nil,ρ,h,Q=>Q .next ρ h
 |.cons s r,ρ,h,Q=>ex T C s ρ h λf ρ h=>match f with
  |.next=>aZ T C r ρ h Q
  |f=>Q f ρ h
end
def oT(f:Fn)(vs:List V):Option L:=
 if vs.length<=f.np/\f.np<=vs.length+f.gU.length then
  U ((vs++f.gU.drop (f.gU.length -(f.np -vs.length))).map U++gp (f.nl -f.np) .none)
 else .none
noncomputable def wu:Fl->V
 |.ret v=>v
 |_=> .none
noncomputable def al(T:lR):Nat->cZ
 |0,_,_,_,_=>False
 |d+1,f,vs,h,Q=>(T.fn f).elim False λfn=>(oT fn vs).elim False λρ=>aZ T (al T d) fn.body ρ h λfl _ h=> ∃h',H.le h' h/\Q (wu fl) h'
namespace P
noncomputable abbrev bb(o:jM)(a b:E):E:= .dT o a b
noncomputable abbrev cc(o:mX)(a b:E):E:= .eY o a b
noncomputable abbrev vx(n:Nat):E:= .x n
noncomputable abbrev vt(n:Nat):Tg:= .x n
noncomputable abbrev nE:Es:= .nil
noncomputable abbrev nT:ig:= .nil
noncomputable abbrev nS:Ss:= .nil
abbrev aJ(a b:E):=bb .add a b
abbrev HJ(a b:E):=bb .ro a b
abbrev hZ(a b:E):=bb .nK a b
abbrev ii(a b:E):=bb .mN a b
abbrev bZ(a b:E):=bb .mul a b
abbrev mW(a b:E):=bb .o0 a b
abbrev Bq(a b:E):=bb .wt a b
abbrev cM(a b:E):=bb .sub a b
abbrev aS(a b:E):=cc .eq a b
abbrev gV(a b:E):=cc .ge a b
abbrev dF(a b:E):=cc .gt a b
abbrev iX(a b:E):=cc .is a b
abbrev sN(a b:E):=cc .oV a b
abbrev kZ(a b:E):=cc .ml a b
abbrev Gh(a b:E):=cc .le a b
abbrev fK(a b:E):=cc .lt a b
abbrev ct(a b:E):=cc .ne a b
abbrev v5(a b:E):=cc .sC a b
noncomputable abbrev i(n:Int):E:= .c (.int n)
abbrev x0:=vx 0
abbrev x1:=vx 1
abbrev x2:=vx 2
abbrev x3:=vx 3
abbrev x4:=vx 4
abbrev x5:=vx 5
abbrev x6:=vx 6
abbrev x7:=vx 7
abbrev x8:=vx 8
abbrev x9:=vx 9
abbrev x10:=vx 10
abbrev cA:=vx 11
abbrev kL:=vx 12
abbrev pZ:=vx 13
abbrev lX:=vx 14
abbrev mJ:=vx 15
abbrev nQ:=vx 16
abbrev tT:=vx 17
abbrev yz:=vx 18
abbrev xJ:=vx 19
abbrev F0:=vx 20
abbrev mj:=vx 21
abbrev dZ:=vx 22
abbrev lA:=vx 23
abbrev x24:=vx 24
abbrev y1:=vt 1
abbrev y2:=vt 2
abbrev y3:=vt 3
abbrev y4:=vt 4
abbrev y5:=vt 5
abbrev y6:=vt 6
abbrev y7:=vt 7
abbrev y8:=vt 8
abbrev y9:=vt 9
abbrev kb:=vt 10
abbrev sH:=vt 11
abbrev zd:=vt 12
abbrev CQ:=vt 13
abbrev Em:=vt 14
abbrev Lz:=vt 15
abbrev LN:=vt 16
abbrev UW:=vt 17
abbrev ZR:=vt 18
abbrev XJ:=vt 19
abbrev y20:=vt 20
abbrev IE:=vt 21
abbrev y22:=vt 22
abbrev y23:=vt 23
abbrev UJ:=vt 24
noncomputable abbrev Il(a:E)(r:Es):Es:= .cons a r
abbrev Qz(b a:E)(r:Es):Es:= .cons b (Il a r)
abbrev O7(c a b:E)(r:Es):Es:= .cons c (Qz a b r)
abbrev LD(e a b c:E)(r:Es):Es:= .cons e (O7 a b c r)
abbrev PU(e a b c a4:E)(r:Es):Es:= .cons e (LD a b c a4 r)
abbrev wz(f b c a a4 e:E)(r:Es):Es:= .cons f (PU b c a a4 e r)
abbrev e1(a:E):=Il a nE
abbrev e2(b a:E):=Qz b a nE
abbrev e3(c a b:E):=O7 c a b nE
abbrev e4(e a b c:E):=LD e a b c nE
abbrev e5(e a b c a4:E):=PU e a b c a4 nE
abbrev e6(f b c a a4 e:E):=wz f b c a a4 e nE
noncomputable abbrev tc1(a:Tg)(r:ig):ig:= .cons a r
abbrev Od(b a:Tg)(r:ig):ig:= .cons b (tc1 a r)
abbrev Hs(c a b:Tg)(r:ig):ig:= .cons c (Od a b r)
abbrev Wi(e a b c:Tg)(r:ig):ig:= .cons e (Hs a b c r)
abbrev t2(b a:Tg):=Od b a nT
abbrev t3(c a b:Tg):=Hs c a b nT
abbrev t4(e a b c:Tg):=Wi e a b c nT
noncomputable abbrev kC(a:S)(r:Ss):Ss:= .cons a r
abbrev mz(b a:S)(r:Ss):Ss:= .cons b (kC a r)
abbrev uk(c a b:S)(r:Ss):Ss:= .cons c (mz a b r)
abbrev ur(e a b c:S)(r:Ss):Ss:= .cons e (uk a b c r)
abbrev yB(e a b c a4:S)(r:Ss):Ss:= .cons e (ur a b c a4 r)
abbrev d5(f b c a a4 e:S)(r:Ss):Ss:= .cons f (yB b c a a4 e r)
abbrev s1(a:S):=kC a nS
abbrev s2(b a:S):=mz b a nS
abbrev s3(c a b:S):=uk c a b nS
abbrev s4(e a b c:S):=ur e a b c nS
abbrev s5(e a b c a4:S):=yB e a b c a4 nS
abbrev s6(f b c a a4 e:S):=d5 f b c a a4 e nS
end P
section
open P
abbrev b0:Ss:=s1 (.ret<|.an (.bi (.gh .int)<|e1 x0)<|.an (.nt<|.bi (.gh .bool)<|e1 x0)<|.iN .le .le x1 x0 x2)
def f0:Fn:=⟨3,[],3,b0⟩
abbrev b1:Ss:=s2 (.ite (.or (.nt<|.bi (.gh .int)<|e1 x0)<|.bi (.gh .bool)<|e1 x0) (s1 .bu) .nil) (.ret x0)
def f1:Fn:=⟨1,[],1,b1⟩
abbrev b2:Ss:=s2 (.ite (.nt<|.iN .le .le (.neg<|.g 0) (.call 1<|e1 x0)<|.g 0) (s1 .bu) .nil) (.ret x0)
def f2:Fn:=⟨1,[],1,b2⟩
abbrev b3:Ss:=s2 (.ite (.nt<|.iN .le .le (.neg<|.g 1) (.call 1<|e1 x0)<|.g 1) (s1 .bu) .nil) (.ret x0)
def f3:Fn:=⟨1,[],1,b3⟩
abbrev b4:Ss:=s3 (.ite (Gh x1<|i 0) (s1 .bu) .nil) (.ite (fK x0<|i 0) (s1<|.ret<|.neg<|hZ (cM x1<|bZ (i 2) x0)<|bZ (i 2) x1) .nil) (.ret<|hZ (aJ (bZ (i 2) x0) x1)<|bZ (i 2) x1)
def f4:Fn:=⟨2,[],2,b4⟩
abbrev b5:Ss:=s3 (.af (.at x0 0)<|i 0) (.af (.at x0 1)<|.li aa<|e4 (i 0) (i 0) (i 0)<|i 0) (.af (.at x0 2)<|.li aa<|e4 (i 0) (i 0) (i 0)<|i 0)
def f5:Fn:=⟨1,[],1,b5⟩
abbrev b6:Ss:=s1 (.z5 x0 0 .add x1)
def f6:Fn:=⟨2,[],2,b6⟩
abbrev b7:Ss:=s1 (.ret<|.call 0<|e3 x0 (.neg<|.g 1)<|.g 1)
def f7:Fn:=⟨1,[],1,b7⟩
def f8:Fn:=⟨1,[],2,s1<|.for y1 x0<|s1<|.ite (.nt<|.call 7<|e1 x1) (s1 .bu) .nil⟩
def f9:Fn:=⟨2,[],6,s1<|.for (.aj<|t2 y2 y3) (.me x0 4 .nil)<|s5 (.ite (.or (.nt<|.call 0<|e3 x2 (i 0)<|i 255)<|.or (.nt<|.bi (.gh .tuple)<|e1 x3)<|ct (.bi .len<|e1 x3)<|i 6) (s1 .bu) .nil) (.expr<|.call 8<|e1<|.sl x3 (.c .none)<|i 4) (.af (.aj<|t2 y4 y5)<|.tu<|e2 (.ix x3<|i 4)<|.ix x3<|i 5) (.ite (.nt<|.call 0<|e3 x4 (.g 2)<|.g 3) (s1 .bu) .nil)<|.ite (aS x4<|.g 3) (s1<|.expr<|.call 111<|e2 x5 x0)<|s1<|.ite (.or (.nt<|.call 0<|e3 x5 (i 0)<|i 255)<|.an (aS x4<|.g 4)<|gV x5 x1) (s1 .bu) .nil⟩
def f10:Fn:=⟨1,[],4,s1<|.for y1 x0<|s2 (.af (.aj<|t2 y2 y3)<|.tu<|e2 x1<|i 0)<|.while (.an (sN x2 x0)<|aS (.ix (.ix x0 x2)<|i 4)<|.g 5)<|s3 (.af y2<|.ix (.ix x0 x2)<|i 5) (.af y3<|aJ x3<|i 1)<|.ite (dF x3<|.bi .len<|e1 x0) (s1 .bu) .nil⟩
abbrev B1:Ss:=d5 (.ite (.or (.nt<|.bi (.gh .tuple)<|e1 x6)<|ct (.bi .len<|e1 x6)<|i 4) (s1 .bu) .nil) (.for y7 x6<|s1<|.ite (.nt<|.call 0<|e3 x7 (i 0)<|i 255) (s1 .bu) .nil) (.af (.aj<|t4 y8 y9 kb sH) x6) (.ite (dF x8<|.g 6) (s2 (.ite (gV (aJ (bZ (i 256) x10) cA) x4) (s1 .bu) .nil) .cont) .nil) (.ite (.an (ct x9 x3)<|v5 x9 x2) (s1 .bu) .nil) (.ite (.or (.an (fK x10<|.g 7)<|v5 cA x2)<|.an (gV x10<|.g 7)<|gV (aJ (bZ (i 256)<|cM x10<|.g 7) cA)<|.bi .len<|e1 x1) (s1 .bu) .nil) (s1<|.ite (.an (fK x8<|.g 6)<|gV (aJ (aJ x5 x8)<|i 1) x4) (s1 .bu) .nil)
def QV:Fn:=⟨4,[],12,s2 (.af y4<|.bi .len<|e1 x0)<|.for (.aj<|t2 y5 y6) (.bi .kz<|e1 x0) B1⟩
def f12:Fn:=⟨1,[],5,s3 (.ite (aS (.bi .len<|e1 x0)<|i 0) (s1<|.ret<|.neg<|i 1) .nil) (.af (.aj<|t4 y1 y2 y3 y4)<|.ix x0<|.neg<|i 1)<|.ret<|.ite (aS x1<|.g 8) (aJ (bZ (i 256) x3) x4)<|.neg<|i 1⟩
def f13:Fn:=⟨9,[.aj [],.aj [],.int 256],9,d5 (.ite (.or (.nt<|.call 0<|e3 x1 (i 1)<|.g 9)<|.or (.nt<|.bi (.gh .str)<|e1 x2)<|.or (aS x2<|.c<|.str<|eG "")<|.nt<|.call 0<|e3 x3 (i 1)<|.g 10) (s1 .bu) .nil) (.ite (.or (.nt<|.call 0<|e3 x8 (i 0)<|.g 11)<|dF (.bi .len<|e1 x4)<|.g 12) (s1 .bu) .nil) (.expr<|.call 8<|e1 x4) (.expr<|.call 8<|e1 x7) (.expr<|.call 9<|e2 x5<|.bi .len<|e1 x6) (.expr<|.call 10<|e1 x5)<|d5 (.expr<|.call 11<|e4 x6 x7 x5 x8) (.af (.at x0 3) x1) (.af (.at x0 4) x2) (.af (.at x0 5) x3) (.af (.at x0 6) x3) (.af (.at x0 7)<|i 0)<|d5 (.af (.at x0 8)<|.bi (.list aa)<|e1 x4) (.af (.at x0 9)<|.bi (.dict aa)<|e1 x5) (.af (.at x0 10)<|.bi .tuple<|e1 x6) (.af (.at x0 11)<|.bi .tuple<|e1 x7) (.af (.at x0 12) x8) (.af (.at x0 13)<|.call 12<|e1 x6)<|s2 (.af (.at x0 14)<|i 45)<|.af (.at x0 15)<|.neg<|i 1⟩
def Tl:Fn:=⟨2,[],2,s1<|.ret<|sN x1 (.at x0 9)⟩
def Zj:Fn:=⟨2,[],2,s1<|.ret<|.ix (.me (.at x0 9) 3<|e2 x1<|.g 13)<|i 0⟩
def f16:Fn:=⟨2,[],2,s1<|.ret<|.ix (.me (.at x0 9) 3<|e2 x1<|.g 13)<|i 1⟩
def Yl:Fn:=⟨2,[],2,s1<|.ret<|.ix (.me (.at x0 9) 3<|e2 x1<|.g 13)<|i 2⟩
def f18:Fn:=⟨2,[],3,s3 (.ite (aS x1<|.g 11) (s1<|.ret (.at x0 13)) .nil) (.af y2<|.me (.at x0 9) 3<|e2 x1<|.g 13)<|.ret<|.ite (aS (.ix x2<|i 4)<|.g 4) (.ix x2<|i 5)<|.neg<|i 1⟩
def Vg:Fn:=⟨1,[],3,s3 (.af (.aj<|t2 y1 y2)<|.tu<|e2 x0<|i 16) (.while (gV x1<|i 8388608)<|s2 (.af y1<|hZ x1<|i 2)<|.af y2<|bZ (i 2) x2)<|.ret<|.tu<|e2 x1 x2⟩
def f20:Fn:=⟨3,[],8,s6 (.af (.aj<|t4 y3 y4 y5 y6) x0) (.af y7<|aJ (hZ (aJ (hZ (bZ x6 x1)<|i 256)<|bZ x5 x1)<|i 256)<|bZ x4 x1) (.af y7<|hZ x7<|hZ (i 256) x2) (.ite (aS x3<|i 0) (s1<|.ret x7) .nil) (.ite (aS x3<|i 255) (s1<|.ret<|cM x7<|bZ x2 x1) .nil) .bu⟩
def Z8:Fn:=⟨1,[],7,d5 (.ite (fK (.bi .len<|e1 x0)<|i 24) (s1 .bu) .nil) (.af y1<|.comp aa [0] (.bi .range<|e1<|i 12) (.c<|.bool aa)<|aJ (bZ (i 256)<|.ix x1<|bZ (i 2) x0)<|.ix x1<|aJ (bZ (i 2) x0)<|i 1) (.for y2 x1<|s1<|.ite (dF x2<|.g 14) (s1 .bu) .nil) (.af (.aj<|t4 y3 y4 y5 y6)<|.sl x1 (.c .none)<|i 4) (.ite (.or (fK x4<|i 2)<|.or (dF x6<|i 255)<|.or (dF x5<|aJ x6<|i 1)<|sN (i 0)<|.sl x1 (i 4)<|i 8) (s1 .bu) .nil) (.ite (.or (ct x3<|aJ (aJ (cM (aJ (aJ (i 6) x4) x6) x5)<|i 1)<|.bi .sum<|e1<|.sl x1 (i 4)<|.c .none)<|fK (.bi .len<|e1 x0)<|bZ (i 4) x3) (s1 .bu) .nil)<|s1<|.ret x1⟩
def f22:Fn:=⟨4,[],6,s2 (.af (.aj<|t2 y4 y5)<|.call 19<|e1 x3)<|.ret<|.comp aa [4,5,0] (.bi .range<|e3 x1 (aJ x1<|bZ (i 4) x2)<|i 4) (.c<|.bool aa)<|.call 20<|e3 (.sl x3 x0<|aJ x0<|i 4) x1 x2⟩
def Ic:Fn:=⟨3,[],3,s1<|.ret<|.comp aa [0] (.bi .range<|e3 x1 (aJ x1<|bZ (i 4) x2)<|i 4) (.c<|.bool aa)<|.bi .tuple<|e1<|.sl x1 x0<|aJ x0<|i 4⟩
def f24:Fn:=⟨3,[],11,s6 (.af y3<|.di ae .nil .nil) (.af (.aj<|t2 y4 y5)<|.tu<|e2 (.ix x2<|i 2)<|.ix x2<|i 3) (.for (.aj<|t2 y6 y7) (.bi .kz<|e2 (.call 23<|e3 x0 x1<|aJ (cM x5 x4)<|i 1) x4)<|s6 (.af y8<|.tu<|e6 (.ix x7<|i 0) (hZ (.ix x7<|i 1)<|i 16) (ii (.ix x7<|i 1)<|i 16) (hZ (.ix x7<|i 2)<|i 4) (ii (.ix x7<|i 2)<|i 4)<|.ix x7<|i 3) (.ite (.or (gV (.ix x8<|i 0)<|.ix x2<|i 4)<|.or (gV (.ix x8<|i 1)<|.ix x2<|i 5)<|.or (gV (.ix x8<|i 2)<|.ix x2<|i 6)<|gV (.ix x8<|i 3)<|.ix x2<|i 7) (s1 .bu) .nil) (.af (.aj<|t2 y9 kb)<|.tu<|e2 (.ix x8<|i 4)<|.ix x8<|i 5) (.ite (.or (.an (aS x9<|.g 4)<|gV x10<|.ix x2<|i 8)<|.an (aS x9<|.g 3)<|gV x10<|.ix x2<|i 10) (s1 .bu) .nil) (.ite (.an (aS x9<|.g 5)<|.nt<|.iN .le .le x4 x10 x5) (s1 .bu) .nil)<|.af (.ix x3 x6) x8) (.yH 3) (.expr<|.call 10<|e1 x3)<|.ret x3⟩
def UY:Fn:=⟨3,[],8,s4 (.af y3<|.di ae .nil .nil) (.for (.aj<|t2 y4 y5) (.me x0 4 .nil)<|s1<|.ite (dF (.ix x5<|i 0)<|i 0) (s2 (.af y6<|.ite (aS (.ix x5<|i 4)<|.g 3) (.ix x2<|.ix x5<|i 5)<|.ix x5<|i 5)<|.af (.ix x3 x4)<|.tu<|e6 (.ix (.ix x1<|i 0)<|.ix x5<|i 0) (.ix (.ix x1<|i 1)<|.ix x5<|i 1) (.ix (.ix x1<|i 2)<|.ix x5<|i 2) (.ix (.ix x1<|i 3)<|.ix x5<|i 3) (.ix x5<|i 4) x6) .nil) (.for y7 x2<|s1<|.expr<|.call 111<|e2 x7 x3)<|.ret<|.gu x3⟩
def f26:Fn:=⟨4,[],9,s4 (.ite (aS x2<|i 0) (s1<|.ret<|.li aa .nil) .nil) (.af (.aj<|t4 y4 y5 y6 y7)<|.sl x0 x1<|aJ x1<|i 4) (.af y8<|aJ (bZ (aJ (bZ (aJ (bZ (.ite (dF x4<|i 127) (cM x4<|i 256) x4)<|i 256) x5)<|i 256) x6)<|i 16)<|hZ x7<|i 16)<|.ret<|aJ (.li aa<|e1 x8)<|.call 22<|e4 x0 (aJ x1<|i 4) (cM x2<|i 1) x3⟩
def VL:Fn:=⟨1,[],3,s4 (.af y1<|.sl x0 (i 28)<|i 32) (.af y2<|hZ (aJ (aJ (aJ (bZ (i 16777216)<|.ix x1<|i 0)<|bZ (i 65536)<|.ix x1<|i 1)<|bZ (i 256)<|.ix x1<|i 2)<|.ix x1<|i 3)<|i 16) (.ite (.or (dF (.ix x1<|i 0)<|i 127)<|fK x2<|.g 15) (s1 .bu) .nil)<|.ret<|.tu<|e2 (aJ (aJ (aJ (bZ (i 16777216)<|.ix x0<|i 24)<|bZ (i 65536)<|.ix x0<|i 25)<|bZ (i 256)<|.ix x0<|i 26)<|.ix x0<|i 27) x2⟩
def UL:Fn:=⟨4,[.none],17,d5 (.ite (.nt<|.bi (.gh .bytes)<|e1 x0) (s1 .bu) .nil) (.af y4<|.call 21<|e1 x0) (.af (.aj<|t2 y5 y6)<|.call 27<|e1 x0) (.af y7<|.ite (iX x3<|.c .none) x6 x3) (.ite (.nt<|.call 0<|e3 x7 (i 1)<|.g 10) (s1 .bu) .nil) (.af y8<|aJ (i 24)<|bZ (i 4)<|.ix x4<|i 1)<|d5 (.af y9<|.call 24<|e3 x0 x8 x4) (.af y8<|aJ x8<|bZ (i 4)<|aJ (cM (.ix x4<|i 3)<|.ix x4<|i 2)<|i 1) (.af kb<|.li ae .nil) (.for sH (.sl x4 (i 4)<|i 8)<|s3 (.expr<|.me x10 0<|e1<|.call 22<|e4 x0 x8 cA x7) (.ite (ct (.ix (.ix x10<|.neg<|i 1)<|i 0)<|i 0) (s1 .bu) .nil)<|.af y8<|aJ x8<|bZ (i 4) cA) (.af zd<|.call 23<|e3 x0 x8<|.ix x4<|i 8) (.af y8<|aJ x8<|bZ (i 4)<|.ix x4<|i 8)<|d5 (.af CQ<|.call 22<|e4 x0 x8 (.ix x4<|i 9) x7) (.af y8<|aJ x8<|bZ (i 4)<|.ix x4<|i 9) (.af Em<|.call 25<|e3 x9 x10<|.call 23<|e3 x0 x8<|.ix x4<|i 10) (.af Lz<|.call 26<|e4 x0 (aJ x8<|bZ (i 4)<|.ix x4<|i 10) (.ix x4<|i 11) x7) (.af LN<|.new 1<|wz x1 x2 x7 mJ lX kL<|e2 pZ<|.call 31<|e1 kL) (.af (.at nQ 7) x5)<|s2 (.af (.at nQ 6) x6)<|.ret<|.gu nQ⟩
def wR:Fn:=⟨4,[],5,s3 (.ite (.nt<|.call 0<|e3 x3 (i 1)<|i 32768) (s1 .bu) .nil) (.af y4 (.at (.call 28<|e3 x0 x1 x2) 6))<|.ret<|.call 28<|e4 x0 x1 x2<|hZ (bZ x4 x3)<|i 1000⟩
abbrev BI:Ss:=s1 (.ret<|.call 28<|e4 x0 x1 x2 x3)
def vP:Fn:=⟨5,[],5,s2 (.ite (dF x3<|i 0) BI .nil)<|.ret<|.call 29<|e4 x0 x1 x2 x4⟩
def f31:Fn:=⟨1,[],1,s1<|.ret<|.ite (.an (dF (.bi .len<|e1 x0)<|i 0)<|aS (.ix (.ix x0<|i 0)<|i 0)<|.g 8) (.ix (.ix x0<|i 0)<|i 1)<|.g 11⟩
def f32:Fn:=⟨1,[],1,s2 (.ite (.nt<|.call 0<|e3 x0 (i 0)<|i 255) (s1 .bu) .nil)<|.ret x0⟩
def f33:Fn:=⟨3,[],3,s2 (.af (.at x0 16) x1)<|.af (.at x0 17)<|.call 32<|e1 x2⟩
def f34:Fn:=⟨6,[.bool ae,.bool ae],6,s5 (.af (.at x0 16) x1) (.af (.at x0 17)<|.call 32<|e1 x2) (.af (.at x0 18)<|.bi .tuple<|e1<|.comp aa [] x3 (.c<|.bool aa)<|.call 32<|e1 x0) (.af (.at x0 19) x4)<|.af (.at x0 20) x5⟩
def f35:Fn:=⟨6,[],6,d5 (.ite (.nt<|.call 0<|e3 x1 (.g 16)<|.g 17) (s1 .bu) .nil) (.af (.at x0 21) x1) (.af (.at x0 22)<|.call 3<|e1 x2) (.af (.at x0 23)<|.call 3<|e1 x3) (.af (.at x0 24)<|.call 3<|e1 x4) (.af (.at x0 25) x5)<|s4 (.af (.at x0 26)<|i 0) (.af (.at x0 27)<|.g 18) (.af (.at x0 28)<|i 0)<|.af (.at x0 29)<|.tu<|e2 (i 0)<|i 1⟩
def f36:Fn:=⟨3,[],3,s3 (.ite (.nt<|.call 0<|e3 x2 (.g 19)<|.g 20) (s1 .bu) .nil) (.af (.at x0 22)<|.call 3<|e1 x1)<|.af (.at x0 30) x2⟩
def WR:Fn:=⟨1,[],2,d5 (.af y1 (.at x0 21)) (.ite (.or (aS x1<|.g 21)<|aS x1<|.g 22) (s1<|.ret<|.me (.at x0 16) 5<|e1 (.at x0 17)) .nil) (.ite (.or (aS x1<|.g 16)<|.or (aS x1<|.g 17)<|.or (aS x1<|.g 23)<|.or (aS x1<|.g 24)<|aS x1<|.g 25) (s1<|.ret (.at x0 22)) .nil) (.ite (aS x1<|.g 26) (s1<|.ret<|.ite (iX (.at x0 22)<|.c .none) (i 0) (.at x0 22)) .nil) (.ite (aS x1<|.g 27) (s1<|.ret (.at (.at x0 31) 22)) .nil) (.ite (aS x1<|.g 28) (s1<|.ret<|.bi .sum<|e1<|.comp aa [] (.at x0 32) (.c<|.bool aa)<|.call 37<|e1 x0) .nil)<|s1<|.ret<|i 0⟩
def SZ:Fn:=⟨1,[],2,d5 (.af y1 (.at x0 21)) (.ite (.or (aS x1<|.g 21)<|aS x1<|.g 22) (s1<|.ret<|.me (.at x0 16) 6<|e1 (.at x0 17)) .nil) (.ite (.or (aS x1<|.g 16)<|.or (aS x1<|.g 17)<|aS x1<|.g 25) (s1<|.ret (.at x0 23)) .nil) (.ite (aS x1<|.g 26) (s1<|.ret<|.ite (iX (.at x0 23)<|.c .none) (i 0) (.at x0 23)) .nil) (.ite (.an (aS x1<|.g 27)<|kZ (.at x0 33)<|.c .none) (s1<|.ret<|.call 38<|e1 (.at x0 33)) .nil) (.ite (aS x1<|.g 28) (s1<|.ret<|.bi .max<|e1<|aJ (.li aa<|e1<|i 0)<|.comp aa [] (.at x0 32) (.c<|.bool aa)<|.call 40<|e1 x0) .nil)<|s1<|.ret<|i 0⟩
def f39:Fn:=⟨1,[],2,d5 (.af y1 (.at x0 21)) (.ite (.or (aS x1<|.g 21)<|aS x1<|.g 22) (s1<|.ret<|.me (.at x0 16) 7<|e1 (.at x0 17)) .nil) (.ite (.or (aS x1<|.g 16)<|.or (aS x1<|.g 17)<|aS x1<|.g 25) (s1<|.ret (.at x0 24)) .nil) (.ite (aS x1<|.g 26) (s1<|.ret<|.ite (iX (.at x0 24)<|.c .none) (i 0) (.at x0 24)) .nil) (.ite (.an (aS x1<|.g 27)<|kZ (.at x0 33)<|.c .none) (s1<|.ret<|.call 39<|e1 (.at x0 33)) .nil) (.ite (aS x1<|.g 28) (s1<|.ret<|.bi .max<|e1<|aJ (.li aa<|e1<|i 0)<|.comp aa [] (.at x0 32) (.c<|.bool aa)<|.call 41<|e1 x0) .nil)<|s1<|.ret<|i 0⟩
def f40:Fn:=⟨1,[],1,s2 (.ite (.or (aS (.at x0 21)<|.g 16)<|aS (.at x0 21)<|.g 17) (s1<|.ret<|cM (.at x0 23) (.at x0 26)) .nil)<|.ret<|.call 38<|e1 x0⟩
def f41:Fn:=⟨1,[],1,s2 (.ite (.or (aS (.at x0 21)<|.g 16)<|aS (.at x0 21)<|.g 17) (s1<|.ret<|aJ (.at x0 24) (.at x0 26)) .nil)<|.ret<|.call 39<|e1 x0⟩
abbrev vD:Ss:=s3 (.ite (aS (.at x4 21)<|.g 27) (s1<|.expr<|.me x1 8<|e1 (.at x4 31))<|s1<|.expr<|.me x1 9<|e1<|.call 37<|e1 x4) (.af y2<|.bi .max<|e2 x2<|.call 40<|e1 x4) (.af y3<|.bi .max<|e2 x3<|.call 41<|e1 x4)
def f42:Fn:=⟨1,[],5,s4 (.af y1<|.new 0 .nil) (.af (.aj<|t2 y2 y3)<|.tu<|e2 (i 0)<|i 0) (.for y4 x0 vD)<|.ret<|.gu<|.tu<|e3 x1 x2 x3⟩
def TD:Fn:=⟨2,[],5,d5 (.ite (aS x1<|i 0) (s1<|.ret<|.tu<|e4 (.g 18) (.g 29) (.tu<|e2 (i 0)<|i 1)<|.tu<|e2 (.g 30)<|i 0) .nil) (.af y2<|.ite (dF x1<|i 0) (.me x0 10 .nil)<|.me x0 11 .nil) (.af y3<|.ite (dF x1<|i 0) (.ix (.at x0 1) x2)<|.ix (.at x0 2) x2) (.af y4<|.tu<|e2 (.g 30)<|i 0) (.ite (aS x2<|.g 29) (s1<|.af y4<|.tu<|e2 (.ite (dF x1<|i 0) (.g 31)<|.g 32)<|.call 112<|e2 (.bi .abs<|e1 x1) x3) .nil) (.ite (.an (aS x2<|.g 29)<|.an (fK x1<|i 0)<|fK x3<|.neg x1) (s1<|.af y4<|.tu<|e2 (.g 33)<|cM (.neg x1) x3) .nil)<|s3 (.ite (aS x3<|i 0) (s1<|.ret<|.tu<|e4 (.g 18) (.g 29) (.tu<|e2 (i 0)<|i 1) x4) .nil) (.ite (aS (.ix x4<|i 0)<|.g 33) (s1<|.ret<|.tu<|e4 (.g 34) x2 (.tu<|e2 (i 1)<|i 1) x4) .nil)<|.ret<|.tu<|e4 (.ite (dF x1<|i 0) (.g 35)<|.g 34) x2 (.call 113<|e2 (.bi .abs<|e1 x1) x3) x4⟩
def Yb:Fn:=⟨2,[],2,s1<|.ret<|.call 4<|e2 (bZ (.ix (.at x0 29)<|i 0) x1)<|.ix (.at x0 29)<|i 1⟩
def f45:Fn:=⟨2,[],2,s2 (.ite (aS (.at x0 21)<|.g 16) (s1<|.ret<|.call 37<|e1 x1) .nil)<|.ret<|.ite (aS (.at x1 21)<|.g 23) (.at x1 22)<|aJ (.call 38<|e1 x1)<|.call 39<|e1 x1⟩
abbrev yW:Ss:=s2 (.ite (aS (.at x4 21)<|.g 27) (s2 (.af y2<|aJ x2 (.at (.at x4 31) 22))<|.af y3<|aJ x3<|.call 115<|e2 x0 (.at x4 31))<|s1<|.af y2<|aJ x2<|.call 45<|e2 x0 x4) (.expr<|.me x1 0<|e1<|aJ x2<|.call 44<|e2 x0 x3)
def f46:Fn:=⟨1,[],5,s5 (.ite (aS (.at x0 21)<|.g 17) (s1<|.expr<|.call 114<|e1 (.at x0 25)) .nil) (.af y1<|.li ae<|e1<|i 0) (.af (.aj<|t2 y2 y3)<|.tu<|e2 (i 0)<|i 0) (.for y4 (.at x0 25) yW)<|.ret<|.gu x1⟩
def f47:Fn:=⟨3,[],3,s3 (.ite (.an (ct x1<|.g 36)<|ct x1<|.g 37) (s1 .bu) .nil) (.expr<|.call 3<|e1 x2)<|.ret<|.ite (aS x1<|.g 36) x2<|aJ x0 x2⟩
def TF:Fn:=⟨3,[],4,s2 (.af (.aj<|t4 (.at x0 27) (.at x0 28) (.at x0 29) y3)<|.call 43<|e2 x1 x2)<|.ret<|.ite (ct (.at x0 25)<|.li aa .nil) x3<|.tu<|e2 (.g 30)<|i 0⟩
def f49:Fn:=⟨4,[.int 1,.int 0,.none],11,s6 (.af (.aj<|t2 y4 y5)<|.ite (iX x3<|.c .none) (.tu<|e2 x0<|.li aa .nil)<|.call 116<|e1 x0) (.af (.aj<|t3 y6 y7 y8)<|.call 42<|e1 x4) (.af y9<|.call 47<|e3 (.at x6 0) x1 x2) (.af kb<|.new 4<|e5 (.g 16) x9 x7 x8 x4) (.ite (kZ x3<|.c .none) (s1<|.expr<|.me x3 2<|e1 x5) .nil)<|.ret<|.gu<|.tu<|e2 x10<|.call 48<|e3 x10 x6<|cM x9 (.at x6 0)⟩
abbrev H4:Ss:=s1 (.expr<|.me x0 0<|e1<|ii (hZ x1<|mW (i 256) x3)<|i 256)
def WJ:Fn:=⟨3,[],4,s1<|.for y3 (.bi .range<|e3 (cM x2<|i 1) (.neg<|i 1)<|.neg<|i 1) H4⟩
def W2:Fn:=⟨3,[],4,s4 (.af y3<|i 1) (.while (.an (fK x3<|i 4)<|gV (.bi .abs<|e1 x2)<|bZ (i 128)<|mW (i 256)<|cM x3<|i 1)<|s1<|.Al 3 .add<|i 1) (.expr<|.me x0 0<|e1<|cM (aJ x1 x3)<|i 1)<|.expr<|.call 50<|e3 x0 x2 x3⟩
def f52:Fn:=⟨3,[],4,s4 (.af y3<|i 1) (.while (.an (fK x3<|i 4)<|gV x2<|mW (i 256) x3)<|s1<|.Al 3 .add<|i 1) (.expr<|.me x0 0<|e1<|cM (aJ x1 x3)<|i 1)<|.expr<|.call 50<|e3 x0 x2 x3⟩
def Za:Fn:=⟨1,[],1,s3 (.expr<|.call 50<|e3 x0 (.g 38)<|i 4) (.expr<|.call 50<|e3 x0 (.g 39)<|i 4)<|.expr<|.call 50<|e3 x0 (.g 40)<|i 4⟩
abbrev Ph:Ss:=s1 (.expr<|.me x0 0<|e1<|.bi .pd<|e1 x2)
def f54:Fn:=⟨2,[],3,d5 (.ite (.or (dF (.bi .len<|e1 (.at x1 4))<|i 255)<|ct (.comp aa [] (.at x1 4) (dF (.bi .pd<|e1 x0)<|i 255) x0)<|.li aa .nil) (s1 .bu) .nil) (.expr<|.call 52<|e3 x0 (.g 41) (.at x1 3)) (.expr<|.call 50<|e3 x0 (.at x1 7)<|i 4) (.expr<|.call 50<|e3 x0 (.at x1 5)<|i 4) (.expr<|.call 50<|e3 x0 (.at x1 6)<|i 4) (.expr<|.me x0 0<|e1<|i 0)<|s2 (.expr<|.me x0 0<|e1<|.bi .len<|e1 (.at x1 4))<|.for y2 (.at x1 4) Ph⟩
def Ke:Fn:=⟨1,[],1,s2 (.ite (dF (.bi .abs<|e1 x0)<|.g 1) (s1 .bu) .nil)<|.ret x0⟩
def f56:Fn:=⟨2,[],2,s2 (.af (.at x0 34) x1)<|.af (.at x0 35)<|.li ae .nil⟩
abbrev Mu:Ss:=s1 (.expr<|.me (.at x0 35) 1 .nil)
def MD:Fn:=⟨2,[],2,s1<|.while (.an (dF (.bi .len<|e1 (.at x0 35))<|i 0)<|gV (.ix (.ix (.at x0 35)<|.neg<|i 1)<|i 1) x1) Mu⟩
abbrev FI:Ss:=s1 (.af (.ix x5<|i 2)<|.call 60<|e2 (.ix x5<|i 2) x4)
abbrev O2:Ss:=s2 (.expr<|.me (.at x0 35) 0<|e1<|.li ae<|e3 x2 (.bi .len<|e1 x1) x4) (.expr<|.me x1 0<|e1<|aJ (.at x0 34)<|.ite (aS x4<|.g 43) (.g 44)<|.g 45)
abbrev Cs:Ss:=uk (.ite (fK x3<|i 0) (s3 (.expr<|.me (.at x0 35) 0<|e1<|.li ae<|e3 x2 (.bi .len<|e1 x1)<|.g 42) (.expr<|.call 51<|e3 x1 (.at x0 34) x2)<|.ret<|.c .none) .nil) (.af y4<|.ix (.ix (.at x0 35) x3)<|i 2) (.for y5 (.sl (.at x0 35) (aJ x3<|i 1)<|.c .none) FI) O2
def QN:Fn:=⟨3,[],6,kC (.af y3<|.me x0 12<|e2 x1 x2) Cs⟩
abbrev wC:Ss:=s2 (.af (.aj<|t3 y5 y6 y7)<|.ix (.at x0 35) x4) (.ite (aS x5 x2) (s3 (.ite (.or (.an (aS x7<|.g 43)<|ct x3<|.g 47)<|.an (aS x7<|.g 48)<|ct x3<|.g 49) (s1<|.ret x4) .nil) (.ite (.an (.or (aS x7<|.g 42)<|aS x7<|.g 50)<|ct x3<|.g 47) (s3 (.zU x1 x6 .add<|.g 51) (.af (.ix (.ix (.at x0 35) x4)<|i 2)<|.g 43)<|.ret x4) .nil)<|.ite (.an (.or (aS x7<|.g 42)<|aS x7<|.g 52)<|ct x3<|.g 49) (s3 (.zU x1 x6 .add<|.g 53) (.af (.ix (.ix (.at x0 35) x4)<|i 2)<|.g 48)<|.ret x4) .nil)<|s1<|.ite (aS x7<|.g 43) (s2 (.ite (aS x3<|.g 49) (s1<|.ret<|.neg<|i 1) .nil)<|.af y3<|.g 47)<|s1<|.ite (aS x7<|.g 48) (s2 (.ite (aS x3<|.g 47) (s1<|.ret<|.neg<|i 1) .nil)<|.af y3<|.g 49) .nil)
def Gp:Fn:=⟨3,[],8,s3 (.af y3<|.g 46) (.for y4 (.bi .range<|e3 (cM (.bi .len<|e1 (.at x0 35))<|i 1) (.neg<|i 1)<|.neg<|i 1) wC)<|.ret<|.neg<|i 1⟩
def Wm:Fn:=⟨2,[],2,s2 (.ite (aS x1<|.g 43) (s1<|.ret<|.ite (aS x0<|.g 42) (.g 52)<|.ite (aS x0<|.g 50) (.g 54) x0) .nil)<|.ret<|.ite (aS x0<|.g 42) (.g 50)<|.ite (aS x0<|.g 52) (.g 54) x0⟩
def f61:Fn:=⟨3,[],3,d5 (.af (.at x0 36)<|.li ae .nil) (.af (.at x0 37)<|.bi (.dict ae)<|e1 x1) (.af (.at x0 24) x2) (.af (.at x0 38)<|i 0) (.af (.at x0 39)<|i 0) (.af (.at x0 16)<|.neg<|i 1)<|s3 (.af (.at x0 40)<|.new 6<|e1<|.g 55) (.af (.at x0 41)<|.new 6<|e1<|.g 56)<|.af (.at x0 42)<|i 0⟩
def NC:Fn:=⟨2,[],2,s3 (.ite (dF x1 (.at x0 24)) (s1 .bu) .nil) (.ite (dF x1<|i 0) (s1<|.expr<|.me (.at x0 36) 0<|e1<|.g 57) .nil)<|.ret<|.bi .len<|e1 (.at x0 36)⟩
def Kx:Fn:=⟨3,[],3,s3 (.expr<|.me (.at x0 40) 13<|e1 x1) (.expr<|.me (.at x0 41) 13<|e1 x1)<|.ite (.an (dF x2<|i 0)<|aS (.bi .len<|e1 (.at x0 36)) x1) (s1<|.expr<|.me (.at x0 36) 1 .nil)<|s1<|.ite (dF x2<|i 0) (s2 (.expr<|.me (.at x0 36) 0<|e1<|.g 58)<|.af (.at x0 42)<|.bi .max<|e2 (.at x0 42) x2) .nil⟩
abbrev Ij:Ss:=s1 (.af (.at x0 38) x1)
def Ja:Fn:=⟨2,[],2,s2 (.expr<|.call 55<|e1 x1)<|.ite (ct x1 (.at x0 38)) (kC (.expr<|.me (.at x0 40) 14<|e2 (.at x0 36)<|cM x1 (.at x0 38)) Ij) .nil⟩
abbrev Px:Ss:=s1 (.af (.at x0 39) x1)
def IL:Fn:=⟨2,[],2,s2 (.expr<|.call 55<|e1 x1)<|.ite (ct x1 (.at x0 39)) (kC (.expr<|.me (.at x0 41) 14<|e2 (.at x0 36)<|cM x1 (.at x0 39)) Px) .nil⟩
def f66:Fn:=⟨2,[],3,s3 (.af y2<|.me (.at x0 37) 3<|e1 (.at x1 3)) (.ite (iX x2<|.c .none) (s2 (.expr<|.call 54<|e2 (.at x0 36) x1)<|.af (.ix (.at x0 37) (.at x1 3)) x1)<|s1<|.ite (kZ x2 x1) (s1 .bu) .nil)<|.ite (ct (.at x1 3) (.at x0 16)) (s2 (.ite (fK (.at x1 3)<|i 64) (s1<|.expr<|.me (.at x0 36) 0<|e1<|aJ (.g 59) (.at x1 3))<|s1<|.expr<|.call 52<|e3 (.at x0 36) (.g 60) (.at x1 3))<|.af (.at x0 16) (.at x1 3)) .nil⟩
abbrev Iu:Ss:=s1 .bu
abbrev HC:Ss:=s3 (.ite (gV x2<|i 128) (s1<|.expr<|.me (.at x0 36) 0<|e1<|.g 61) .nil) (.expr<|.me (.at x0 36) 0<|e1 x2) (.af (.at x0 38)<|.call 55<|e1<|aJ x3<|.me x1 5<|e1 x2)
def I7:Fn:=⟨5,[],5,ur (.ite (.nt<|.me x1 15<|e1 x2) Iu .nil) (.expr<|.me x0 16<|e1 x3) (.expr<|.me x0 17<|e1 x4) (.expr<|.me x0 18<|e1 x1) HC⟩
abbrev zZ:Ss:=s2 (.af (.aj<|t2 y4 y5)<|.tu<|e2 (.ix (.at x0 25) x3)<|.ix x1 x3) (.ite (.an (aS (.at x4 21)<|.g 28)<|aS (.at x0 21)<|.g 16) (s1<|.for y6 (.at x4 32)<|s3 (.af y7<|aJ x5<|.call 37<|e1 x6) (.expr<|.me x2 0<|e1<|.tu<|e3 x6 x5 x7)<|.af y5 x7)<|s1<|.expr<|.me x2 0<|e1<|.tu<|e3 x4 x5<|.ix x1<|aJ x3<|i 1)
def f68:Fn:=⟨1,[],8,s3 (.af (.aj<|t2 y1 y2)<|.tu<|e2 (.call 46<|e1 x0)<|.li ae .nil) (.for y3 (.bi .range<|e1<|.bi .len<|e1 (.at x0 25)) zZ)<|.ret<|.gu x2⟩
abbrev MQ:Ss:=s1 (.expr<|.me x0 19<|e4 (.at x5 16) (.at x5 17) x6 x4)
abbrev P8:Ss:=s1 (.ite (.or (aS x7<|.g 16)<|aS x7<|.g 17) (s1<|.ite (ct (.at x5 25)<|.li aa .nil) (s1<|.ret<|.li aa<|e1<|.tu<|e4 x5 x6 (aJ x4 (.at x5 26))<|.c<|.bool ae) .nil)<|s1<|.ite (aS x7<|.g 62) (s1<|.ite (aS (.at x5 30)<|.g 63) (s1<|.expr<|.me x0 20<|e3 (.at x5 36) x6 x4) .nil)<|s1<|.ite (.or (aS x7<|.g 26)<|.an (aS x7<|.g 27)<|kZ (.at x5 33)<|.c .none) (s5 (.af y8<|.ite (aS x7<|.g 26) x5 (.at x5 33)) (.af y9<|cM (.ix x2<|i 2)<|.ix x2<|i 1) (.ite (ct (.at x8 21)<|.g 26) (s1<|.ret<|.comp aa [8,4] (.call 117<|e5 x5 x6 x9 x3<|.c<|.bool ae) (.c<|.bool aa)<|.tu<|e4 x1 x0 (aJ x2 (.at x1 26))<|.c<|.bool aa) .nil) (.af (.aj<|t3 kb sH zd)<|.call 118<|e2 x8 x1)<|.expr<|.me x0 21<|e5 (aJ cA kL) (.ite (aS x7<|.g 26) x10 x9) x6 (aJ x4 kL)<|.c<|.bool aa)<|s1<|.ite (v5 x7<|.g 64) (s1 .bu) .nil)
abbrev EF:Ss:=s1 (.ret<|.li aa .nil)
abbrev Fs:Ss:=mz (.af y7 (.at x5 21)) (.ite (.or (aS x7<|.g 21)<|aS x7<|.g 22) MQ P8) EF
def K9:Fn:=⟨5,[],13,kC (.af (.aj<|t2 y5 y6)<|.tu<|e2 (.ix x2<|i 0)<|aJ x3<|.ix x2<|i 1) Fs⟩
abbrev Of:Ss:=s2 (.ite x6 (s1<|.af y8<|.call 119<|e5 x0 x1 x7 x2<|cM x3 (.at x1 23))<|s1<|.af y8<|.call 69<|e5 x0 x1 x7 x2 x3) (.for (.aj<|t4 y9 kb sH zd) x8<|s5 (.ite (.or kL x6) (s1<|.expr<|.me x0 17<|e1 cA) .nil) (.ite kL (s1<|.expr<|.me x0 16<|e1 x10) .nil) (.af (.aj<|t2 CQ Em)<|.tu<|e2 (.at x0 38) (.at x0 39)) (.expr<|.call 70<|e5 x0 x9 x10 cA<|aJ x4<|i 1)<|.af (.aj<|t2 (.at x0 38) (.at x0 39))<|.tu<|e2 pZ lX)
def JA:Fn:=⟨5,[],15,s4 (.af y5<|.me x0 22<|e1 x4) (.af y6<|aS (.at x1 21)<|.g 17) (.for y7 (.call 68<|e1 x1) Of)<|.expr<|.me x0 23<|e2 x5 x4⟩
def f71:Fn:=⟨3,[],3,s4 (.ite (.or (iX x0<|.c .none)<|.an (ct (.at x0 21)<|.g 16)<|ct (.at x0 21)<|.g 17) (s1 .bu) .nil) (.expr<|.call 3<|e1 x1) (.expr<|.call 3<|e1 x2)<|.ite (dF (.bi .max<|e4 (.at x0 23) (.at x0 24) (aJ (aJ (.at x0 23) (.at x0 24)) x2)<|aJ (.at x0 22) x1)<|.g 1) (s1 .bu) .nil⟩
abbrev Qw:Ss:=s1 (.expr<|.me (.at x0 36) 0<|e1<|.bi .pd<|e1 x2)
def f72:Fn:=⟨2,[.int 40],3,d5 (.ite (.nt<|.call 0<|e3 x1 (i 0)<|.g 65) (s1 .bu) .nil) (.af (.at x0 24) x1) (.af (.at x0 36)<|.li ae<|e2 (.g 66)<|.g 67) (.expr<|.call 53<|e1 (.at x0 36)) (.expr<|.me (.at x0 36) 0<|e1<|.bi .len<|e1<|.g 68) (.for y2 (.g 68) Qw)<|s6 (.af (.at x0 37)<|.di ae .nil .nil) (.af (.at x0 43)<|i 0) (.af (.at x0 44)<|.neg<|i 1) (.af (.at x0 45)<|i 0) (.af (.at x0 46)<|i 0)<|.af (.at x0 42)<|i 0⟩
abbrev Dk:Ss:=s1 (.expr<|.call 50<|e3 (.at x5 36) (.ite (fK x6<|.bi .len<|e1 x2) (.call 2<|e1<|.ix x2 x6)<|i 0)<|i 4)
abbrev H3:Ss:=d5 (.expr<|.me (.at x5 36) 0<|e1<|.g 70) (.af (.at x0 44)<|.bi .len<|e1 (.at x0 36)) (.expr<|.me (.at x0 36) 2<|e1 (.at x5 36)) (.af (.at x0 37) (.at x5 37)) (.z5 x0 43 .add<|i 1) (.af (.at x0 45)<|.bi .max<|e2 (.at x0 45)<|aJ (aJ (.at x1 23) (.at x1 24)) x4) (s2 (.af (.at x0 46)<|.bi .max<|e2 (.at x0 46)<|aJ (.at x1 22) x3)<|.af (.at x0 42)<|.bi .max<|e2 (.at x0 42) (.at x5 42))
abbrev Jf:Ss:=kC (.expr<|.call 70<|e5 x5 x1 x3 (aJ x4 (.at x1 23))<|i 0) H3
abbrev NS:Ss:=d5 (.ite (dF (.bi .len<|e1 x2)<|i 10) (s1 .bu) .nil) (.expr<|.call 71<|e3 x1 x3 x4) (.af y5<|.new 7<|e2 (.at x0 37) (.at x0 24)) (.expr<|.me (.at x5 36) 0<|e1<|.g 69) (.for y6 (.bi .range<|e1<|i 10) Dk) (.expr<|.call 50<|e3 (.at x5 36) (.at x0 44)<|i 4) Jf
def NN:Fn:=⟨5,[.aj [],.int 0,.int 0],7,NS⟩
abbrev OM:Ss:=s1 (.expr<|.call 54<|e2 x1<|.ix (.at x0 37) x2)
abbrev OB:Ss:=s1 (.expr<|.me x1 0<|e1<|.g 73)
abbrev CJ:Ss:=s5 (.expr<|.me x1 0<|e1<|.g 72) (.expr<|.call 50<|e3 x1 (.bi .len<|e1 (.at x0 36))<|i 4) (.expr<|.me x1 0<|e1<|.g 67) (.for y3 (.bi .range<|e1<|aJ (i 4)<|ii (.neg<|.bi .len<|e1 x1)<|i 4) OB) (.ret<|.bi .bytes<|e1 x1)
abbrev J9:Ss:=kC (.for y2 (.iz<|.bi .sorted<|e1 (.at x0 37)) OM) CJ
abbrev HT:Ss:=d5 (.af y1<|.bi (.list ae)<|e1 (.at x0 36)) (.expr<|.me x1 0<|e1<|.g 71) (.expr<|.call 50<|e3 x1 (.at x0 44)<|i 4) (.expr<|.call 53<|e1 x1) (.expr<|.call 50<|e3 x1 (.at x0 45)<|i 4) (.expr<|.call 50<|e3 x1 (.at x0 46)<|i 4) (mz (.expr<|.call 50<|e3 x1 (.at x0 42)<|i 2) (.expr<|.call 50<|e3 x1 (.at x0 43)<|i 2) J9)
def NR:Fn:=⟨1,[],4,HT⟩
def f75:Fn:=⟨2,[],2,s3 (.ite (.nt<|.bi (.gh .bytes)<|e1 x1) (s1 .bu) .nil) (.af (.at x0 36) x1)<|.af (.at x0 47)<|i 0⟩
abbrev LU:Ss:=s1 (.af y3<|aJ (bZ (i 256) x3)<|.ix (.at x0 36) x4)
def f76:Fn:=⟨2,[],5,s6 (.af y2<|aJ (.at x0 47) x1) (.ite (dF x2<|.bi .len<|e1 (.at x0 36)) (s1 .bu) .nil) (.af y3<|i 0) (.for y4 (.bi .range<|e2 (.at x0 47) x2) LU) (.af (.at x0 47) x2)<|.ret x3⟩
def Yn:Fn:=⟨2,[],4,s4 (.af y2<|.me x0 24<|e1 x1) (.af y3<|bZ (i 128)<|mW (i 256)<|cM x1<|i 1) (.ite (gV x2 x3) (s1<|.ret<|cM x2<|bZ (i 2) x3) .nil)<|.ret x2⟩
def V4:Fn:=⟨2,[],4,s5 (.af y2<|aJ (.at x0 47) x1) (.ite (dF x2<|.bi .len<|e1 (.at x0 36)) (s1 .bu) .nil) (.af y3<|.sl (.at x0 36) (.at x0 47) x2) (.af (.at x0 47) x2)<|.ret x3⟩
def f79:Fn:=⟨1,[],1,d5 (.af (.at x0 38)<|i 0) (.af (.at x0 39)<|i 0) (.af (.at x0 48)<|i 0) (.af (.at x0 49)<|i 0) (.af (.at x0 50)<|i 0) (.af (.at x0 51)<|i 0)<|s4 (.af (.at x0 16)<|.neg<|i 1) (.af (.at x0 52)<|.li aa .nil) (.af (.at x0 42)<|i 0)<|.af (.at x0 35)<|.li ae .nil⟩
def f80:Fn:=⟨3,[],5,s4 (.af (.aj<|t2 y3 y4)<|.tu<|e2 (aJ (.at x0 38) x1)<|aJ (.at x0 39) x2) (.ite (.or (dF (.bi .abs<|e1 x3)<|.g 0)<|dF (.bi .abs<|e1 x4)<|.g 0) (s1 .bu) .nil) (.af (.at x0 38) x3)<|.af (.at x0 39) x4⟩
def f81:Fn:=⟨3,[],3,d5 (.af (.at x0 53) x1) (.af (.at x0 54) x2) (.af (.at x0 43)<|.li ae .nil) (.af (.at x0 37)<|.di ae .nil .nil) (.af (.at x0 45)<|i 0) (.af (.at x0 46)<|i 0)<|s1<|.af (.at x0 42)<|i 0⟩
def W_:Fn:=⟨1,[],2,s3 (.af y1<|.tu<|e3 (.me x0 25<|e1<|i 4) (.me x0 25<|e1<|i 4)<|.me x0 25<|e1<|i 4) (.ite (Gh (.bi .min<|e1 x1)<|i 0) (s1 .bu) .nil)<|.ret x1⟩
abbrev MV:Ss:=s1 (.ret<|.tu<|e2 x3<|.tu<|e5 x4 x5 x6 x7 x9)
abbrev JG:Ss:=kC (.ite (ct (.bi (.list aa)<|e1<|.sl x9 x7<|.c .none)<|.comp aa [] (.at x10 4) (.c<|.bool aa)<|.bi .pd<|e1 x0) (s1 .bu) .nil) MV
def Kc:Fn:=⟨3,[],11,d5 (.af y3<|.me x0 24<|e1<|aJ (cM x1<|.g 41)<|i 1) (.af y4<|.me x0 24<|e1<|i 4) (.af y5<|.me x0 24<|e1<|i 4) (.af y6<|.me x0 24<|e1<|i 4) (.af y7<|.me x0 24<|e1<|i 1) (.af y8<|.me x0 24<|e1<|i 1)<|ur (.af y9<|.me x0 26<|e1<|aJ x7 x8) (.af kb<|.me x2 3<|e1 x3) (.ite (.or (iX x10<|.c .none)<|.or (ct x5 (.at x10 5))<|.nt<|.iN .lt .le (i 0) x6<|.g 10) (s1 .bu) .nil) (.ite (.an (ct x4 (.at x10 7))<|.an (ct x4<|i 0)<|ct (.at x10 7)<|i 0) (s1 .bu) .nil) JG⟩
def f84:Fn:=⟨1,[],1,s1<|.ret<|.iN .le .lt (.g 41) x0<|aJ (.g 41)<|i 4⟩
def Uc:Fn:=⟨4,[],4,s4 (.ite (fK x1<|i 4) (s1<|.ret<|.tu<|e3 (.me x0 25<|e1<|aJ x1<|i 1) x2 x3) .nil) (.ite (fK x1<|i 9) (s2 (.ite (dF x1<|i 4) (s1<|.af y2<|.me x0 25<|e1<|cM x1<|i 4) .nil)<|.ret<|.tu<|e3 x2 x2 x3) .nil) (.ite (dF x1<|i 9) (s1<|.af y3<|.me x0 25<|e1<|cM x1<|i 9) .nil)<|.ret<|.tu<|e3 x3 x2 x3⟩
def f86:Fn:=⟨4,[],5,s4 (.af y4<|.me x2 3<|e1 (.at x0 16)) (.ite (.or (iX x4<|.c .none)<|.or (dF x1<|i 255)<|.nt<|.me x4 15<|e1 x1) (s1 .bu) .nil) (.expr<|.me (.at x0 35) 0<|e1<|.tu<|e5 (.g 74) (.at x0 38) (.at x0 39) (.at x0 16) x1)<|.ite x3 (s1<|.expr<|.me x0 27<|e2 (.me x4 5<|e1 x1)<|i 0) .nil⟩
def ZV:Fn:=⟨3,[],3,s2 (.ite (v5 x1 x2) (s1 .bu) .nil)<|.af (.at x0 16) x1⟩
def S6:Fn:=⟨4,[],6,s3 (.af (.aj<|t2 y4 y5)<|.call 83<|e3 x0 x1 x3) (.ite (sN x4 x2) (s1 .bu) .nil)<|.af (.ix x2 x4) x5⟩
def Ye:Fn:=⟨5,[],7,s1<|.ite (fK x2<|.g 61) (s1<|.expr<|.call 86<|e4 x1 x2 x4<|.c<|.bool aa)<|s1<|.ite (fK x2<|.g 75) (s1<|.expr<|.call 86<|e4 x1 (.me x0 24<|e1<|aJ (cM x2<|.g 61)<|i 1) x4<|.c<|.bool aa)<|s1<|.ite (aS x2<|.g 75) (s1<|.expr<|.call 120<|e3 x0 x1<|.c<|.bool aa)<|s1<|.ite (fK x2<|.g 76) (s1<|.expr<|.call 86<|e4 x1 (.me x0 24<|e1<|aJ (cM x2<|.g 77)<|i 1) x4<|.c<|.bool ae)<|s1<|.ite (aS x2<|.g 76) (s1<|.expr<|.call 120<|e3 x0 x1<|.c<|.bool ae)<|s1<|.ite (aS x2<|.g 78) (s1<|.ret<|.c .none)<|s1<|.ite (aS x2<|.g 57) (s1<|.expr<|.me x1 28 .nil)<|s1<|.ite (aS x2<|.g 58) (s1<|.expr<|.me x1 1 .nil)<|s1<|.ite (.iN .le .lt (.g 55) x2<|.g 56) (s2 (.af (.aj<|t3 y5 (.at x1 48) (.at x1 49))<|.call 85<|e4 x0 (cM x2<|.g 55) (.at x1 48) (.at x1 49))<|.expr<|.me x1 27<|e2 x5<|i 0)<|s1<|.ite (.iN .le .lt (.g 56) x2<|.g 59) (s2 (.af (.aj<|t3 y5 (.at x1 50) (.at x1 51))<|.call 85<|e4 x0 (cM x2<|.g 56) (.at x1 50) (.at x1 51))<|.expr<|.me x1 27<|e2 (i 0) x5)<|s1<|.ite (.iN .le .lt (.g 59) x2<|.g 60) (s1<|.expr<|.call 87<|e3 x1 (cM x2<|.g 59) x3)<|s1<|.ite (.iN .le .lt (.g 60) x2<|.g 79) (s1<|.expr<|.call 87<|e3 x1 (.me x0 24<|e1<|aJ (cM x2<|.g 60)<|i 1) x3)<|s1<|.ite (.iN .le .lt (.g 79) x2<|.g 41) (s2 (.af y6<|.me x0 24<|e1<|aJ (cM x2<|.g 79)<|i 1)<|.expr<|.me (.at x1 35) 0<|e1<|.tu<|e4 (.g 80) (.at x1 38) (.at x1 39)<|.me x0 26<|e1 x6)<|s1<|.ite (.call 84<|e1 x2) (s1<|.expr<|.call 88<|e4 x0 x2 x3 x4)<|s1 .bu⟩
abbrev Hr:Ss:=s2 (.expr<|.call 89<|e5 x0 x5 x6 x2 x3) (.af y6<|.me x0 24<|e1<|i 1)
def Uo:Fn:=⟨4,[],7,d5 (.af y4<|.bi .tuple<|e1<|.comp aa [0] (.bi .range<|e1<|i 10) (.c<|.bool aa)<|.me x1 25<|e1<|i 4) (.ite (ct (.me x0 25<|e1<|i 4) x1) (s1 .bu) .nil) (.af y5<|.new 10 .nil) (.af y6<|.me x0 24<|e1<|i 1) (.while (ct x6<|.g 70) Hr) (.ite (dF (.bi .len<|e1 (.at x5 52))<|i 0) (s1 .bu) .nil)<|s1<|.ret<|.tu<|e2 x4 x5⟩
abbrev Kt:Ss:=s2 (.ite (.call 84<|e1 x4) (s3 (.af (.aj<|t2 y5 y6)<|.call 83<|e3 x0 x4 x2) (.ite (.or (sN x5 x3)<|ct (.me x1 3<|e1 x5) x6) (s1 .bu) .nil)<|.af (.ix x3 x5) x6)<|s1<|.ite (ct x4<|.g 78) (s1 .bu) .nil) (.af y4<|.me x0 24<|e1<|i 1)
def XI:Fn:=⟨3,[],7,s4 (.af y3<|.di ae .nil .nil) (.af y4<|.me x0 24<|e1<|i 1) (.while (ct x4<|.g 72) Kt)<|.ite (ct (.bi .len<|e1 x3)<|.bi .len<|e1 x1) (s1 .bu) .nil⟩
def TW:Fn:=⟨4,[],6,d5 (.af y4<|cM (.at x0 47)<|i 1) (.ite (ct (.me x0 25<|e1<|i 4) x2) (s1 .bu) .nil) (.ite (ct (.call 82<|e1 x0) (.at x1 53)) (s1 .bu) .nil) (.af (.at x1 45)<|.me x0 25<|e1<|i 4) (.af (.at x1 46)<|.me x0 25<|e1<|i 4) (.ite (fK (.me x0 24<|e1<|i 2) (.at x1 42)) (s1 .bu) .nil)<|s5 (.ite (ct (.me x0 24<|e1<|i 2)<|ii (.bi .len<|e1 (.at x1 43))<|i 65536) (s1 .bu) .nil) (.expr<|.call 91<|e3 x0 (.at x1 37) x3) (.ite (.or (ct (.me x0 24<|e1<|i 4) x4)<|ct (.me x0 24<|e1<|i 1)<|.g 67) (s1 .bu) .nil) (.af y5<|.me x0 26<|e1<|cM (.bi .len<|e1 (.at x0 36)) (.at x0 47))<|.ite (.or (fK (.bi .len<|e1 x5)<|i 4)<|ct (.comp aa [] x5 (ct x0<|.g 73) x0)<|.li aa .nil) (s1 .bu) .nil⟩
abbrev tR:Ss:=d5 (.af y2<|.new 9<|e1 x0) (.ite (.or (ct (.me x2 24<|e1<|i 1)<|.g 66)<|ct (.me x2 24<|e1<|i 1)<|.g 67) (s1 .bu) .nil) (.af y3<|.call 82<|e1 x2) (.af y4<|.me x2 24<|e1<|i 1) (.af y5<|.new 11<|e2 x3<|.me x2 26<|e1 x4) (.af y6<|.neg<|i 1) (s6 (.af y7<|.me x2 24<|e1<|i 1) (.while (ct x7<|.g 71)<|s3 (.af y8<|cM (.at x2 47)<|i 1) (.ite (aS x7<|.g 69) (s4 (.af (.aj<|t2 y9 kb)<|.call 90<|e4 x2 x6 (.at x5 37) x1) (.expr<|.me (.at x5 43) 0<|e1<|.tu<|e2 x9<|.bi .tuple<|e1 (.at x10 35)) (.af (.at x5 42)<|.bi .max<|e2 (.at x5 42) (.at x10 42))<|.af y6 x8)<|s1<|.ite (.call 84<|e1 x7) (s1<|.expr<|.call 88<|e4 x2 x7 (.at x5 37) x1)<|s1<|.ite (ct x7<|.g 78) (s1 .bu) .nil)<|.af y7<|.me x2 24<|e1<|i 1) (.expr<|.call 92<|e4 x2 x5 x6 x1) (.wP 5 43) (.wP 5 37)<|.ret<|.gu x5)
def QK:Fn:=⟨2,[],11,tR⟩
abbrev DB:Ss:=s4 (.af (.aj<|t4 y6 y7 y8 y9)<|.ix x4 x3) (.ite (.an (aS x7 x2)<|Gh x6<|.g 6) (s2 (.ite (gV x8<|.g 7) (s1<|.ret<|.tu<|e2 (i 0)<|.ix (.at x0 11)<|aJ (bZ (i 256)<|cM x8<|.g 7) x9) .nil)<|.ret<|.tu<|e2 (aJ (.ite (sN x8<|.g 81) x8<|i 0)<|i 1) x9) .nil) (.af y5<|fK x6<|.g 6) (.af y3<|aJ (aJ x3 x6)<|i 1)
def VK:Fn:=⟨3,[],10,d5 (.af y3<|.me x0 29<|e1 x1) (.ite (.or (fK x3<|i 0)<|aS x2<|.g 11) (s1<|.ret<|.c .none) .nil) (.af y4 (.at x0 10)) (.ite (.an (ct x1<|.g 11)<|dF (.ix (.ix x4 x3)<|i 0)<|.g 6) (s1<|.af y3<|aJ (bZ (i 256)<|.ix (.ix x4 x3)<|i 2)<|.ix (.ix x4 x3)<|i 3) .nil) (.af y5<|.c<|.bool aa) (.while x5 DB)<|s1<|.ret<|.c .none⟩
def YR:Fn:=⟨5,[],5,d5 (.af (.at x0 16) x1) (.af (.at x0 55)<|.comp ae [] (.iz x2) (.c<|.bool aa)<|.tu<|e3 x0 (.tu<|e1 x0)<|.c<|.bool ae) (.af (.at x0 56)<|.ite x3 (.c .none)<|.me (.at x0 55) 1 .nil) (.af (.at x0 57) x4) (.af (.at x0 58)<|.li ae .nil) (.af (.at x0 59)<|.c<|.bool ae)<|s2 (.af (.at x0 60)<|.c<|.bool ae)<|.af (.at x0 61)<|.c<|.bool aa⟩
def Yd:Fn:=⟨1,[],4,s3 (.ite (iX (.at x0 56)<|.c .none) (s1<|.ret<|.c .none) .nil) (.af (.aj<|t3 y1 y2 y3) (.at x0 56))<|.ite x3 (s2 (.expr<|.me (.at x0 58) 0<|e1<|.gu<|.new 3<|e5 (.at x0 16) x1 x2 (.at x0 59)<|.an (.at x0 60)<|aS (.at x0 55)<|.li aa .nil)<|.af (.at x0 59)<|.c<|.bool ae)<|s1<|.expr<|.me (.at x0 58) 0<|e1<|.gu<|.new 2<|e2 (.at x0 16) x1⟩
def f97:Fn:=⟨1,[],1,s2 (.expr<|.call 96<|e1 x0)<|.ite (aS (.at x0 55)<|.li aa .nil) (s1<|.af (.at x0 61)<|.c<|.bool ae)<|s1<|.af (.at x0 56)<|.me (.at x0 55) 1 .nil⟩
def We:Fn:=⟨3,[],10,d5 (.af y3 (.at x0 56)) (.ite (iX x3<|.c .none) (s1<|.af (.at x0 59)<|.c<|.bool aa)<|s1<|.ite (aS (.at x0 55)<|.li aa .nil) (s1<|.af (.at x0 60)<|.c<|.bool aa) .nil) (.af (.aj<|t2 y4 y5)<|.tu<|e2 (aS (ii (hZ x1<|i 2)<|i 2)<|i 1)<|aS (ii x1<|i 2)<|i 1) (.af y6<|.ite (.an (kZ x3<|.c .none)<|.nt x4) (.ix x3<|i 1)<|.tu .nil) (.ite (.an (.nt x5)<|aS (.at x0 55)<|.li aa .nil) (s1<|.af (.at x0 57)<|.g 11)<|s1<|.ite (.nt x5) (s2 (.af y7<|.me (.at x0 55) 1 .nil)<|.af y6<|aJ x6<|.ix x7<|i 1) .nil) (.af y8<|.tu<|e3 x2 x6<|.c<|.bool aa)<|s2 (.ite x4 (s1<|.expr<|.me (.at x0 55) 0<|e1 x8)<|s1<|.af (.at x0 56) x8)<|.for y9 (.bi .range<|e1<|hZ x1<|i 4)<|s1<|.expr<|.call 97<|e1 x0⟩
abbrev Ku:Ss:=s4 (.af y6<|.ite (iX (.at x4 56)<|.c .none) (.g 11)<|.ix (.at x4 56)<|i 0) (.af y7<|.ite (aS (.at x4 55)<|.li aa .nil) (.at x4 57)<|.ix (.ix (.at x4 55)<|.neg<|i 1)<|i 0) (.af y8<|.call 94<|e3 x0 x6 x7) (.ite (iX x8<|.c .none) (s1<|.expr<|.call 97<|e1 x4)<|s1<|.ite (aS (.ix x8<|i 0)<|i 0) (s2 (.expr<|.call 97<|e1 x4)<|.expr<|.me (.at x4 58) 0<|e1<|.gu<|.new 5<|e2 (.ix x8<|i 1)<|.g 19)<|s1<|.ite (aS x5<|i 0) (s1 .bu)<|s2 (.af y5<|cM x5<|i 1)<|.expr<|.call 98<|e3 x4 (cM (.ix x8<|i 0)<|i 1)<|.ix x8<|i 1)
def f99:Fn:=⟨4,[],9,s5 (.ite (aS x1<|.li aa .nil) (s1<|.ret<|.li aa .nil) .nil) (.af y4<|.new 12<|e4 x0 x1 (.an x2<|gV (.me x0 29<|e1<|.g 11)<|i 0) x3) (.af y5<|bZ (.g 82)<|aJ (.bi .len<|e1 x1)<|i 1) (.while (.at x4 61) Ku)<|.ret<|.gu (.at x4 58)⟩
abbrev E5:Ss:=s1 (.ite (.nt<|.call 0<|e3 x4 (i 0)<|i 255) (s1 .bu) .nil)
abbrev J2:Ss:=s4 (.ite (.me x0 15<|e1 x4) (s2 (.expr<|.me x6 0<|e1 x4) .cont) .nil) (.expr<|.me x5 2<|e1<|.call 99<|e4 x0 x6 x7<|.g 11) (.af y6<|.li ae .nil) (.af y7<|.c<|.bool aa)
def TA:Fn:=⟨4,[.bool aa,.bool aa],8,d5 (.for y4 x1 E5) (.af y5<|.li ae .nil) (.af y6<|.li ae .nil) (.af y7 x2) (.for y4 x1 J2) (.expr<|.me x5 2<|e1<|.call 99<|e4 x0 x6 x7<|.ite x3 (.at x0 12)<|.g 11)<|s1<|.ret<|.gu x5⟩
def TV:Fn:=⟨2,[],2,s1<|.ret<|.ite (fK x1<|.bi .len<|e1 x0) (.bi .abs<|e1<|.ix x0 x1)<|.ix (.g 83) x1⟩
def VZ:Fn:=⟨1,[],1,s1<|.ret<|.li ae<|e3 (ii (.bi .max<|e2 (i 0)<|cM x0<|mW (i 10)<|i 18)<|mW (i 10)<|i 90) (ii x0<|i 2147483629)<|i 0⟩
def an3:Fn:=⟨2,[],4,s5 (.ite (dF (.ix x0<|i 0)<|i 0) (s3 (.af y2<|ii (.ix x0<|i 0) x1) (.af (.ix x0<|i 0)<|hZ (.ix x0<|i 0) x1)<|.ret x2) .nil) (.af (.ix x0<|i 2)<|aJ (.ix x0<|i 2)<|i 1) (.af y3<|ii (mW (aJ (aJ (.ix x0<|i 1)<|bZ (i 40961)<|.ix x0<|i 2)<|i 577)<|i 5)<|i 2147483647) (.af y3<|ii (mW (aJ x3<|bZ (i 104729)<|.ix x0<|i 2)<|i 3)<|i 2147483587)<|.ret<|ii (hZ x3<|i 16) x1⟩
abbrev Cm:Ss:=s3 (.af y3<|aJ (.ix (.tu<|e6 (i 0) (i 524288) (i 349525) (i 1048576) (.neg<|i 70000)<|i 2000000)<|.call 103<|e2 x0<|i 6)<|.call 103<|e2 x0<|i 1000) (.af y4<|.ix (.tu<|e3 (i 0) (i 700001)<|.neg<|i 3)<|.call 103<|e2 x0<|i 3) (.expr<|.me x1 0<|e1<|.tu<|e3 x3 x4<|.ix (.tu<|e3 (i 0) (i 200003)<|.neg<|i 5)<|.call 103<|e2 x0<|i 3)
abbrev Ly:Ss:=s1 (.expr<|.me x5 0<|e1<|.tu<|e3 (aJ (i 65) x6) x7<|.ite x7 (.call 103<|e2 x0<|i 2)<|aJ (i 65)<|.call 103<|e2 x0<|.bi .len<|e1 x1)
abbrev F4:Ss:=mz (.af y6<|.call 103<|e2 x0<|.bi .len<|e1 x1) (.af y7<|aS (.call 103<|e2 x0<|i 2)<|i 1) Ly
abbrev N2:Ss:=s3 (.af y8<|.call 103<|e2 x0<|i 65536) (.af y9<|bZ (i 65536)<|aJ (i 5)<|.call 103<|e2 x0<|i 10) (.ret<|.gu<|.tu<|e4 x1 x5 x8<|aJ x9<|.call 103<|e2 x0<|i 16)
abbrev Hp:Ss:=kC (.for y2 (.bi .range<|e1<|.call 103<|e2 x0<|i 4) F4) N2
def K0:Fn:=⟨1,[],10,uk (.af y1<|.li ae .nil) (.for y2 (.bi .range<|e1<|aJ (i 2)<|.call 103<|e2 x0<|i 3) Cm) (.af y5<|.li ae .nil) Hp⟩
abbrev AF:Ss:=s1 (.expr<|.me x7 0<|e1<|aJ (bZ (aJ x8<|i 1)<|i 17891328)<|.ite (.an (aS x8<|i 0)<|ct x2<|.li aa .nil) (i 256)<|i 0)
abbrev Eh:Ss:=s1 (.af y7<|HJ (aJ x7<|.li aa<|e1<|i 0)<|.comp aa [9] x1 (.c<|.bool aa)<|.ix x0 x1)
abbrev EY:Ss:=s2 (.af sH<|.ite (aS (aJ x8<|i 1)<|.bi .len<|e1 x2) (i 128)<|i 0) (.expr<|.me x7 0<|e1<|aJ (aJ (aJ (bZ cA<|i 16777216)<|bZ (.ix x10<|i 0)<|i 65536)<|.ite (.ix x10<|i 1) (bZ (i 128)<|i 256)<|i 0)<|.ix x10<|i 2)
abbrev Qk:Ss:=s1 (.ret<|aJ (aJ x7<|.li aa<|e2 (.neg<|i 30001)<|i 50002)<|.li aa<|e2 (i 1000)<|i 349525)
abbrev N5:Ss:=ur (.for y8 (.bi .range<|e1 x5) AF) (.for y9 (.bi .range<|e1<|i 3) Eh) (.expr<|.me x7 0<|e1<|i 0) (.for (.aj<|t2 y8 kb) (.bi .kz<|e1 x2) EY) Qk
abbrev Nn:Ss:=yB (.af (.aj<|t4 y1 y2 y3 y4) x0) (.af y5<|.bi .len<|e1 x1) (.af y6<|.li ae<|wz (i 0) (i 2) (i 65) (aJ (i 64) x5) (aJ x5<|i 1) (aJ x5<|i 1)<|e6 (aJ x5<|i 1) (i 1) (.bi .len<|e1 x2) (i 2) (i 0)<|i 2) (.af (.ix x6<|i 0)<|aJ (aJ (i 8) x5)<|.bi .sum<|e1<|.sl x6 (i 4)<|.c .none) (.af y7<|HJ (.comp aa [6] (.bi .range<|e3 (i 0) (i 12)<|i 2) (.c<|.bool aa)<|aJ (bZ (.ix x1 x0)<|i 65536)<|.ix x1<|aJ x0<|i 1)<|.li aa<|e2 x3<|bZ (i 16) x4) N5
def IH:Fn:=⟨1,[],12,Nn⟩
abbrev KJ:Ss:=s1 (.af y1<|aJ x1<|.li aa<|e4 (ii (Bq x2<|i 24)<|i 256) (ii (Bq x2<|i 16)<|i 256) (ii (Bq x2<|i 8)<|i 256)<|ii x2<|i 256)
def Pb:Fn:=⟨1,[],3,s3 (.af y1<|.li aa .nil) (.for y2 x0 KJ)<|.ret<|.bi .bytes<|e1 x1⟩
def av7:Fn:=⟨2,[],3,s3 (.af y2<|i 1) (.while (gV x1<|bZ x2<|mW (i 2)<|i 23)<|s1<|.af y2<|bZ (i 2) x2)<|.ret<|hZ (bZ x0<|cM x1<|ii x1 x2)<|mW (i 2)<|i 20⟩
abbrev JQ:Ss:=s1 (.ite (v5 (.ix x10<|i 0) x7) (s1<|.af (.ix x7<|.ix x10<|i 0) x10) .nil)
abbrev Oc:Ss:=s1 (.expr<|.me x8 0<|e1<|aJ (.tu<|e1 x9)<|.bi .tuple<|e1<|.comp aa [2] (.ix x3<|cM x9<|i 65) (.c<|.bool aa)<|.call 107<|e2 x0 x1)
abbrev JH:Ss:=s1 (.expr<|.me x8 0<|e1<|.tu<|e4 (.c .none) (.call 107<|e2 (.ix (.tu<|e2 (.neg<|i 30001)<|i 50002)<|.ix x10<|i 2) x2) (i 0)<|i 0)
abbrev O0:Ss:=s1 (.af y9<|.ite (.iN .le .lt (i 65) cA<|aJ (i 65)<|.bi .len<|e1 x3) cA<|.c .none)
abbrev Nv:Ss:=mz (.ite (kZ x9<|.c .none) Oc .nil) (.ite (kZ x10<|.c .none) JH .nil) O0
abbrev Na:Ss:=kC (.ite (.an (kZ x10<|.c .none)<|.nt<|.ix x10<|i 1) (s2 (.af y9<|.ix x10<|i 2) .cont) .nil) Nv
abbrev De:Ss:=kC (.af kb<|.ite (aS x9<|i 65) (.me x7 3<|e1 cA)<|.c .none) Na
abbrev CA:Ss:=s1 (.ret<|.gu x8)
def HI:Fn:=⟨3,[],12,ur (.af (.aj<|t4 y3 y4 y5 y6) x0) (.af (.aj<|t3 y7 y8 y9)<|.tu<|e3 (.di ae .nil .nil) (.li ae .nil)<|.c .none) (.for kb x4 JQ) (.for sH (aJ x1<|.li aa<|e1<|i 0) De) CA⟩
def wN:Fn:=⟨4,[],4,s1<|.tr<|s1<|.ret<|.call 30<|e5 x0 x1 (.ix (.tu<|e2 (.c<|.str<|eG "fa")<|.c<|.str<|eG "fb")<|cM x1<|i 1) x2 x3⟩
abbrev PP:Ss:=s1 (.expr<|.me cA 0<|e1<|.comp aa [3,1] (.bi .range<|e1<|.call 103<|e2 x3<|i 5) (.c<|.bool aa)<|aJ (i 65)<|.call 103<|e2 x1<|aJ (.bi .len<|e1<|.ix x2<|i 0)<|i 1)
abbrev I3:Ss:=s1 (.ret<|.c<|.bool ae)
abbrev AG:Ss:=s2 (.ite (kZ (.ix dZ<|i 1)<|.c .none) (s1<|.expr<|.me F0 0<|e1<|.tu<|e5 (i 0) mj (aJ x7 nQ) (.ix dZ<|i 0)<|.ix dZ<|i 1) .nil) (.af IE<|aJ mj<|.ix dZ<|i 2)
abbrev QY:Ss:=s1 (.ret<|.c<|.bool ae)
abbrev Ea:Ss:=s1 (.ite (.an (kZ x24<|.c .none)<|ct x24<|.tu<|e5 (.ix x1<|i 2) (.ix x8<|cM lA<|i 1) (.ix x1<|i 3) (i 0)<|.ix (.tu<|e2 (.c<|.a8 [102,97])<|.c<|.a8 [102,98])<|cM lA<|i 1) (s1<|.ret<|.c<|.bool ae) .nil)
abbrev ND:Ss:=mz (.af UJ<|.me (.at xJ 37) 3<|e1 lA) (.ite (ct (kZ x24<|.c .none)<|sN lA<|.comp aa [] F0 (.c<|.bool aa)<|.ix x0<|i 3) QY .nil) Ea
abbrev Gq:Ss:=s2 (.for y23 (.tu<|e2 (i 1)<|i 2) ND) (.ret<|.c<|.bool aa)
abbrev xH:Ss:=kC (.ite (ct (.at xJ 43)<|.li aa<|e1<|.tu<|e2 (.tu<|wz (i 3) (i 0) (i 0) (i 0) (i 0) (i 0)<|e4 (i 0) (i 0) (i 0)<|i 0)<|.bi .tuple<|e1 F0) (s1<|.ret<|.c<|.bool ae) .nil) Gq
abbrev F8:Ss:=mz (.af (.aj<|t2 y20 IE)<|.tu<|e2 (.li ae .nil) x6) (.for y22 mJ AG) xH
abbrev FS:Ss:=uk (.af ZR<|.new 8<|e1<|i 2) (.expr<|.me yz 30<|e4 lX (.tu<|e1<|i 3) x6 x7) (.af XJ<|.call 93<|e2 (.me yz 31 .nil) pZ) F8
abbrev HP:Ss:=yB (.af CQ<|.di aa (e2 (i 1)<|i 2)<|e2 x9 x10) (.af Em<|.ix (.call 49<|e1<|aJ (.call 100<|e2 x9<|.ix cA<|i 0)<|.call 100<|e2 x10<|.ix cA<|i 1)<|i 0) (.af Lz<|aJ (.comp aa [] (.call 108<|e3 x1 (.ix cA<|i 0)<|.ix x8<|i 0) (.c<|.bool aa)<|aJ (.tu<|e1<|i 1) x0)<|.comp aa [] (.call 108<|e3 x1 (.ix cA<|i 1)<|.ix x8<|i 1) (.c<|.bool aa)<|aJ (.tu<|e1<|i 2) x0) (.af (.aj<|t2 LN UW)<|.tu<|e2 (.bi .max<|e1<|aJ (.li aa<|e1<|i 0)<|.comp aa [] mJ (.c<|.bool aa)<|.ix x0<|i 3)<|.bi .max<|e1<|aJ (.li aa<|e1<|i 0)<|.comp aa [] mJ (.c<|.bool aa)<|.ix x0<|i 4) (.ite (ct (.tu<|e3 (.at lX 22) (.at lX 23) (.at lX 24))<|.tu<|e3 (.bi .sum<|e1<|.comp aa [] mJ (.c<|.bool aa)<|.ix x0<|i 2) nQ tT) I3 .nil) FS
abbrev xa:Ss:=uk (.af y3<|.call 102<|e1<|.call 101<|e2 x0<|i 2) (.af sH<|.li ae .nil) (.for zd (.bi .range<|e1<|i 2) PP) HP
abbrev q_:Ss:=mz (.ite (.or (iX x9<|.c .none)<|ct (iX x10<|.c .none)<|.nt<|.iN .le .le (i 1) x5<|i 32768) (s1<|.ret<|.c<|.bool ae) .nil) (.ite (iX x10<|.c .none) (s1<|.af (.aj<|t2 kb<|.ix x8<|i 1)<|.tu<|e2 (.call 109<|e4 x2 (i 2) x4<|i 0) x4) .nil) xa
def FX:Fn:=⟨1,[],25,d5 (.af y1<|.call 104<|e1<|.call 102<|e1<|.call 101<|e2 x0<|i 0) (.af y2<|.call 106<|e1<|.call 105<|e1 x1) (.af y3<|.call 102<|e1<|.call 101<|e2 x0<|i 1) (.af y4<|.ix (.tu<|e6 (i 655360) (i 786432) (i 1000003) (i 8388609) (i 70001)<|i 1)<|.call 103<|e2 x3<|i 6) (.af y5<|.ix (.tu<|wz (i 1) (i 500) (i 1000) (i 1200) (i 2986) (i 32768)<|e3 (i 0) (i 32769)<|i 7)<|.call 103<|e2 x3<|i 9) (.af (.aj<|t2 y6 y7)<|.tu<|e2 (.call 103<|e2 x3<|i 1000)<|.call 103<|e2 x3<|i 1000)<|mz (.af y8<|.li ae<|e2 x4<|hZ (bZ (.ix x1<|i 3) x5)<|i 1000) (.af (.aj<|t2 y9 kb)<|.tu<|e2 (.call 109<|e4 x2 (i 1) x4<|i 0)<|.call 109<|e4 x2 (i 2) (i 0) x5) q_⟩
end
def Nb:List<|Nat×Fn:=[(0,f0),(1,f1),(2,f2),(3,f3),(4,f4),(5,f5),(6,f6),(7,f7),(8,f8),(9,f9),(10,f10),(11,QV),(12,f12),(13,f13),(14,Tl),(15,Zj),(16,f16),(17,Yl),(18,f18),(19,Vg),(20,f20),(21,Z8),(22,f22),(23,Ic),(24,f24),(25,UY),(26,f26),(27,VL),(28,UL),(29,wR),(30,vP),(31,f31),(32,f32),(33,f33),(34,f34),(35,f35),(36,f36),(37,WR),(38,SZ),(39,f39),(40,f40),(41,f41),(42,f42),(43,TD),(44,Yb),(45,f45),(46,f46),(47,f47),(48,TF),(49,f49),(50,WJ),(51,W2),(52,f52),(53,Za),(54,f54),(55,Ke),(56,f56),(57,MD),(58,QN),(59,Gp),(60,Wm),(61,f61),(62,NC),(63,Kx),(64,Ja),(65,IL),(66,f66),(67,I7),(68,f68),(69,K9),(70,JA),(71,f71),(72,f72),(73,NN),(74,NR),(75,f75),(76,f76),(77,Yn),(78,V4),(79,f79),(80,f80),(81,f81),(82,W_),(83,Kc),(84,f84),(85,Uc),(86,f86),(87,ZV),(88,S6),(89,Ye),(90,Uo),(91,XI),(92,TW),(93,QK),(94,VK),(95,YR),(96,Yd),(97,f97),(98,We),(99,f99),(100,TA),(101,TV),(102,VZ),(103,an3),(104,K0),(105,IH),(106,Pb),(107,av7),(108,HI),(109,wN),(110,FX)]
noncomputable def HL:List<|Nat×V:=[(0,.int 2147483647),(1,.int 1073741823),(2,.int 0),(3,.int 3),(4,.int 1),(5,.int 2),(6,.int 128),(7,.int 128),(8,.int 255),(9,.int 255),(10,.int 134217727),(11,.int 256),(12,.int 64),(13,.aj [.int 0,.int 0,.int 0,.int 0,.int 0,.int 0]),(14,.int 32767),(15,.int 65536),(16,.int 2),(17,.int 3),(18,.int 0),(19,.int 0),(20,.int 3),(21,.int 0),(22,.int 1),(23,.int 5),(24,.int 12),(25,.int 14),(26,.int 4),(27,.int 6),(28,.int 8),(29,.int 0),(30,.int 0),(31,.int 1),(32,.int 2),(33,.int 3),(34,.int 2),(35,.int 1),(36,.int 0),(37,.int 1),(38,.int 25400000),(39,.int 473628672),(40,.int 1000),(41,.int 243),(42,.int 0),(43,.int 4),(44,.int 4),(45,.int 9),(46,.int 0),(47,.int 1),(48,.int 5),(49,.int 2),(50,.int 1),(51,.int 5),(52,.int 2),(53,.int 10),(54,.int 3),(55,.int 143),(56,.int 157),(57,.int 141),(58,.int 142),(59,.int 171),(60,.int 235),(61,.int 128),(62,.int 13),(63,.int 0),(64,.aj [.int 5,.int 6,.int 7,.int 9,.int 10,.int 11,.int 12]),(65,.int 60),(66,.int 247),(67,.int 2),(68,.str<|eG "gluepage"),(69,.int 139),(70,.int 140),(71,.int 248),(72,.int 249),(73,.int 223),(74,.int 0),(75,.int 132),(76,.int 137),(77,.int 133),(78,.int 138),(79,.int 239),(80,.int 2),(81,.aj [.int 0,.int 1,.int 2,.int 3,.int 5,.int 6,.int 7,.int 11]),(82,.int 20),(83,.aj [.int 667883746520804040339592396131,.int 1000000000055096219,.int 1000000000000658403])]
noncomputable def tO:List<|Nat×List Nat:=[(0,[0,1,2]),(1,[3,4,5,6,7,8,9,10,11,12,13,14,15]),(2,[16,17]),(3,[16,17,18,19,20]),(4,[21,22,23,24,25,26,27,28,29]),(5,[22,30]),(6,[34,35]),(7,[36,37,24,38,39,16,40,41,42]),(8,[24,36,37,43,44,45,46,42]),(9,[36,47]),(10,[38,39,48,49,50,51,16,52,42,35]),(11,[53,54,43,37,45,46,42]),(12,[16,55,56,57,58,59,60,61])]
noncomputable def YW:List Nat:=[9999,9999,9999,9999,25,22,23,24,9999,9999,9999,9999,9999,9999,9999,9999,9999,9999,9999,9999,9999,9999,9999,9999,3,9999,9999,9999,9999,9999,9999,9999]
noncomputable def w7:List<|Nat×Nat:=[(0,5),(1,13),(2,33),(3,34),(4,35),(5,36),(6,56),(7,61),(8,72),(9,75),(10,79),(11,81),(12,95)]
noncomputable def qw:List<|Nat×List (Nat×Nat):=[(0,[(9,6)]),(1,[(15,14),(5,15),(6,16),(7,17),(29,18)]),(6,[(13,57),(14,58),(12,59)]),(7,[(22,62),(23,63),(16,64),(17,65),(18,66),(19,67)]),(8,[(30,73),(31,74)]),(9,[(24,76),(25,77),(26,78)]),(10,[(27,80)])]
noncomputable def xd:List<|Nat×List (Nat×V):=[(2,[(21,.int 0)]),(3,[(21,.int 1)]),(5,[(21,.int 5)])]
noncomputable def I:lR where
 gF:=bc HL
 vH c f:=match bc xd c with|U l=>bc l f|.none=> .none
 nq c m:=match bc qw c with|U l=>bc l m|.none=> .none
 mf m:=match ah YW m with|U f=>f|.none=>9999
 nG c f:=match bc tO c with|U l=>l.contains f|.none=>ae
 kT:=bc w7
 fn:=bc Nb
noncomputable def gz:List Str:=(["natural","stretch","shrink","number","name","size","design","check","params","chars","program","kerns","boundary","edge_start","hyphen_char","skew_char","font","code","parts","left","right","kind","width","height","depth","items","shift","sign","order","ratio","sort","glue","middle","leader","plain","rows","octets","fonts","h","v","across","down","deepest","pages","last","tallest","widest","at","w","x","y","z","stack","units","comment","waiting","now","edge","found","hit_left","hit_right","is_going"]:List String).map eG
noncomputable def Li:List Str:=(["append","pop","extend","get","items","width","height","depth","add","widen","stretch_top","shrink_top","hit","prune","move","has","go_across","go_down","choose","letter","special","rule","open","close","number","signed","taken","go","push","starts","ship","done"]:List String).map eG
noncomputable def Tv:List Str:=(["MAX_NUMBER","MAX_DIMEN","PLAIN_SORT","PIECES_SORT","PROGRAM_SORT","LARGER_SORT","STOP_SKIP","KERN_OP","LEAD","MOST_FONTS","MOST_SIZE","EDGE","MOST_PARAMS","NO_CHARACTER","LONGEST","UNITY","HBOX","VBOX","NATURAL","FONT_KERN","MU_KERN","CHAR","LIGATURE","KERN","MATH","UNSET","RULE","GLUE","DISC","NORMAL","FINE","LOOSE","TIGHT","OVERFULL","SHRUNK","STRETCHED","EXACTLY","SPREAD","NUMERATOR","DENOMINATOR","MAGNIFICATION","FONT_DEF_1","FREE","IS_FIRST","FIRST_AGAIN","SECOND_AGAIN","NONE_SEEN","FIRST_SEEN","IS_SECOND","SECOND_SEEN","FIRST_FREE","FIRST_SET","SECOND_FREE","SECOND_SET","FIXED","RIGHT_1","DOWN_1","PUSH","POP","FONT_0","FONT_1","SET_1","SPECIAL","FOR_DEVICE","SILENT_ACROSS","DEEPEST_BOXES","PREAMBLE","IDENTITY","COMMENT_TEXT","PAGE_BEGIN","PAGE_END","POSTAMBLE","POST_POST","FILLING","CHAR_ROW","SET_RULE","PUT_RULE","PUT_1","NO_OPERATION","SPECIAL_1","SPECIAL_ROW","KNOWN_OPS","STEPS","_law_chosen"]:List String).map eG
noncomputable def fnL:List Str:=(["is_whole","check_whole","check_number","check_dimen","rounded","__init__","widen","is_size","check_sizes","check_chars","check_larger","check_program","left_start","__init__","has","width","height","depth","starts","size_parts","scaled_product","read_counts","read_sizes","read_rows","read_slots","read_chars","read_params","read_design","read_tfm","read_scaled","load_metrics","right_code","check_code","__init__","__init__","__init__","__init__","width_of","height_of","depth_of","line_height","line_depth","natural_line","set_glue","set_part","part_size","places","goal_size","set_box","hpack","put_number","put_signed","put_counted","put_units","define_font","check_place","__init__","prune","move","hit","barred","__init__","open","close","go_across","go_down","choose","letter","parts_of","across_part","out_box","check_page","__init__","ship","done","__init__","number","signed","taken","__init__","go","__init__","read_units","read_font","is_font_definition","read_move","read_letter","choose_font","add_font","page_step","read_page","read_post_fonts","read_postamble","read_file","look","__init__","leave","pass_on","put_between","word_nodes","run","_law_cell","_law_bag","_law_draw","_law_metrics","_law_words","_law_octets","_law_at","_law_joined","_law_loaded","law","check_pieces","badness","quotient","check_column","flex","moved","leader_places","with_rule_sizes","down_part","read_rule"]:List String).map eG
noncomputable def kU:List Str:=(["Totals","Font","Char","Ligature","Box","Kern","Moves","PageWriter","DviWriter","OctetStream","PageState","Device","Word"]:List String).map eG
noncomputable def am4:List ai:=[219,371,509,529,550,571,817,901,970,1016,1058,1079,1191]
noncomputable def sP:List ai:=[125,132,139,146,153,181,195,239,246,260,267,274,281,298,305,312,319,326,340,382,389,394,399,404,411,418,425,432,440,447,454,461,492,506,526,547,568,580,585,590,597,604,631,652,666,673,680,694,701,709,746,753,760,767,772,779,793,800,807,814,828,842,849,856,863,870,877,884,912,917,929,936,951,960,967,992,999,1006,1013,1034,1055,1076,1090,1095,1102,1109,1116,1130,1137,1144,1149,1156,1161,1168,1176,1188,1202,1209,1216,1223,1231,1239,1246,1253,1260,1265,1272,1279,1284,1291,1296,253,160,645,638,659,687,609,616,922,1123]
noncomputable def nm(l:List Str)(k:Nat):Str:=match ah l k with|U s=>s|.none=>""
abbrev cN(k:Nat):Str:=nm gz k
abbrev kH(k:Nat):Str:=nm Li k
abbrev rK(k:Nat):Str:=nm Tv k
abbrev rN(k:Nat):Str:=nm fnL k
abbrev tt(k:Nat):Str:=nm kU k
noncomputable def Je(l:List ai)(k:Nat):ai:=match ah l k with|U s=>s|.none=>0
abbrev dL(k:Nat):ai:=Je am4 k
abbrev bQ(k:Nat):ai:=Je sP k
noncomputable def ac9:List<|Nat×List Str:=[(21,["octets","counts","count","whole","header","first","last"]),(22,["octets","at","many","size","reduced","factor"]),(23,["octets","at","many"]),(34,["self","font","code","parts","left","right"]),(37,["node","kind"]),(38,["node","kind"]),(39,["node","kind"]),(54,["octets","font","mark"]),(69,["page","box","row","left","base","item","h","kind","shape","size","width","height","depth"]),(83,["stream","opcode","fonts","number","check","size","design","area","length","name","font"]),(90,["stream","last","known","fonts","counts","state","opcode"]),(92,["stream","device","last","fonts","begin","rest"]),(95,["self","font","codes","has_left","edge"]),(105,["font","letters","rows","check","design","many","counts","found","k","which","row","jump"]),(108,["font","codes","size","letters","rows","check","design","table","found","now","row","code"]),(110,["script","made","octets","bag","size","scale","left","top","sizes","one","other","texts","k","fonts","box","parts","tall","deep","writer","device","due","at","row","which","told"])]
end c6
namespace c6.La
open gY lT cy gi jp oy qx kj nI hQ j3 lq tN cn tv r7 sO rX lk oI nJ
open PySem
theorem H.le_refl(h:H):H.le h h:=λ_ _ e=>e
theorem H.le_trans{h k l}(a:H.le h k)(b:H.le k l):H.le h l:=λx o e=>b x o (a x o e)
theorem H.kM(h:H)(a:ai)(o:O):(h.cr a o) a=U o:=aM rfl
theorem H.jN{h:H}{a b}{o}(e:b≠a):(h.cr a o) b=h b:=aE e
theorem H.S5{h k}{a}{o}(l:H.le h k)(f:h a=Y):H.le h<|k.cr a o:=λx p e=>by
 by_cases z:x=a
 ·subst z;rw[f] at e;cases e
 ·rw[H.jN z];exact l _ _ e
theorem H.am6{h:H}{a b}{o}(x:h a=U o)(y:h b=Y):a≠b:=λe=>by subst e;rw[x] at y;cases y
theorem H.UI{h:H}{a b}{o}(y:(h.cr a o) b=Y):b≠a/\h b=Y:=by
 by_cases z:b=a
 ·subst z;rw[H.kM] at y;cases y
 ·rw[H.jN z] at y;exact⟨z,y⟩
abbrev ie(Q:V->H->Prop):Fl->L->H->Prop:=λfl _ h=> ∃h',H.le h' h/\Q (wu fl) h'
theorem e9{d f}{fn}{vs}{ρ}{h}{Q}(hf:I.fn f=U fn)(hb:oT fn vs=U ρ)
  (x:aZ I (al I d) fn.body ρ h<|ie Q):al I (d+1) f vs h Q:=by
 show(I.fn f).elim False _
 rw[hf]
 show(oT fn vs).elim False _
 exact hb▸x
open Classical in
theorem Zn{p}(h:p):fC p=aa:=decide_eq_true h
open Classical in
theorem LS{p}(h: ¬p):fC p=ae:=decide_eq_false h
noncomputable abbrev oh(C:cZ)(r:Ss)(P:Fl->L->H->Prop):Fl->L->H->Prop:=λf ρ h=>match f with|.next=>aZ I C r ρ h P|f=>P f ρ h
abbrev kkn(P:Fl->L->H->Prop)(ρ:L):V->H->Prop:=λ_ h=>P .next ρ h
abbrev kka(C:cZ)(t:Tg)(ρ:L)(J:L->H->Prop):V->H->Prop:=λv h=>af I C t v ρ h J
abbrev yS(C:cZ)(a:Ss)(ρ:L)(P:Fl->L->H->Prop):H->Prop:=λh=>aZ I C a ρ h P
abbrev cq(C:cZ)(t:Tg)(b:Ss):V->L->H->(Fl->L->H->Prop)->Prop:=λv ρ h Q=>af I C t v ρ h λρ h=>aZ I C b ρ h Q
abbrev kki(B:V->L->H->(Fl->L->H->Prop)->Prop)(ρ:L)(P:Fl->L->H->Prop):It:=λxs g h=>du B g xs ρ h P
abbrev I2(P:Fl->L->H->Prop)(ρ:L):V->H->Prop:=λv h=>P (.ret v) ρ h
abbrev Ta(C:cZ)(r:ig)(vs:List V)(J:L->H->Prop):L->H->Prop:=λρ h=>lO I C r vs ρ h J
abbrev kkb(o:jM)(b:V)(Q:V->H->Prop):V->H->Prop:=λa h=>gY h Q o b a
abbrev Tj(C:cZ)(o:jM)(b:E)(ρ:L)(Q:V->H->Prop):V->H->Prop:=λa h=>(ao I C b ρ).v h (kkb o a Q)
abbrev kkg(Q:V->H->Prop):V->H->Prop:=λv h=>r7 h Q v
abbrev X4(Q:V->H->Prop):V->H->Prop:=λv h=>sO h Q v
abbrev Yw(C:cZ)(b:E)(ρ:L)(Q:V->H->Prop):V->H->Prop:=λv h=>lB ((ao I C b ρ).v h Q) (Q (.bool ae) h) v
abbrev VV(Q:V->H->Prop)(h:H):Prop->Prop:=λp=>Q (.bool<|fC p) h
abbrev kkc(o:mX)(b:V)(Q:V->H->Prop):V->H->Prop:=λa h=>cy h (VV Q h) o b a
abbrev aK8(C:cZ)(o:mX)(b:E)(ρ:L)(Q:V->H->Prop):V->H->Prop:=λa h=>(ao I C b ρ).v h (kkc o a Q)
abbrev aj9(Q:V->H->Prop):List V->H->Prop:=λvs h=>Q (.aj vs) h
abbrev as7(Q:V->H->Prop):List V->H->Prop:=λvs h=>Q (.fl vs) h
abbrev al9(Q:V->H->Prop):List V->H->Prop:=λvs h=> ∀a,h a= .none->Q (.ref a) (h.cr a<|.list vs)
abbrev VT(f:Nat)(Q:V->H->Prop):V->H->Prop:=λv h=>kj I h Q v f
abbrev aa3(v:V)(Q:V->H->Prop):V->H->Prop:=λi h=>gi h Q v i
abbrev Yk(C:cZ)(i:E)(ρ:L)(Q:V->H->Prop):V->H->Prop:=λv h=>(ao I C i ρ).v h (aa3 v Q)
abbrev ap7(v l:V)(Q:V->H->Prop):V->H->Prop:=λu h=>jp h Q v l u
abbrev Vt(C:cZ)(u:E)(ρ:L)(v:V)(Q:V->H->Prop):V->H->Prop:=λl h=>(ao I C u ρ).v h (ap7 v l Q)
abbrev af0(C:cZ)(l u:E)(ρ:L)(Q:V->H->Prop):V->H->Prop:=λv h=>(ao I C l ρ).v h (Vt C u ρ v Q)
abbrev Zu(Q:V->H->Prop):V->H->Prop:=λv h=>oy h Q v
abbrev XC(C:cZ)(f:Nat)(Q:V->H->Prop):List V->H->Prop:=λvs h=>C f vs h Q
abbrev S_(Q:V->H->Prop)(a:ai):V->H->Prop:=λv h=>rX (Q (.ref a) h) v
abbrev WG(C:cZ)(c f:Nat)(Q:V->H->Prop):List V->H->Prop:=λvs h=> ∀a,h a= .none->C f (.ref a::vs) (h.cr a<|.aK c []) (S_ Q a)
abbrev Ug(b:Bi)(Q:V->H->Prop):List V->H->Prop:=λvs h=>cn h Q b vs
abbrev Tx(v:V)(K:List V->H->Prop):List V->H->Prop:=λvs h=>K (v::vs) h
abbrev Ym(C:cZ)(r:Es)(ρ:L)(K:List V->H->Prop):V->H->Prop:=λv h=>cU I C r ρ h (Tx v K)
abbrev yh(T F:H->Prop):V->H->Prop:=λv h=>tv h T F v
abbrev MK(C:cZ)(b:E)(ρ:L)(T F:H->Prop):H->Prop:=λh=>(ao I C b ρ).t h T F
abbrev kkj(T F:H->Prop)(h:H):Prop->Prop:=λp=>(p->T h)/\(¬p->F h)
abbrev TN(o:mX)(b:V)(T F:H->Prop):V->H->Prop:=λa h=>cy h (kkj T F h) o b a
abbrev aL4(C:cZ)(o:mX)(b:E)(ρ:L)(T F:H->Prop):V->H->Prop:=λa h=>(ao I C b ρ).v h (TN o a T F)
abbrev pc(K:It):V->H->Prop:=λv h=>hQ h K v
abbrev aK2(K:It):List V->H->Prop:=λvs h=>j3 h K vs
abbrev aa7(K:It):List V->H->Prop:=λvs h=>lq h K vs
abbrev aB7(C:cZ)(a:H->(List V->H->Prop)->Prop)(m:Nat)(Q:V->H->Prop):V->H->Prop:=λv h=>lk I C h a Q m v
abbrev p8(C:cZ)(cond a:E)(b:L):V->H->(Option V->H->Prop)->Prop:=λv h K=>(ao I C cond<|U v::b).t h (λh=>(ao I C a<|U v::b).v h λw h=>K (U w) h) λh=>K .none h
section rules
variable{C:cZ}{ρ ρ':L}{h:H}{Q:V->H->Prop}{T F:H->Prop}{K:It}{P:Fl->L->H->Prop}
theorem gg(k:P .next ρ h):aZ I C .nil ρ h P:=k
theorem bA{s}{r}(k:ex I C s ρ h<|oh C r P):aZ I C (.cons s r) ρ h P:=k
theorem h_{e}(k:(ao I C e ρ).v h<|kkn P ρ):ex I C (.expr e) ρ h P:=k
theorem mA{t}{e}(k:(ao I C e ρ).v h<|kka C t ρ<|P .next):ex I C (.af t e) ρ h P:=k
theorem E2{t}{a b}(k:(ao I C t ρ).t h (yS C a ρ P)<|yS C b ρ P):ex I C (.ite t a b) ρ h P:=k
theorem iC{t}{a}{b}(k:(ao I C a ρ).i h<|kki (cq C t b) ρ P):ex I C (.for t a b) ρ h P:=k
theorem mL{e}(k:(ao I C e ρ).v h<|I2 P ρ):ex I C (.ret e) ρ h P:=k
theorem eI{i}{v}{J}(k:J (cY ρ i v) h):af I C (.x i) v ρ h J:=k
theorem ad5{a}{l}{J}(hl:bF l.length (oZ a)=aa)(k:lO I C a l ρ h J):match bF l.length (oZ a) with|aa=>lO I C a l ρ h J|ae=>False:=by rw[hl];exact k
theorem Di{a}{l}{J}(hl:bF l.length (oZ a)=aa)(k:lO I C a l ρ h J):af I C (.aj a) (.aj l) ρ h J:= .B8 (ad5 hl k)
theorem BF{J}(k:J ρ h):lO I C .nil [] ρ h J:=k
theorem tA{t}{r}{v}{vs}{J}(k:af I C t v ρ h<|Ta C r vs J):lO I C (.cons t r) (v::vs) ρ h J:=k
theorem bl{v}(k:Q v h):(ao I C (.c v) ρ).v h Q:=k
theorem ap{i}{v}(hv:ah ρ i=U (U v))(k:Q v h):(ao I C (.x i) ρ).v h Q:=by
 show gj _ _ _;unfold gj;rw[hv];exact k
theorem oA{i}{v}(hv:I.gF i=U v)(k:Q v h):(ao I C (.g i) ρ).v h Q:=by
 show(match I.gF i with|U v=>Q v h|.none=>False);rw[hv];exact k
theorem eC{o}{a b}(k:(ao I C a ρ).v h<|Tj C o b ρ Q):(ao I C (.dT o a b) ρ).v h Q:=k
theorem v2{a}(k:(ao I C a ρ).v h<|kkg Q):(ao I C (.neg a) ρ).v h Q:=k
theorem VN{a}(k:(ao I C a ρ).v h<|X4 Q):(ao I C (.nt a) ρ).v h Q:=k
theorem PJ{a b}(k:(ao I C a ρ).v h<|Yw C b ρ Q):(ao I C (.an a b) ρ).v h Q:=k
theorem Pj{o}{a b}(k:(ao I C a ρ).v h<|aK8 C o b ρ Q):(ao I C (.eY o a b) ρ).v h Q:=k
theorem al3{o p}{a b d}(k:(ao I C a ρ).v h λf h=>(ao I C b ρ).v h λc h=>cy h (λr=>(r->(ao I C d ρ).v h λe h=>cy h (λr=>Q (.bool<|fC r) h) p c e)/\(¬r->Q (.bool ae) h)) o f c):(ao I C (.iN o p a b d) ρ).v h Q:=k
theorem nZ{a}(k:cU I C a ρ h<|aj9 Q):(ao I C (.tu a) ρ).v h Q:=k
theorem w4{a}(k:cU I C a ρ h<|as7 Q):(ao I C (.li aa a) ρ).v h Q:=k
theorem T2{a}(k:cU I C a ρ h<|al9 Q):(ao I C (.li ae a) ρ).v h Q:=k
theorem aw7{a vs}(k:cU I C a ρ h λyh h=>cU I C vs ρ h λvv h=>BY yh vv [] λes=>Q (.fd es) h):(ao I C (.di aa a vs) ρ).v h Q:=k
theorem cI{a}{f}(k:(ao I C a ρ).v h<|VT f Q):(ao I C (.at a f) ρ).v h Q:=k
theorem iL{a i}(k:(ao I C a ρ).v h<|Yk C i ρ Q):(ao I C (.ix a i) ρ).v h Q:=k
theorem qO{a l u}(k:(ao I C a ρ).v h<|af0 C l u ρ Q):(ao I C (.sl a l u) ρ).v h Q:=k
theorem Ot{a}(k:(ao I C a ρ).v h<|Zu Q):(ao I C (.iz a) ρ).v h Q:=k
theorem eN{f}{a}(k:cU I C a ρ h<|XC C f Q):(ao I C (.call f a) ρ).v h Q:=k
theorem TY{c f}{j}(hf:I.kT c=U f)(k:cU I C j ρ h<|WG C c f Q):(ao I C (.new c j) ρ).v h Q:=by
 show cU I C j ρ h λvs h=>(match I.kT c with|U f=> ∀a,h a= .none->C f (.ref a::vs) (h.cr a<|.aK c []) λv h=>rX (Q (.ref a) h) v|.none=>False)
 rw[hf];exact k
theorem gD{a}{m}{j}(k:(ao I C a ρ).v h<|aB7 C (cU I C j ρ) m Q):(ao I C (.me a m j) ρ).v h Q:=k
theorem eP{b}{a}(k:cU I C a ρ h<|Ug b Q):(ao I C (.bi b a) ρ).v h Q:=k
theorem km{cs}{l a j}(k:(ao I C l ρ).i h λxs g h=>a_ xs.length/\iF ρ cs λb=>
   hU (p8 C a j b) g xs h λws h=>Q (.fl ws) h):(ao I C (.comp aa cs l a j) ρ).v h Q:=k
theorem bg{K}(k:K [] h):cU I C .nil ρ h K:=k
theorem ay{e}{r}{K}(k:(ao I C e ρ).v h<|Ym C r ρ K):cU I C (.cons e r) ρ h K:=k
theorem t_x{i}(k:(ao I C (.x i) ρ).v h<|yh T F):(ao I C (.x i) ρ).t h T F:=k
theorem ah2{f}{a}(k:(ao I C (.call f a) ρ).v h<|yh T F):(ao I C (.call f a) ρ).t h T F:=k
theorem aB8{a}(k:(ao I C a ρ).t h F T):(ao I C (.nt a) ρ).t h T F:=k
theorem Mn{a b}(k:(ao I C a ρ).t h (MK C b ρ T F) F):(ao I C (.an a b) ρ).t h T F:=k
theorem vJ{a b}(k:(ao I C a ρ).t h T<|MK C b ρ T F):(ao I C (.or a b) ρ).t h T F:=k
theorem iV{o}{a b}(k:(ao I C a ρ).v h<|aL4 C o b ρ T F):(ao I C (.eY o a b) ρ).t h T F:=k
theorem EE{p}{A B}(hp:p)(k:A):(p->A)/\(¬p->B):=⟨λ_=>k,λn=>absurd hp n⟩
theorem gm{p}{A B}(hp: ¬p)(k:B):(p->A)/\(¬p->B):=⟨λn=>absurd n hp,λ_=>k⟩
theorem jC{K}(k:K []):iF ρ [] K:=k
theorem m_{i}{r}{v}{K:L->Prop}(hv:ah ρ i=U (U v))(k:iF ρ r λl=>K<|U v::l):iF ρ (i::r) K:=by
 show gj _ _ _;unfold gj;rw[hv];exact k
theorem jQ{i}(k:(ao I C (.x i) ρ).v h<|pc K):(ao I C (.x i) ρ).i h K:=k
theorem Xu{a}(k:(ao I C (.tu a) ρ).v h<|pc K):(ao I C (.tu a) ρ).i h K:=k
theorem UN{i}(k:(ao I C (.g i) ρ).v h<|pc K):(ao I C (.g i) ρ).i h K:=k
theorem az6{o}{a b}(k:(ao I C (.dT o a b) ρ).v h<|pc K):(ao I C (.dT o a b) ρ).i h K:=k
theorem zM{a}{f}(k:(ao I C (.at a f) ρ).v h<|pc K):(ao I C (.at a f) ρ).i h K:=k
theorem W3{a l u}(k:(ao I C (.sl a l u) ρ).v h<|pc K):(ao I C (.sl a l u) ρ).i h K:=k
theorem ae5{a}(k:(ao I C (.iz a) ρ).v h<|pc K):(ao I C (.iz a) ρ).i h K:=k
theorem Ou{f}{a}(k:(ao I C (.call f a) ρ).v h<|pc K):(ao I C (.call f a) ρ).i h K:=k
theorem i7{a}(k:cU I C a ρ h<|aK2 K):(ao I C (.bi .range a) ρ).i h K:=k
theorem An{a}(k:cU I C a ρ h<|aa7 K):(ao I C (.bi .kz a) ρ).i h K:=k
theorem Pe(k:T h):tv h T F<|.bool aa:= .DY (λ_=>k) λn=>(j4 n)
theorem EA(k:F h):tv h T F<|.bool ae:= .DY (λn=>(fE n)) λ_=>k
theorem Dm{A B}(k:A):lB A B<|.bool aa:= .mk (λ_=>k) λn=>(j4 n)
theorem Xe{A B}(k:B):lB A B<|.bool ae:= .mk (λn=>(fE n)) λ_=>k
theorem X8(k:Q (.bool aa) h):sO h Q<|.bool ae:= .KD k
end rules
theorem nu{C}{ρ}{h}{T F}(k:T h):(ao I C (.c<|.bool aa) ρ).t h T F:=Pe k
theorem pP{α β}(f:α->β): ∀(l:List α) (i:Nat),ah (l.map f) i=(ah l i).map f
 |[],_=>rfl
 |_::_,0=>rfl
 |_::r,i+1=>pP f r i
theorem C0{α}: ∀{l:List α} {i:Nat},i <l.length-> ∃x,ah l i=U x/\x∈l
 |[],_,h=>absurd h (GD _)
 |a::_,0,_=>⟨a,rfl,xj⟩
 |_::r,i+1,h=>let⟨x,e,m⟩:=C0 (xk h);⟨x,e,GE _ m⟩
section
variable{C:cZ}{ρ ρ':L}{h:H}{Q:V->H->Prop}{T F:H->Prop}{K:List V->H->Prop}{P:Fl->L->H->Prop}{e a b:E}{v:V}{r:Ss}{i:Nat}{n m:Int}
abbrev S4(C:cZ)(i:Nat)(r:Ss)(ρ:L)(P:Fl->L->H->Prop):V->H->Prop:=λv h=>aZ I C r (cY ρ i v) h P
theorem jO(k:(ao I C e ρ).v h<|S4 C i r ρ P):aZ I C (.cons (.af (.x i) e) r) ρ h P:=k
theorem iE{s u}(k:(ao I C e ρ).t h (yS C s ρ<|oh C r P)<|yS C u ρ<|oh C r P):aZ I C (.cons (.ite e s u) r) ρ h P:=k
theorem ae0(k:(ao I C e ρ).v h<|I2 P ρ):aZ I C (.cons (.ret e) r) ρ h P:=k
end
inductive Bd where
 |no
 |b (lo hi:Int)
inductive SV where
 |op (v:V)
 |int (i:Int) (b:Bd)
 |ref (k:Nat) (a:ai)
 |aj (l:List SV)
 |fl (l:List SV)
inductive SO where
 |aK (c:Nat) (fs:List<|Nat×SV)
 |list (l:List V)
 |ls (l:List SV)
 |dict (es:List<|Int×V)
 |hM (p:O->Prop)
 |fV
abbrev G:=List (ai×SO)
abbrev SL:=List (Option SV)
inductive SF where
 |next
 |brk
 |cont
 |ret (v:SV)
inductive Tr where
 |aR
 |done (x:SF) (ρ:SL) (g:G)
 |br (p:Prop) (a b:Tr)
 |jT (p:Prop) (t:Tr)
 |all (k:ai->Tr)
 |Qa (T:V->Prop) (g:G) (k:SV->Tr)
 |eh (a b:Tr)
 |call (n f:Nat) (vs:List SV) (g:G) (k:SV->G->Tr)
 |ex (n:Nat) (e:E) (ρ:SL) (g:G) (k:SV->G->Tr)
 |st (n:Nat) (s:S) (ρ:SL) (g:G) (k:SF->SL->G->Tr)
noncomputable def den(a:SV):V:=SV.rec (λv=>v) (λi _=> .int i) (λ_ a=> .ref a) (λ_ l=> .aj l) (λ_ l=> .fl l) [] (λ_ _ v l=>v::l) a
noncomputable def bf(a:List SV):List V:=SV.rec_1 (λv=>v) (λi _=> .int i) (λ_ a=> .ref a) (λ_ l=> .aj l) (λ_ l=> .fl l) [] (λ_ _ v l=>v::l) a
noncomputable def Bd.ok(b:Bd)(i:Int):Prop:=match b with
 |.no=>True
 |.b lo hi=>lo<=i/\i<=hi
def aN(g:G)(a:SV):Prop:=SV.rec (λ_=>True) (λi b=>b.ok i) (λk a=> ∃o,ah g k=U (a,o)) (λ_ l=>l) (λ_ l=>l) True (λ_ _ v l=>v/\l) a
def bD(g:G)(a:List SV):Prop:=SV.rec_1 (λ_=>True) (λi b=>b.ok i) (λk a=> ∃o,ah g k=U (a,o)) (λ_ l=>l) (λ_ l=>l) True (λ_ _ v l=>v/\l) a
def b8(fs:List<|Nat×SV):List<|Nat×V:=fs.map λp=>(p.1,den p.2)
def aq(ρ:SL):L:=ρ.map (uO den)
noncomputable def SO.at(o:SO)(x:Option O):Prop:=match o with
 |.aK c fs=>x=U (.aK c<|b8 fs)
 |.list l=>x=U (.list l)
 |.ls l=>x=U (.list<|bf l)
 |.dict es=>x=U (.dict es)
 |.hM p=> ∃o,x=U o/\p o
 |.fV=>True
noncomputable def SO.ok(g:G)(o:SO):Prop:=match o with
 |.aK _ fs=> ∀f v,bc fs f=U v->aN g v
 |.ls l=>bD g l
 |_=>True
noncomputable def SO.lv(o:SO):Prop:=match o with
 |.fV=>False
 |_=>True
def a6(g:G)(ρ:SL):Prop:= ∀i v,ah ρ i=U (U v)->aN g v
def G.le(g b:G):Prop:= ∀k a o,ah g k=U (a,o)-> ∃o',ah b k=U (a,o')
structure Hd(hb:H)(B:List ai)(g:G)(h:H):Prop where
 am: ∀k a o,ah g k=U (a,o)->o.at (h a)
 ok: ∀k a o,ah g k=U (a,o)->o.ok g
 inj: ∀i j a x y,ah g i=U (a,x)->ah g j=U (a,y)->x.lv->y.lv->i=j
 fr: ∀b o,hb b=U o->b∉B->h b=U o/\ ∀k x,ah g k≠U (b,x)
theorem fR{g h}(l:G.le g h)(v:SV):aN g v->aN h v:=
 SV.rec (λ_ _=>tI) (λ_ _ k=>k) (λk a x=>x.elim λo e=>l k a o e) (λ_ ih=>ih) (λ_ ih=>ih) (λ_=>tI) (λ_ _ i j k=>⟨i k.1,j k.2⟩) v
theorem rD{g h}(l:G.le g h)(v:List SV):bD g v->bD h v:=
 SV.rec_1 (motive_1:=λv=>aN g v->aN h v) (λ_ _=>tI) (λ_ _ k=>k) (λk a x=>x.elim λo e=>l k a o e) (λ_ ih=>ih) (λ_ ih=>ih) (λ_=>tI) (λ_ _ i j k=>⟨i k.1,j k.2⟩) v
theorem G.le_refl(g:G):G.le g g:=λ_ _ o e=>⟨o,e⟩
theorem G.le_trans{g k l}(a:G.le g k)(b:G.le k l):G.le g l:=λi x o e=>(a i x o e).elim λo e=>b i x o e
theorem dI{g a}{ρ}(l:G.le g a)(k:a6 g ρ):a6 a ρ:=λi v e=>fR l v (k i v e)
theorem SO.yc{g a}(l:G.le g a){o:SO}(k:o.ok g):o.ok a:=SO.casesOn o (λ_ _ k f v e=>fR l v<|k f v e) (λ_ _=>tI) (λm k=>rD l m k) (λ_ _=>tI) (λ_ _=>tI) (λ_=>tI) k
noncomputable def gy{α R:Type}(no:R):List α->Nat->(α->R)->R
 |[],_,_=>no
 |x::_,0,k=>k x
 |_::r,n+1,k=>gy no r n k
noncomputable def kh{α R:Type}(no:R):List α->Nat->α->(List α->R)->R
 |[],_,_,_=>no
 |_::r,0,v,k=>k (v::r)
 |x::r,n+1,v,k=>kh no r n v λr=>k (x::r)
noncomputable def vq{α R:Type}(no:R):List (Nat×α)->Nat->(α->R)->R
 |[],_,_=>no
 |(m,v)::r,n,k=>cond (bF m n) (k v) (vq no r n k)
noncomputable def yE{α R:Type}:List (Nat×α)->Nat->α->(List (Nat×α)->R)->R
 |[],n,v,k=>k [(n,v)]
 |(m,w)::r,n,v,k=>cond (bF m n) (k<|(m,v)::r) (yE r n v λr=>k<|(m,w)::r)
noncomputable def tX{α R:Type}:List α->α->Nat->(Nat->List α->R)->R
 |[],x,i,k=>k i [x]
 |y::r,x,i,k=>tX r x (i+1) λn r=>k n (y::r)
theorem zY{α R}(no:R): ∀(l:List α) (i:Nat) (k:α->R),gy no l i k=match ah l i with|U x=>k x|Y=>no
 |[],_,_=>rfl
 |_::_,0,_=>rfl
 |_::r,n+1,k=>zY no r n k
theorem AI{α R}(no:R): ∀(l:List α) (i:Nat) (v:α) (k:List α->R),kh no l i v k=match ah l i with|U _=>k (ef l i v)|Y=>no
 |[],_,_,_=>rfl
 |_::_,0,_,_=>rfl
 |x::r,n+1,v,k=>AI no r n v λr=>k (x::r)
theorem ZF{α R}(no:R)(l:List<|Nat×α)(n:Nat)(k:α->R):vq no l n k=match bc l n with|U x=>k x|Y=>no:=by
 induction l with
 |nil=>rfl
 |cons p r ih=>exact(aA (cond _ _) ih).trans (Ac (f:=λo:Option α=>match o with|U x=>k x|Y=>no) (x:=U p.2) (y:=bc r n)).symm
theorem Qb{α R}(l:List<|Nat×α)(n:Nat)(v:α)(k:List (Nat×α)->R):yE l n v k=k (iB l n v):=by
 induction l generalizing k with
 |nil=>rfl
 |cons p r ih=>exact(aA (cond _ _)<|ih _).trans (Ac (f:=k)).symm
theorem Lq{α R}: ∀(l:List α) (x:α) (i:Nat) (k:Nat->List α->R),tX l x i k=k (i+l.length) (l++[x])
 |[],_,_,_=>rfl
 |y::r,x,i,k=>(Lq r x (i+1) λn r=>k n<|y::r).trans (by rw[Q9];rfl)
theorem zr{α}: ∀(l:List α) (i j:Nat) (v:α),ah (ef l i v) j=if i=j then(ah l i).map (λ_=>v) else ah l j
 |[],i,j,v=>by split <;>rfl
 |_::_,0,0,_=>rfl
 |_::_,0,j+1,_=>rfl
 |_::_,i+1,0,_=>rfl
 |x::r,i+1,j+1,v=>(zr r i j v).trans (by simp only[Nat.add_right_cancel_iff];rfl)
theorem rc{α}{x y}: ∀{l:List α} {i:Nat},ah (l++[x]) i=U y->ah l i=U y\/(i=l.length/\y=x)
 |[],0,e=> .inr ⟨rfl,(bL e).symm⟩
 |[],_+1,e=>bR e
 |_::_,0,e=> .inl e
 |_::l,i+1,e=>(rc (i:=i) e).elim .inl λq=> .inr ⟨aA (· +1) q.1,q.2⟩
theorem H5{α}{l:List<|Nat×α}{n m:Nat}{v w:α}(e:bc (iB l n v) m=U w):bc l m=U w\/w=v:=by
 have bp: ∀{b:Bool} {x:Option α},cond b (U v) x=U w->x=U w\/w=v:=λ{b x} e=>by
  cases b
  ·exact .inl e
  ·exact .inr (bL e).symm
 induction l with
 |nil=>exact(bp e).imp (λe=>bR e) id
 |cons p r ih=>
  have e:bc (cond (bF p.1 n) ((p.1,v)::r)<|p::iB r n v) m=U w:=e
  show cond (bF p.1 m) (U p.2) (bc r m)=U w\/w=v
  cases h:bF p.1 n <;>rw[h] at e
  ·have e:cond (bF p.1 m) (U p.2) (bc (iB r n v) m)=U w:=e
   cases q:bF p.1 m <;>rw[q] at e
   ·exact ih e
   ·exact .inl e
  ·have e:cond (bF p.1 m) (U v) (bc r m)=U w:=e
   cases q:bF p.1 m <;>rw[q] at e
   ·exact .inl e
   ·exact .inr (bL e).symm
theorem J_(l:List<|Nat×SV)(n:Nat):bc (b8 l) n=(bc l n).map den:=by
 induction l with
 |nil=>rfl
 |cons p r ih=>exact(aA (cond _ _) ih).trans (Ac (f:=uO den) (x:=U p.2) (y:=bc r n)).symm
theorem NF{l}{n}{v}(e:bc l n=U v):bc (b8 l) n=U (den v):=(J_ l n).trans (e▸rfl)
theorem Jc(l:List<|Nat×SV)(n:Nat)(v:SV):b8 (iB l n v)=iB (b8 l) n (den v):=by
 induction l with
 |nil=>rfl
 |cons p r ih=>exact(Ac (f:=b8)).trans (aA (cond _ _)<|congrArg (_:: ·) ih)
theorem zh: ∀(ρ:SL) (i:Nat) (v:SV),aq (ef ρ i<|U v)=cY (aq ρ) i (den v)
 |[],_,_=>rfl
 |_::_,0,_=>rfl
 |x::r,n+1,v=>aA (x.map den:: ·) (zh r n v)
theorem sq: ∀{ρ:SL} {i:Nat} {v:SV},ah ρ i=U (U v)->ah (aq ρ) i=U (U<|den v)
 |[],_,_,e=>bR e
 |_::_,0,_,e=>by cases e;rfl
 |_::r,n+1,_,e=>sq (i:=n) e
theorem B4{g}{ρ}{i}{v}(k:a6 g ρ)(o:aN g v):a6 g<|ef ρ i<|U v:=λj w e=>by
 rw[zr] at e
 split at e
 ·cases q:ah ρ i with
  |none=>rw[q] at e;cases e
  |some x=>rw[q] at e;cases e;exact o
 ·exact k j w e
section
variable{hb:H}{B:List ai}{g:G}{h:H}{a:ai}{k:Nat}{o p:SO}{x:O}
theorem jh(e:ah g k=U (a,o)):G.le g<|ef g k (a,p):=λj b q f=>by
 rw[zr]
 by_cases z:k=j
 ·rw[aM z,e];subst z;rw[e] at f;cases f;exact⟨p,rfl⟩
 ·rw[aE z];exact⟨q,f⟩
theorem cO{j}{b}{q}(e:ah g k=U (a,o))(f:ah (ef g k (a,p)) j=U (b,q)):(k=j/\b=a/\q=p)\/(k≠j/\ah g j=U (b,q)):=by
 rw[zr] at f
 by_cases z:k=j
 ·rw[aM z,e] at f
  exact aH3 (a:=a) (b:=p) (P:=λb' c=>(k=j/\b'=a/\c=p)\/(k≠j/\ah g j=U (b',c))) f (.inl ⟨z,rfl,rfl⟩)
 ·rw[aE z] at f;exact .inr ⟨z,f⟩
theorem SO.E3: ∀{o:SO} {x:Option O},¬o.lv->o.at x
 |.fV,_,_=>trivial
 |.aK ..,_,n|.list _,_,n|.ls _,_,n|.dict _,_,n|.hM _,_,n=>absurd tI n
theorem SO.Dz: ∀{o:SO},o.at Y-> ¬o.lv
 |.fV,_=>id
 |.aK ..,e|.list _,e|.ls _,e|.dict _,e=>bR e
 |.hM _,⟨_,e,_⟩=>bR e
theorem SO.Cn{o:SO}{x y:Option O}(f: ∀u,x=U u->y=U u):o.at x->o.at y:=SO.casesOn o (λ_ _=>f _) (λ_=>f _) (λ_=>f _) (λ_=>f _) (λ_ e=>e.imp λo e=>⟨f _ e.1,e.2⟩) id
theorem Hd.QI{h':H}(d:Hd hb B g h)(e:ah g k=U (a,o))(ol:o.lv)(hx:p.at<|h' a)(f: ∀b,b≠a-> ∀u,h b=U u->h' b=U u)(s:p.ok g):Hd hb B (ef g k (a,p)) h' where
 am j b q m:=(cO e m).elim (λz=>z.2.1▸z.2.2▸hx) λz=>
  if c:b=a then SO.E3 λl=>z.1 (d.inj k j a o q e (c▸z.2) ol l) else SO.Cn (f b c) (d.am j b q z.2)
 ok j b q m:=SO.yc (jh e) ((cO e m).elim (λz=>z.2.2.symm▸s) λz=>d.ok j b q z.2)
 inj i j b x y m n lx ly:=(cO e m).elim (λz=>(cO e n).elim (λw=>z.1.symm.trans w.1) λw=>z.1.symm.trans<|d.inj k j a o y e (z.2.1▸w.2) ol ly)
  λz=>(cO e n).elim (λw=>(d.inj i k a x o (w.2.1▸z.2) e lx ol).trans w.1) λw=>d.inj i j b x y z.2 w.2 lx ly
 fr b u q n:=have z:=d.fr b u q n
  ⟨f b (λc=>z.2 k o<|c▸e) _ z.1,λj y m=>(cO e m).elim (λw=>z.2 k o<|w.2.1▸e) λw=>z.2 j y w.2⟩
theorem Ai:G.le g<|g++[(a,p)]:=λk b o e=>⟨o,by
 revert k
 induction g with
 |nil=>intro k e;cases e
 |cons x r ih=>intro k e;cases k with
  |zero=>exact e
  |succ k=>exact ih k e⟩
theorem B0{α}{x}: ∀(l:List α),ah (l++[x]) l.length=U x
 |[]=>rfl
 |_::l=>B0 l
theorem Hd.new{h':H}(d:Hd hb B g h)(e:h a=Y)(hx:p.at<|h' a)(f: ∀b,b≠a->h' b=h b)(s:p.ok g):Hd hb B (g++[(a,p)]) h' where
 am j b q m:=(rc m).elim (λz=>if c:b=a then SO.E3 λl=>SO.Dz (e▸c▸d.am j b q z) l else(f b c).symm▸d.am j b q z) λz=>BX (P:=λb (q:SO)=>q.at<|h' b) z.2.symm hx
 ok j b q m:=SO.yc Ai ((rc m).elim (λz=>d.ok j b q z) λz=>BX (P:=λ_ (q:SO)=>q.ok g) z.2.symm s)
 inj i j b x y m n lx ly:=(rc m).elim (λz=>(rc n).elim (λw=>d.inj i j b x y z w lx ly) λw=>absurd lx<|SO.Dz<|e▸((c8 w.2).1▸d.am i b x z:x.at<|h a))
  λz=>(rc n).elim (λw=>absurd ly<|SO.Dz<|e▸((c8 z.2).1▸d.am j b y w:y.at<|h a)) λw=>z.1.trans w.1.symm
 fr b u q n:=have z:=d.fr b u q n
  have c:=λc=>H.am6 z.1 e c
  ⟨(f b c).trans z.1,λj y m=>(rc m).elim (z.2 j y) λw=>c (c8 w.2).1⟩
end
def d_(g:G)(u:List<|Nat×SO):G:=u.foldl (λg p=>gy g g p.1 λx=>kh g g p.1 (x.1,p.2) id) g
section
variable(d:Nat)(hb:H)(B:List ai)(F:SF->SL->G->Prop)
def l8(n f:Nat)(vs:List SV)(g:G)(α:Type)(p:α->Prop)(r:α->SV×List (Nat×SO)):Prop:=
 (∀x,p x->aN g (r x).1)/\ ∀h Q,Hd hb B g h->(∀x h',p x->Hd hb B (d_ g (r x).2) h'->Q (den (r x).1) h')->al I (d+n) f (bf vs) h Q
def vZ(n:Nat)(e:E)(ρ:SL)(g:G)(α:Type)(p:α->Prop)(r:α->SV×List (Nat×SO)):Prop:=
 (∀x,p x->aN g (r x).1)/\ ∀h Q,Hd hb B g h->(∀x h',p x->Hd hb B (d_ g (r x).2) h'->Q (den (r x).1) h')->(ao I (al I<|d+n) e<|aq ρ).v h Q
def ia(n f:Nat)(vs:List SV)(g:G)(v:SV)(u:List<|Nat×SO):Prop:=
 aN g v/\ ∀h Q,Hd hb B g h->(∀h',Hd hb B (d_ g u) h'->Q (den v) h')->al I (d+n) f (bf vs) h Q
def v7(n:Nat)(e:E)(ρ:SL)(g:G)(v:SV)(u:List<|Nat×SO):Prop:=
 aN g v/\ ∀h Q,Hd hb B g h->(∀h',Hd hb B (d_ g u) h'->Q (den v) h')->(ao I (al I<|d+n) e<|aq ρ).v h Q
noncomputable def wB(f:SF):Fl:=match f with
 |.next=> .next
 |.brk=> .brk
 |.cont=> .cont
 |.ret v=> .ret (den v)
noncomputable def z7(g:G)(f:SF):Prop:=match f with
 |.ret v=>aN g v
 |_=>True
def ui(n:Nat)(s:S)(ρ:SL)(g:G)(α:Type)(p:α->Prop)(r:α->SF×SL×G):Prop:=
 (∀x,p x->z7 (r x).2.2 (r x).1/\a6 (r x).2.2 (r x).2.1/\G.le g (r x).2.2)/\ ∀h P,Hd hb B g h->(∀x h',p x->Hd hb B (r x).2.2 h'->P (wB (r x).1) (aq (r x).2.1) h')->ex I (al I<|d+n) s (aq ρ) h P
def au(t:Tr):Prop:=Tr.rec False F (λp _ _ a b=>(p->a)/\(¬p->b)) (λp _ t=>p/\t) (λ_ k=> ∀a,k a) (λT g _ k=> ∃v,(T (den v)/\aN g v)/\k v) (λ_ _ a b=>a\/b)
 (λn f vs g _ k=> ∃(α:Type) (p:α->Prop) (r:α->SV×List (Nat×SO)),l8 d hb B n f vs g α p r/\ ∀x,p x->k (r x).1 (d_ g (r x).2))
 (λn e ρ g _ k=> ∃(α:Type) (p:α->Prop) (r:α->SV×List (Nat×SO)),vZ d hb B n e ρ g α p r/\ ∀x,p x->k (r x).1 (d_ g (r x).2))
 (λn s ρ g _ k=> ∃(α:Type) (p:α->Prop) (r:α->SF×SL×G),ui d hb B n s ρ g α p r/\ ∀x,p x->k (r x).1 (r x).2.1 (r x).2.2) t
end
section
theorem iD{a b}{X:Prop}(t:au d hb B F<|.eh a b)(x:au d hb B F a->X)(y:au d hb B F b->X):X:=Or.elim t x y
theorem uo{p a}(t:au d hb B F<|.jT p a):p/\au d hb B F a:=t
theorem Fk{β:Type}{C:(α:Type)->(α->Prop)->(α->β)->Prop}{h:β->Prop}{X:Prop}(t: ∃(α:Type) (p:α->Prop) (r:α->β),C α p r/\ ∀x,p x->h (r x))(z: ∀α p r,C α p r->(∀x,p x->h (r x))->X):X:=t.elim λα t=>t.elim λp t=>t.elim λr t=>z α p r t.1 t.2
end
noncomputable def Bd.lt(p q:Bd):Bool:=match p,q with
 |.b _ u,.b l _=>decide (u <l)
 |_,_=>ae
noncomputable def Bd.le(p q:Bd):Bool:=match p,q with
 |.b _ u,.b l _=>decide (u<=l)
 |_,_=>ae
noncomputable def Bd.d3(p q:Bd)(f:Int->Int->Int->Int->Bd):Bd:=match p,q with
 |.b l u,.b m v=>f l u m v
 |_,_=> .no
def Bd.add(p q:Bd):Bd:=p.d3 q λl u m v=> .b (l+m) (u+v)
def Bd.sub(p q:Bd):Bd:=p.d3 q λl u m v=> .b (l -v) (u -m)
def Bd.neg(p:Bd):Bd:=p.d3 p λl u _ _=> .b (-u) (-l)
def Bd.mul(p q:Bd):Bd:=p.d3 q λl u m v=>if 0<=l/\0<=m then .b (l*m) (u*v) else if l=u/\m=v then .b (l*m) (l*m) else .no
def Bd.nK(p q:Bd):Bd:=p.d3 q λl u m v=>if m=v/\0 <m then .b (l/m) (u/m) else .no
def Bd.Lp(q:Bd):Bd:=q.d3 q λm v _ _=>if 0 <m then .b 0 (v -1) else .no
noncomputable def Bd.bp(p:Bd):Option Int:=match p with
 |.b l u=>if l=u then U l else Y
 |.no=>Y
noncomputable def Bd.mN(p q:Bd):Bd:=match p.bp,q.bp with
 |U x,U y=> .b (x% y) (x% y)
 |_,_=>q.Lp
def Bd.o0(p q:Bd):Bd:=p.d3 q λl u m v=>if l=u/\m=v then .b (l^m.toNat) (l^m.toNat) else .no
def Bd.in(p:Bd)(l u:Int):Bool:=Bd.le (.b l l) p&&p.le (.b u u)
section
variable{p q:Bd}
theorem Bd.rA(a:p.ok i)(b:q.ok j)(e:p.lt q=aa):i <j:=by
 cases p
 ·exact fE e
 cases q
 ·exact fE e
 ·exact g8 a.2 (jF (of_decide_eq_true e) b.1)
theorem Bd.o8(a:p.ok i)(b:q.ok j)(e:p.le q=aa):i<=j:=by
 cases p
 ·exact fE e
 cases q
 ·exact fE e
 ·exact az a.2 (az (of_decide_eq_true e) b.1)
theorem Bd.qI{f}{k}(a:p.ok i)(b:q.ok j)(x: ∀l u m v,l<=i->i<=u->m<=j->j<=v->(f l u m v).ok k):(p.d3 q f).ok k:=by
 cases p
 ·exact tI
 cases q
 ·exact tI
 ·exact x _ _ _ _ a.1 a.2 b.1 b.2
theorem Bd.vo{c} [Decidable c] {a b:Bd}(x:c->a.ok i)(y:b.ok i):(if c then a else b).ok i:=if h:c then by rw[aM h];exact x h else by rw[aE h];exact y
theorem Bd.Ce(a:p.ok i)(b:q.ok j):(p.add q).ok<|i+j:=qI a b λ_ _ _ _ a b c d=>⟨fU a c,fU b d⟩
theorem Bd.am2(a:p.ok i)(b:q.ok j):(p.sub q).ok<|i -j:=qI a b λ_ _ _ _ a b c d=>⟨xl a d,xl b c⟩
theorem Bd.Wy(a:p.ok i):p.neg.ok (-i):=qI a a λ_ _ _ _ a b _ _=>⟨GF b,GF a⟩
theorem Bd.Vv(a:p.ok i)(b:q.ok j):(p.mul q).ok<|i*j:=qI a b λ_ _ _ _ a b c d=>
 vo (λz=>⟨GG a c z.2<|az z.1 a,GG b d (az z.2 c)<|az z.1<|az a b⟩)
  (vo (λz=>qS a (z.1▸b)▸qS c (z.2▸d)▸⟨aU _,aU _⟩) tI)
theorem Bd.H6(a:p.ok i)(b:q.ok j):(p.nK q).ok<|i/j:=qI a b λ_ _ _ _ a b c d=>
 vo (λz=>qS c (z.1▸d)▸⟨uQ z.2 a,uQ z.2 b⟩) tI
theorem Bd.QL(b:q.ok j):q.Lp.ok<|i% j:=qI b b λ_ _ _ _ c d _ _=>
 vo (λz=>have z:=jF z c;⟨pz i<|pA z,aS0<|jF (qT i z) d⟩) tI
theorem Bd.Qh{a}(o:p.ok i)(e:p.bp=U a):i=a:=match p,o,e with
 |.b l u,o,e=>by
  have e:(if l=u then U l else Y)=U a:=e
  by_cases c:l=u
  ·rw[aM c] at e;exact iK e (qS (c▸o.2) o.1)
  ·rw[aE c] at e;cases e
theorem Bd.aH2(o:p.ok i)(b:q.ok j):(p.mN q).ok<|i% j:=by
 unfold Bd.mN
 exact match e:p.bp,f:q.bp with
 |U x,U y=>Qh o e▸Qh b f▸⟨aU _,aU _⟩
 |Y,_=>QL b
 |U _,Y=>QL b
theorem Bd.HG(a:p.ok i)(b:q.ok j):(p.o0 q).ok<|i^j.toNat:=qI a b λ_ _ _ _ a b c d=>
 vo (λz=>qS a (z.1▸b)▸qS c (z.2▸d)▸⟨aU _,aU _⟩) tI
theorem Bd.rJ{l u}(a:p.ok i)(e:p.in l u=aa):l<=i/\i<=u:=have e:=fG.mp e
 ⟨o8 (p:= .b l l) ⟨aU _,aU _⟩ a e.1,o8 (q:= .b u u) a ⟨aU _,aU _⟩ e.2⟩
end
noncomputable def vG(y n:Bool)(p:Prop)(a b:Tr):Tr:=match y with
 |aa=>a
 |ae=>match n with
  |aa=>b
  |ae=> .br p a b
noncomputable def mI(y:Bool)(p:Prop)(a:Tr):Tr:=match y with
 |aa=>a
 |ae=> .jT p a
section
theorem j0{y n}{p}{a b}(c:y=aa->p)(hn:n=aa-> ¬p)(k:au d hb B F<|vG y n p a b):(p->au d hb B F a)/\(¬p->au d hb B F b):=by
 cases y
 ·cases n
  ·exact k
  ·exact⟨λp=>absurd p<|hn rfl,λ_=>k⟩
 ·exact⟨λ_=>k,λn=>absurd (c rfl) n⟩
theorem pM{y}{p}{a}(b:y=aa->p)(k:au d hb B F<|mI y p a):p/\au d hb B F a:=by
 cases y
 ·exact k
 ·exact⟨b rfl,k⟩
end
theorem bd{α:Type}{a:α}{X:Prop}(e:Y=U a):X:=bR e
noncomputable def md(v:V):Option<|Int:=if h:v.ctorIdx=2 then V.int.elim v h U else Y
theorem Aw{v}{i}:md v=U i->v= .int i:=V.casesOn v bd (λ_=>bd) (λ_ e=>aA _<|bL e) (λ_=>bd) (λ_=>bd) (λ_=>bd) (λ_=>bd) (λ_ _ _=>bd) (λ_=>bd) λ_=>bd
noncomputable def IG(v:V):Option<|Bool:=if h:v.ctorIdx=1 then V.bool.elim v h U else Y
theorem XD{v}{i}:IG v=U i->v= .bool i:=V.casesOn v bd (λ_ e=>aA _<|bL e) (λ_=>bd) (λ_=>bd) (λ_=>bd) (λ_=>bd) (λ_=>bd) (λ_ _ _=>bd) (λ_=>bd) λ_=>bd
noncomputable def AD(v:V):Option<|Str:=if h:v.ctorIdx=3 then V.str.elim v h U else Y
theorem Eo{v}{i}:AD v=U i->v= .str i:=V.casesOn v bd (λ_=>bd) (λ_=>bd) (λ_ e=>aA _<|bL e) (λ_=>bd) (λ_=>bd) (λ_=>bd) (λ_ _ _=>bd) (λ_=>bd) λ_=>bd
noncomputable def wJ(v:V):Option<|List Int:=if h:v.ctorIdx=4 then V.a8.elim v h U else Y
theorem yZ{v}{i}:wJ v=U i->v= .a8 i:=V.casesOn v bd (λ_=>bd) (λ_=>bd) (λ_=>bd) (λ_ e=>aA _<|bL e) (λ_=>bd) (λ_=>bd) (λ_ _ _=>bd) (λ_=>bd) λ_=>bd
noncomputable def uv(v:V):Option<|List V:=if h:v.ctorIdx=5 then V.aj.elim v h U else Y
theorem w6{v}{i}:uv v=U i->v= .aj i:=V.casesOn v bd (λ_=>bd) (λ_=>bd) (λ_=>bd) (λ_=>bd) (λ_ e=>aA _<|bL e) (λ_=>bd) (λ_ _ _=>bd) (λ_=>bd) λ_=>bd
noncomputable def qv(v:V):Option<|List V:=if h:v.ctorIdx=6 then V.fl.elim v h U else Y
theorem uq{v}{i}:qv v=U i->v= .fl i:=V.casesOn v bd (λ_=>bd) (λ_=>bd) (λ_=>bd) (λ_=>bd) (λ_=>bd) (λ_ e=>aA _<|bL e) (λ_ _ _=>bd) (λ_=>bd) λ_=>bd
noncomputable def o5(v:V):Option<|List<|Int×V:=if h:v.ctorIdx=8 then V.fd.elim v h U else Y
theorem pR{v}{i}:o5 v=U i->v= .fd i:=V.casesOn v bd (λ_=>bd) (λ_=>bd) (λ_=>bd) (λ_=>bd) (λ_=>bd) (λ_=>bd) (λ_ _ _=>bd) (λ_ e=>aA _<|bL e) λ_=>bd
noncomputable def vk(v:V):Option<|ai×Nat×List (Nat×V):=if h:v.ctorIdx=7 then V.fz.elim v h λa c f=>U (a,c,f) else Y
theorem wv{v}{i}:vk v=U i->v= .fz i.1 i.2.1 i.2.2:=V.casesOn v bd (λ_=>bd) (λ_=>bd) (λ_=>bd) (λ_=>bd) (λ_=>bd) (λ_=>bd) (λ_ _ _ e=>by cases e;rfl) (λ_=>bd) λ_=>bd
noncomputable def oK{α:Type}(o:Option α)(k:α->Tr):Tr:=match o with
 |U a=>k a
 |Y=> .aR
noncomputable def SV.v(a:SV)(k:V->Tr):Tr:=match a with
 |.op v=>k v
 |_=> .aR
noncomputable def SV.i(a:SV)(k:Int->Bd->Tr):Tr:=match a with
 |.int i p=>k i p
 |.op v=>oK (md v) λi=>k i .no
 |_=> .aR
noncomputable def SV.r(a:SV)(k:Nat->ai->Tr):Tr:=match a with
 |.ref i a=>k i a
 |_=> .aR
def SV.bo(a:SV)(k:Bool->Tr):Tr:=a.v λv=>oK (IG v) k
noncomputable def SV.l(a:SV)(k:List V->Tr):Tr:=match a with
 |.fl l=>k (bf l)
 |.op v=>oK (qv v) k
 |_=> .aR
noncomputable def SV.t(a:SV)(k:List V->Tr):Tr:=match a with
 |.aj l=>k (bf l)
 |.op v=>oK (uv v) k
 |_=> .aR
section
variable{X:Prop}
theorem ca{α}{o}{k:α->Tr}(h:au d hb B F<|oK o k)(x: ∀a,o=U a->au d hb B F (k a)->X):X:=by
 cases o
 ·exact h.elim
 ·exact x _ rfl h
theorem SV.i8{k}(h:au d hb B F<|a.v k)(x: ∀v,den a=v->au d hb B F (k v)->X):X:=by
 cases a
 ·exact x _ rfl h
 all_goals exact h.elim
theorem SV.fZ{k}(h:au d hb B F<|a.i k)(o:aN g a)(x: ∀i p,den a= .int i->p.ok i->au d hb B F (k i p)->X):X:=by
 cases a
 ·exact ca h λi e h=>x i .no (Aw e) tI h
 ·exact x _ _ rfl o h
 all_goals exact h.elim
theorem SV.iA{k}(h:au d hb B F<|a.r k)(o:aN g a)(x: ∀i b,den a= .ref b->(∃o,ah g i=U (b,o))->au d hb B F (k i b)->X):X:=by
 cases a
 case ref=>exact x _ _ rfl o h
 all_goals exact h.elim
theorem SV.vh{k}(h:au d hb B F<|a.bo k)(x: ∀b,den a= .bool b->au d hb B F (k b)->X):X:=SV.i8 h λ_ e h=>ca h λb f h=>x b (e.trans<|XD f) h
theorem SV.i4{k}(h:au d hb B F<|a.l k)(x: ∀l,den a= .fl l->au d hb B F (k l)->X):X:=by
 cases a
 ·exact ca h λi e h=>x i (uq e) h
 case fl=>exact x _ rfl h
 all_goals exact h.elim
theorem SV.rn{k}(h:au d hb B F<|a.t k)(x: ∀l,den a= .aj l->au d hb B F (k l)->X):X:=by
 cases a
 ·exact ca h λi e h=>x i (w6 e) h
 case aj=>exact x _ rfl h
 all_goals exact h.elim
theorem kV{α}{l}{i}{k:α->Tr}(h:au d hb B F<|gy .aR l i k)(x: ∀a,ah l i=U a->au d hb B F (k a)->X):X:=by
 rw[zY] at h
 cases e:ah l i <;>rw[e] at h
 ·exact h.elim
 ·exact x _ e h
theorem Nq{α}{l}{i}{k:α->Tr}(h:au d hb B F<|vq .aR l i k)(x: ∀a,bc l i=U a->au d hb B F (k a)->X):X:=by
 rw[ZF] at h
 cases e:bc l i <;>rw[e] at h
 ·exact h.elim
 ·exact x _ e h
theorem tU{α}{l}{i}{v}{k:List α->Tr}(h:au d hb B F<|kh .aR l i v k)(x: ∀a,ah l i=U a->au d hb B F (k<|ef l i v)->X):X:=by
 rw[AI] at h
 cases e:ah l i <;>rw[e] at h
 ·exact h.elim
 ·exact x _ e h
end
noncomputable def SO.in(o:SO)(a:Nat->List (Nat×SV)->Tr)(kl:List V->Tr)(kd:List (Int×V)->Tr):Tr:=match o with
 |.aK c fs=>a c fs
 |.list l=>kl l
 |.ls l=>kl (bf l)
 |.dict es=>kd es
 |_=> .aR
def gk(g:G)(k:Nat)(a:Nat->List (Nat×SV)->Tr)(kl:List V->Tr)(kd:List (Int×V)->Tr):Tr:=gy .aR g k λx=>x.2.in a kl kd
noncomputable def xg(g:G)(k:Nat)(ks:List SV->Tr)(no:Tr):Tr:=gy .aR g k λx=>match x.2 with
 |.ls l=>ks l
 |_=>no
def bx(g:G)(k:Nat)(a:ai)(o:SO)(K:G->Tr):Tr:=kh .aR g k (a,o) K
section
variable{X:Prop}
theorem gK{p}{y}{j}(D:Hd hb B g h)(e: ∃o,ah g k=U (a,o))(t:au d hb B F<|gk g k p y j)
  (i: ∀c fs,ah g k=U (a,.aK c fs)->h a=U (.aK c<|b8 fs)->(∀f v,bc fs f=U v->aN g v)->au d hb B F (p c fs)->X)
  (b: ∀o l,o.lv->ah g k=U (a,o)->h a=U (.list l)->au d hb B F (y l)->X)
  (q: ∀l,ah g k=U (a,.dict l)->h a=U (.dict l)->au d hb B F (j l)->X):X:=
 e.elim λo e=>kV t λx f t=>by
  have f:=bL (e.symm.trans f)
  subst f
  have w:=D.am k a o e
  have u:=D.ok k a o e
  cases o
  ·exact i _ _ e w u t
  ·exact b (.list _) _ tI e w t
  ·exact b (.ls _) _ tI e w t
  ·exact q _ e w t
  all_goals exact t.elim
theorem xK{p}{j}(D:Hd hb B g h)(e: ∃o,ah g k=U (a,o))(t:au d hb B F<|xg g k p j)(x: ∀l,ah g k=U (a,.ls l)->h a=U (.list<|bf l)->bD g l->au d hb B F (p l)->X)(z:au d hb B F j->X):X:=
 e.elim λo e=>kV t λy f t=>by
  have f:=bL (e.symm.trans f)
  subst f
  have w:=D.am k a o e
  have u:=D.ok k a o e
  cases o
  case ls=>exact x _ e w u t
  all_goals exact z t
theorem ud{o p}{K}{x}(D:Hd hb B g h)(e:ah g k=U (a,o))(t:au d hb B F<|bx g k a p K)(ol:o.lv)(f:p.at<|U x)(c:p.ok g)
  (z: ∀b,G.le g b->Hd hb B b (h.cr a x)->au d hb B F (K b)->X):X:=
 tU t λ_ _ t=>z _ (jh e) (D.QI e ol (by rw[H.kM];exact f) (λ_ n _=>(H.jN n).trans) c) t
end
noncomputable def SV.cls(a:SV):Nat:=match a with
 |.op v=>v.ctorIdx
 |.int .. =>2
 |.ref .. =>9
 |.aj _=>5
 |.fl _=>6
noncomputable def sw(n m:Nat)(a b:Tr):Tr:=match bF n m with
 |aa=>a
 |ae=>b
noncomputable def xM(o:jM)(i:Int)(p:Bd)(j:Int)(q:Bd)(K:Int->Bd->Tr):Tr:=match o with
 |.add=>K (i+j) (p.add q)
 |.sub=>K (i -j) (p.sub q)
 |.mul=>mI (p.in (-9223372036854775808) 9223372036854775808) (sR i) (K (i*j)<|p.mul q)
 |.nK=>mI (q.in 1 1073741823) (1<=j/\j<=1073741823) (K (i/j)<|p.nK q)
 |.mN=>mI (Bd.lt (.b 0 0) q) (0 <j) (K (i% j)<|p.mN q)
 |.o0=>mI (p.in (-9223372036854775808) 9223372036854775808) (sR i) (mI (q.in 0 100) (0<=j/\j<=100)<|K (i^j.toNat)<|p.o0 q)
 |.wt=>mI (Bd.le (.b 0 0) q) (0<=j) (K (i/2^j.toNat)<|p.nK<|Bd.o0 (.b 2 2) q)
 |.ro=> .aR
noncomputable def bK(b:Bool)(t:Tr):Tr:=match b with
 |aa=>t
 |ae=> .aR
def mh(n:Nat)(t:Tr):Tr:= .eh (bK (eZ n 1000000) t) (.jT (a_ n) t)
def Co(l:List V)(g:G)(K:SV->G->Tr):Tr:=mh l.length (K (.op<|.fl l) g)
def mM(o:SO)(g:G)(K:SV->G->Tr):Tr:= .all λa=>tX g (a,o) 0 λn g=>K (.ref n a) g
noncomputable def H9(o:jM)(a b:SV)(g:G)(K:SV->G->Tr):Tr:=match o with
 |.add=>sw a.cls 6 (a.l λl=>b.l λm=>Co (l++m) g K) (sw a.cls 5 (a.t λl=>b.t λm=>mh (l++m).length<|K (.op<|.aj<|l++m) g)
   (sw a.cls 9 (a.r λk _=>gk g k (λ_ _=> .aR) (λl=>b.l λm=>Co (l++m) g K) λ_=> .aR)<|a.i λi p=>b.i λj q=>xM .add i p j q λi p=>K (.int i p) g))
 |.ro=>a.l λl=>b.l λm=> .jT (a_ (l++m).length) (mM (.list<|l++m) g K)
 |o=>a.i λi p=>b.i λj q=>xM o i p j q λi p=>K (.int i p) g
noncomputable def xQ:List V->(List Int->Tr)->Tr
 |[],k=>k []
 |v::r,k=>oK (md v) λi=>xQ r λl=>k (i::l)
noncomputable def kf(o:mX)(a b:SV)(g:G)(T F:G->Tr):Tr:=
 let k:=λy n p=>vG y n p (T g) (F g)
 let itz:=λf=>a.i λi p=>b.i λj q=>f i p j q
 match o with
 |.eq=>sw b.cls 6 (b.l λm=>oK (if m.isEmpty then U () else Y) λ_=>sw a.cls 9 (a.r λx _=>gk g x (λ_ _=> .aR) (λl=>k ae ae<|l=[]) λ_=> .aR)<|a.l λl=>k ae ae<|l=[])
   (sw b.cls 3 (b.v λw=>oK (AD w) λt=>a.v λv=>oK (AD v) λs=>k ae ae<|s=t)
   (sw a.cls 0 (b.i λ_ _=>k ae aa False)<|itz λi p j q=>k (p.le q&&q.le p) (p.lt q||q.lt p)<|i=j))
 |.ne=>sw b.cls 6 (b.l λm=>cond m.isEmpty (a.l λl=>k ae ae (¬l=[]))<|a.l λl=> .jT (l=m/\l.all (fT 7)=aa)<|F g)
   (sw b.cls 5 (b.t λm=>a.t λl=> .jT (l=m/\l.all (fT 7)=aa)<|F g)<|sw b.cls 1 (a.bo λx=>b.bo λy=>k (x !=y) (x==y) (¬x=y))<|itz λi p j q=>k (p.lt q||q.lt p) (p.le q&&q.le p) (¬i=j))
 |.lt=>itz λi p j q=>k (p.lt q) (q.le p) (i <j)
 |.le=>itz λi p j q=>k (p.le q) (q.lt p) (i<=j)
 |.gt=>itz λi p j q=>k (q.lt p) (p.le q) (j <i)
 |.ge=>itz λi p j q=>k (q.le p) (p.lt q) (j<=i)
 |.is=>sw b.cls 0 (sw a.cls 0 (k aa ae True)<|k ae aa False) .aR
 |.ml=>sw b.cls 0 (sw a.cls 0 (k ae aa False)<|k aa ae True) (a.v λv=>oK (vk v) λx=>b.v λw=>oK (vk w) λy=>k ae ae (¬x.1=y.1))
 |.oV=>a.i λi _=>sw b.cls 9 (b.r λx _=>gk g x (λ_ _=> .aR) (λ_=> .aR) λes=> .eh (k (bw es i).isSome (!(bw es i).isSome)<|(bw es i).isSome=aa)<|k ae ae<|(bw es i).isSome=aa)
   (sw b.cls 5 (b.t λl=>xQ l λm=>k ae ae<|i∈m)<|sw b.cls 6 (b.l λl=>xQ l λm=>k ae ae<|i∈m)<|b.v λw=>oK (o5 w) λes=> .eh (k (bw es i).isSome (!(bw es i).isSome)<|(bw es i).isSome=aa)<|k ae ae<|(bw es i).isSome=aa)
 |.sC=>a.i λi _=>sw b.cls 9 (b.r λx _=>gk g x (λ_ _=> .aR) (λ_=> .aR) λes=> .eh (k (!(bw es i).isSome) (bw es i).isSome (¬(bw es i).isSome=aa))<|k ae ae (¬(bw es i).isSome=aa)) (b.v λw=>oK (o5 w) λes=> .eh (k (!(bw es i).isSome) (bw es i).isSome (¬(bw es i).isSome=aa))<|k ae ae (¬(bw es i).isSome=aa))
section
variable{g:G}{X:Prop}{a b:SV}
theorem eF{n m}{x y}(t:au d hb B F<|sw n m x y)(l:bF n m=aa->au d hb B F x->X)(r:au d hb B F y->X):X:=by
 unfold sw at t
 cases e:bF n m <;>rw[e] at t
 ·exact r t
 ·exact l e t
abbrev Kq(d:Nat)(hb:H)(B:List ai)(F:SF->SL->G->Prop)(g:G)(K:SV->G->Tr)(Q:V->H->Prop):Prop:= ∀c h' v,G.le g c->Hd hb B c h'->aN c v->au d hb B F (K v c)->Q (den v) h'
theorem ao9{o}{i j}{p q}{K}{Q}(t:au d hb B F<|xM o i p j q K)(a:p.ok i)(b:q.ok j)(z: ∀k r,r.ok k->au d hb B F (K k r)->Q (.int k) h):gY h Q o (.int i)<|.int j:=match o,t with
 |.add,t=> .jg (z _ _ (Bd.Ce a b) t)
 |.sub,t=> .vF (z _ _ (Bd.am2 a b) t)
 |.mul,t=>have t:=pM (Bd.rJ a) t; .z_ t.1 (z _ _ (Bd.Vv a b) t.2)
 |.nK,t=>have t:=pM (Bd.rJ b) t; .Sy (jF dd t.1.1) (g8 t.1.2 dd) (z _ _ (Bd.H6 a b) t.2)
 |.mN,t=>have t:=pM (Bd.rA (p:= .b 0 0) ⟨aU 0,aU 0⟩ b) t; .Mw t.1 (z _ _ (Bd.aH2 a b) t.2)
 |.o0,t=>have t:=pM (Bd.rJ a) t;have s:=pM (Bd.rJ b) t.2; .aF3 t.1 s.1.1 s.1.2 (z _ _ (Bd.HG a b) s.2)
 |.wt,t=>have t:=pM (Bd.o8 (p:= .b 0 0) ⟨aU 0,aU 0⟩ b) t; .Y8 t.1 (z _ _ (Bd.H6 a<|Bd.HG (p:= .b 2 2) ⟨dd,dd⟩ b) t.2)
 |.ro,t=>t.elim
theorem H7{x}{k:Nat->G->Tr}(t:au d hb B F<|tX g x 0 k):au d hb B F<|k g.length<|g++[x]:=by
 rw[Lq,gM] at t;exact t
theorem OV{o}{K}{x}{c}(t:au d hb B F<|mM o g K)(D:Hd hb B g h)(e:h c=Y)(l:o.at<|U x)(ok:o.ok g)
  (z: ∀f v,G.le g f->Hd hb B f (h.cr c x)->aN f v->den v= .ref c->au d hb B F (K v f)->X):X:=
 z (g++[(c,o)]) (.ref g.length c) Ai (D.new e (by rw[H.kM];exact l) (λ_ n=>H.jN n) ok) ⟨o,B0 g⟩ rfl (H7<|t c)
theorem hJ{c}{t}(h:au d hb B F<|bK c t):c=aa/\au d hb B F t:=by
 cases c
 ·exact h.elim
 ·exact⟨rfl,h⟩
theorem fi{n}{t}(h:au d hb B F<|mh n t):a_ n/\au d hb B F t:=iD h (λh=>have h:=hJ h;⟨d6 h.1,h.2⟩) id
theorem Xs{o}{K}{Q}(D:Hd hb B g h)(f:aN g a)(ob:aN g b)(t:au d hb B F<|H9 o a b g K)(z:Kq d hb B F g K Q):gY h Q o (den a)<|den b:=by
 have itz: ∀o,au d hb B F (a.i λi p=>b.i λj q=>xM o i p j q λi p=>K (.int i p) g)->gY h Q o (den a) (den b):=λo t=>
  SV.fZ t f λi p ea s t=>SV.fZ t ob λj q eb u t=>by rw[ea,eb];exact ao9 t s u λk r ok t=>z g h (.int k r) (G.le_refl g) D ok t
 cases o
 case add=>
  exact eF t (λ_ t=>SV.i4 t λl ea t=>SV.i4 t λm eb t=>by have t:=fi t;rw[ea,eb];exact .vN t.1<|z g h (.op<|.fl<|l++m) (G.le_refl g) D tI t.2) λt=>
   eF t (λ_ t=>SV.rn t λl ea t=>SV.rn t λm eb t=>by have t:=fi t;rw[ea,eb];exact .MZ t.1<|z g h (.op<|.aj<|l++m) (G.le_refl g) D tI t.2) λt=>
   eF t (λ_ t=>SV.iA t f λk c ea oc t=>gK D oc t (λ_ _ _ _ _ t=>t.elim) (λ_ l _ _ hl t=>SV.i4 t λm eb t=>by have t:=fi t;rw[ea,eb];exact .Yz hl t.1<|z g h (.op<|.fl<|l++m) (G.le_refl g) D tI t.2) λ_ _ _ t=>t.elim) (itz _)
 case ro=>
  have t:au d hb B F<|a.l λl=>b.l λm=> .jT (a_ (l++m).length)<|mM (.list<|l++m) g K:=t
  exact SV.i4 t λl ea t=>SV.i4 t λm eb t=>by have t:=uo t;rw[ea,eb];exact .UF t.1 λx e=>OV t.2 D e rfl tI λw v l D o e t=>e▸z _ _ v l D o t
 all_goals exact itz _ t
theorem Fe: ∀{l:List V} {k:List Int->Tr},au d hb B F (xQ l k)-> ∃m,l=vi m/\au d hb B F (k m)
 |[],_,t=>⟨[],rfl,t⟩
 |v::r,k,t=>ca t λi e t=>(Fe t).elim λm w=>⟨i::m,by rw[Aw e,w.1];rfl,w.2⟩
end
section
variable{X:Prop}
theorem pu:bF a.cls 0=aa->den a= .none:=SV.casesOn a
 (λv=>V.casesOn v (λ_=>rfl) (λ_ e=>nomatch e) (λ_ e=>nomatch e) (λ_ e=>nomatch e) (λ_ e=>nomatch e) (λ_ e=>nomatch e) (λ_ e=>nomatch e) (λ_ _ _ e=>nomatch e) (λ_ e=>nomatch e) λ_ e=>nomatch e)
 (λ_ _ e=>nomatch e) (λ_ _ e=>nomatch e) (λ_ e=>nomatch e) λ_ e=>nomatch e
theorem tt:bF a.cls 0=ae->sh (den a)=ae:=SV.casesOn a
 (λv=>V.casesOn v (λe=>nomatch e) (λ_ _=>rfl) (λ_ _=>rfl) (λ_ _=>rfl) (λ_ _=>rfl) (λ_ _=>rfl) (λ_ _=>rfl) (λ_ _ _ _=>rfl) (λ_ _=>rfl) λ_ _=>rfl)
 (λ_ _ _=>rfl) (λ_ _ _=>rfl) (λ_ _=>rfl) λ_ _=>rfl
theorem fP(t:au d hb B F<|sw n m x y)(l:bF n m=aa->au d hb B F x->X)(r:bF n m=ae->au d hb B F y->X):X:=by
 unfold sw at t
 cases e:bF n m <;>rw[e] at t
 ·exact r e t
 ·exact l e t
theorem Ak{b}(e:(!b)=aa): ¬b=aa:=λf=>by rw[f] at e;cases e
theorem rR{p:Prop}(e:ae=aa):p:=nomatch e
theorem emp{α:Type}{m:List α}(t:au d hb B F<|oK (if m.isEmpty then U () else Y) k)(x:m=[]->au d hb B F (k ())->X):X:=by
 cases m
 ·exact x rfl t
 ·exact t.elim
theorem tJ{T E}{J:Prop->Prop}(D:Hd hb B g h)(N:aN g a)(ob:aN g b)(t:au d hb B F<|kf o a b g T E)(z: ∀p,(p->au d hb B F (T g))/\(¬p->au d hb B F (E g))->J p):cy h J o (den a)<|den b:=by
 have itz: ∀{f:Int->Bd->Int->Bd->Tr} {X:Prop},au d hb B F (a.i λi p=>b.i λj q=>f i p j q)->(∀i p j q,den a= .int i->den b= .int j->p.ok i->q.ok j->au d hb B F (f i p j q)->X)->X:=λt x=>
  SV.fZ t N λi p ea u t=>SV.fZ t ob λj q eb A t=>x i p j q ea eb u A t
 have J0: ∀{p:Prop},au d hb B F (vG ae ae p (T g)<|E g)->J p:=λt=>z _ (j0 rR rR t)
 have JT:au d hb B F (vG aa ae True (T g)<|E g)->J True:=λt=>z _ (j0 (λ_=>tI) rR t)
 have JF:au d hb B F (vG ae aa False (T g)<|E g)->J False:=λt=>z _ (j0 rR (λ_=>id) t)
 have eqy: ∀{i j:Int} {p q:Bd},p.ok i->q.ok j->(p.le q&&q.le p)=aa->i=j:=λa b e=>have e:=fG.mp e;qS (Bd.o8 a b e.1) (Bd.o8 b a e.2)
 have eqn: ∀{i j:Int} {p q:Bd},p.ok i->q.ok j->(p.lt q||q.lt p)=aa-> ¬i=j:=λa b e=>(xm.mp e).elim (λe=>aS1<|Bd.rA a b e) λe=>pA (Bd.rA b a e)
 cases o
 case eq=>
  exact fP t (λ_ t=>SV.i4 t λm eb t=>emp t λem t=>by
    rw[eb,em]
    exact fP t (λ_ t=>SV.iA t N λx c ea oc t=>gK D oc t (λ_ _ _ _ _ t=>t.elim) (λ_ l _ _ hl t=>by rw[ea];exact .ak2 hl<|J0 t) λ_ _ _ t=>t.elim) λ_ t=>SV.i4 t λl ea t=>ea▸ .ae9 (J0 t)) λ_ t=>
   fP t (λ_ t=>SV.i8 t λw eb t=>ca t λW es t=>SV.i8 t λv ea t=>ca t λs Q t=>by rw[ea,eb,Eo es,Eo Q];exact .an1<|J0 t) λ_ t=>
   fP t (λc t=>SV.fZ t ob λi p eb _ t=>pu c▸eb▸ .Yx (JF t)) λ_ t=>itz t λi p j q ea eb u A t=>by rw[ea,eb];exact .Mk (z _<|j0 (eqy u A) (eqn u A) t)
 case ne=>
  have nd: ∀{l m:List V},au d hb B F (.jT (l=m/\l.all (fT 7)=aa)<|E g)->(l=m/\m.all (fT 7)=aa)/\J False:=λt=>
   have t:=uo t
   ⟨⟨t.1.1,t.1.1▸t.1.2⟩,z _ ⟨AT,λ_=>t.2⟩⟩
  exact fP t (λ_ t=>SV.i4 t λm eb t=>by
    rw[eb]
    cases m with
    |nil=>exact SV.i4 t λl ea t=>by rw[ea];exact .aQ3 (J0 t)
    |cons x m=>exact SV.i4 (k:=λl=> .jT (l=x::m/\l.all (fT 7)=aa)<|E g) t λl ea t=>by rw[ea,(nd t).1.1];exact .JO (nd t).1.2 (nd t).2) λ_ t=>
   fP t (λ_ t=>SV.rn t λm eb t=>SV.rn t λl ea t=>by rw[ea,eb,(nd t).1.1];exact .JN (nd t).1.2 (nd t).2) λ_ t=>
   fP t (λ_ t=>SV.vh t λx ea t=>SV.vh t λy eb t=>by
    rw[ea,eb]
    exact .J1<|z _<|j0 (λe=>bne_iff_ne.mp e) (λe n=>n<|eq_of_beq e) t) λ_ t=>
   itz t λi p j q ea eb u A t=>by rw[ea,eb];exact .zE (z _<|j0 (eqn u A) (λe n=>n<|eqy u A e) t)
 case lt=>exact itz t λi p j q ea eb u A t=>by rw[ea,eb];exact .L5 (z _<|j0 (Bd.rA u A) (λe=>fH.mpr<|Bd.o8 A u e) t)
 case le=>exact itz t λi p j q ea eb u A t=>by rw[ea,eb];exact .DO (z _<|j0 (Bd.o8 u A) (λe=>n6.mpr<|Bd.rA A u e) t)
 case gt=>exact itz t λi p j q ea eb u A t=>by rw[ea,eb];exact .qe (z _<|j0 (Bd.rA A u) (λe=>fH.mpr<|Bd.o8 u A e) t)
 case ge=>exact itz t λi p j q ea eb u A t=>by rw[ea,eb];exact .Zp (z _<|j0 (Bd.o8 A u) (λe=>n6.mpr<|Bd.rA u A e) t)
 case «is»=>exact fP t (λc t=>by rw[pu c];exact fP t (λc t=>by rw[pu c];exact .ar8<|JT t) λc t=> .SW (tt c)<|JF t) λ_ t=>t.elim
 case ml=>
  exact fP t (λc t=>by rw[pu c];exact fP t (λc t=>by rw[pu c];exact .Qm<|JF t) λc t=> .Jo (tt c)<|JT t) λ_ t=>
   SV.i8 t λv ea t=>ca t λx ex t=>SV.i8 t λw eb t=>ca t λy K t=>by rw[ea,eb,wv ex,wv K];exact .at3 (J0 t)
 case oV=>
  exact SV.fZ t N λi p ea u t=>by
   rw[ea]
   exact fP t (λ_ t=>SV.iA t ob λx c eb oc t=>gK D oc t (λ_ _ _ _ _ t=>t.elim) (λ_ _ _ _ _ t=>t.elim) λl _ hl t=>by rw[eb];exact .ab0 hl<|iD t (λt=>z _<|j0 id Ak t) J0) λ_ t=>
    fP t (λ_ t=>SV.rn t λl eb t=>(Fe t).elim λm w=>by rw[eb,w.1];exact .ak7<|J0 w.2) λ_ t=>
    fP t (λ_ t=>SV.i4 t λl eb t=>(Fe t).elim λm w=>by rw[eb,w.1];exact .Po<|J0 w.2) λ_ t=>
    SV.i8 t λw eb t=>ca t λy K t=>by rw[eb,pR K];exact .ak5 (iD t (λt=>z _<|j0 id Ak t) J0)
 case sC=>
  exact SV.fZ t N λi p ea u t=>by
   rw[ea]
   exact fP t (λ_ t=>SV.iA t ob λx c eb oc t=>gK D oc t (λ_ _ _ _ _ t=>t.elim) (λ_ _ _ _ _ t=>t.elim) λl _ hl t=>by rw[eb];exact .Vl hl<|iD t (λt=>z _<|j0 Ak (λe n=>n e) t) J0) λ_ t=>
    SV.i8 t λw eb t=>ca t λy K t=>by rw[eb,pR K];exact .Um (iD t (λt=>z _<|j0 Ak (λe n=>n e) t) J0)
end
noncomputable def dz(v:V):SV:=match md v with
 |U i=> .int i .no
 |Y=> .op v
def e_(v:V):SV:=match md v with
 |U i=> .int i (.b i i)
 |Y=> .op v
noncomputable def sr(a:SV)(g:G)(T F:G->Tr):Tr:=a.bo λb=>match b with
 |aa=>T g
 |ae=>F g
noncomputable def BE(a:SV)(f:Nat)(g:G)(K:SV->G->Tr):Tr:=sw a.cls 9 (a.r λk _=>gk g k (λ_ fs=>vq .aR fs f λv=>K v g) (λ_=> .aR) λ_=> .aR)
 (a.v λv=>oK (vk v) λx=>match bc x.2.2 f with
  |U v=>K (dz v) g
  |Y=>oK (I.vH x.2.1 f) λv=>K (e_ v) g)
def Du(a:SV)(f:Nat)(w:SV)(g:G)(K:G->Tr):Tr:=a.r λk x=>gk g k (λc fs=>bK (I.nG c f&&eZ fs.length 100)<|yE fs f w λfs=>bx g k x (.aK c fs) K) (λ_=> .aR) λ_=> .aR
noncomputable def Bd.lit(p:Bd):Option Nat:=match p with
 |.b (.ofNat n) (.ofNat m)=>match bF n m&&eZ n 1000 with|aa=>U n|ae=>Y
 |_=>Y
noncomputable def qt(T:V->Prop)(g:G)(K:SV->G->Tr):Tr:= .Qa T g λw=>K w g
noncomputable def uF(l:List V)(i:Int)(p:Bd)(g:G)(K:SV->G->Tr):Tr:=match p.lit with
 |U n=>gy .aR l n λv=> .eh (K (e_ v) g) (K (dz v) g)
 |Y=>mI (p.in 0 4611686018427387904) (0<=i/\i<=4611686018427387904) (qt (λv=>ah l i.toNat=U v) g K)
def DI(l:List<|Int×V)(i:Int)(g:G)(K:SV->G->Tr):Tr:= .eh (oK (bw l i) λv=>K (dz v) g) (qt (λv=>bw l i=U v) g K)
noncomputable def tE{α:Type}:List α->(α->Tr)->Tr
 |[],_=> .aR
 |[x],k=>k x
 |_::y::r,k=>tE (y::r) k
noncomputable def Bd.m1(p:Bd):Bool:=match p with
 |.b (.negSucc n) (.negSucc m)=>bF n 0&&bF m 0
 |_=>ae
noncomputable def KG(a:SV)(g:G)(K:SV->G->Tr):Tr:=match a with
 |.fl l=>tE l λv=>K v g
 |.op v=>oK (qv v) λl=>tE l λv=>K (dz v) g
 |.ref k _=>xg g k (λl=>tE l λv=>K v g) (gk g k (λ_ _=> .aR) (λl=> .eh (tE l λv=>K (dz v) g)<|qt (λv=> ∃m,l=m++[v]) g K) λ_=> .aR)
 |_=> .aR
def F3(l:List SV)(i:Int)(p:Bd)(g:G)(K:SV->G->Tr):Tr:=match p.lit with
 |U n=>gy .aR l n λv=>K v g
 |Y=>uF (bf l) i p g K
noncomputable def F7(a b:SV)(g:G)(K:SV->G->Tr):Tr:=b.i λi p=>match p.m1 with
 |aa=>KG a g K
 |ae=>match a with
 |.aj l=>F3 l i p g K
 |.fl l=>oK p.lit λn=>gy .aR l n λv=>K v g
 |.op v=>sw v.ctorIdx 5 (oK (uv v) λl=>uF l i p g K) (sw v.ctorIdx 6 (oK (qv v) λl=>uF l i p g K)
   (sw v.ctorIdx 4 (oK (wJ v) λl=>match p.lit with|U n=>gy .aR l n λi=>K (.int i .no) g|Y=>mI (p.in 0 4611686018427387904) (0<=i/\i<=4611686018427387904)<|qt (λv=>ah (vi l) i.toNat=U v) g K)<|oK (o5 v) λl=>DI l i g K))
 |.ref k _=>xg g k (λl=>oK p.lit λn=>gy .aR l n λv=>K v g) (gk g k (λ_ _=> .aR) (λl=>uF l i p g K) λl=>DI l i g K)
 |_=> .aR
def BK(a b w:SV)(g:G)(K:G->Tr):Tr:=a.r λk x=>b.i λi p=>xg g k (λl=>oK p.lit λn=>bK (eZ l.length 1000000)<|kh .aR l n w λm=>bx g k x (.ls m) K) (gk g k (λ_ _=> .aR) (λl=>match p.lit with
  |U n=>gy .aR l n λ_=>bK (eZ l.length 1000000) (bx g k x (.list<|ef l i.toNat<|den w) K)
  |Y=> .jT ((0<=i/\i <l.length)/\a_ l.length)<|bx g k x (.list<|ef l i.toNat<|den w) K)
 λl=> .eh (bK (eZ l.length 1000000)<|bx g k x (.dict<|eX l i<|den w) K)<|.jT (a_ l.length)<|bx g k x (.dict<|eX l i<|den w) K)
def rH(k:Nat)(x:ai)(g:G)(K:SV->G->Tr):Tr:=gk g k (λc fs=>bx g k x .fV λg=>K (.op<|.fz x c<|b8 fs) g) (λl=>bx g k x .fV λg=>K (.op<|.fl l) g) λl=>bx g k x .fV λg=>K (.op<|.fd l) g
noncomputable def As:List SV->G->(List SV->G->Tr)->Tr
 |[],g,K=>K [] g
 |v::r,g,K=>sw v.cls 9 (v.r λk x=>rH k x g λw g=>As r g λl g=>K (w::l) g) (As r g λl g=>K (v::l) g)
noncomputable def On(a:SV)(g:G)(K:SV->G->Tr):Tr:=match a with
 |.ref k x=>rH k x g K
 |.aj l=>As l g λl g=>K (.aj l) g
 |_=> .aR
def KL(a:SV)(g:G)(K:SV->G->Tr):Tr:=a.i λi p=>K (.int (-i) p.neg) g
def Bd.abs(p:Bd):Bd:=p.d3 p λl u _ _=> .b 0 (if -l<=u then u else -l)
def qk(n:Nat)(g:G)(K:SV->G->Tr):Tr:= .eh (bK (eZ n 1000000)<|K (.int n<|.b n n) g) <|.jT (a_ n) (K (.int n<|.b 0 1000000) g)
def P5(a:SV)(g:G)(K:SV->G->Tr):Tr:=sw a.cls 9 (a.r λk _=>gk g k (λ_ _=> .aR) (λl=>qk l.length g K) λl=>qk l.length g K)
 (sw a.cls 6 (a.l λl=>qk l.length g K)<|sw a.cls 5 (a.t λl=>qk l.length g K)<|sw a.cls 4 (a.v λv=>oK (wJ v) λl=>qk l.length g K)<|sw a.cls 3 (a.v λv=>oK (AD v) λl=>qk l.length g K)<|a.v λv=>oK (o5 v) λl=>qk l.length g K)
noncomputable def PW(t:Ty)(a:SV)(g:G)(K:SV->G->Tr):Tr:=match t with
 |.int=>sw a.cls 2 (K (.op<|.bool aa) g) .aR
 |.bool=>sw a.cls 2 (K (.op<|.bool ae) g) .aR
 |.tuple=>sw a.cls 5 (K (.op<|.bool aa) g) .aR
 |.str=>sw a.cls 3 (K (.op<|.bool aa) g) .aR
 |.bytes=>sw a.cls 4 (K (.op<|.bool aa) g) .aR
def EX(l:List V)(g:G)(K:SV->G->Tr):Tr:=mh l.length (K (.op<|.aj l) g)
noncomputable def MH(b:Bi)(a:SV)(r:List SV)(g:G)(K:SV->G->Tr)(no:Tr):Tr:=match r with
 |[]=>match b with
  |.gh t=>PW t a g K
  |.len=>P5 a g K
  |.abs=>a.i λi p=>K (.int i.natAbs p.abs) g
  |.tuple=>sw a.cls 5 (a.t λl=>EX l g K) (sw a.cls 6 (a.l λl=>EX l g K)<|sw a.cls 9 (a.r λk _=>gk g k (λ_ _=> .aR) (λl=>EX l g K) λ_=> .aR)<|a.v λv=>oK (wJ v) λl=>mh l.length<|K (.op<|.aj<|vi l) g)
  |.list aa=>a.l λl=>Co l g K
  |.list ae=>a.r λk _=>gk g k (λ_ _=> .aR) (λl=>mh l.length<|mM (.list l) g K) λ_=> .aR
  |.dict aa=>a.v λv=>oK (o5 v) λl=>mh l.length (K (.op<|.fd l) g)
  |.dict ae=>a.r λk _=>gk g k (λ_ _=> .aR) (λ_=> .aR) λl=>mh l.length (mM (.dict l) g K)
  |_=>no
 |[c]=>match b with
  |.max=>a.i λi _=>c.i λj _=>K (.int (dM i [j]) .no) g
  |_=>no
 |_=>no
noncomputable def PR(k:Nat)(x:ai)(m:Nat)(vs:List SV)(g:G)(K:SV->G->Tr):Tr:=gk g k (λ_ _=> .aR) (λl=>match vs with
 |[v]=>sw m 0 (mh (l.length+1)<|bx g k x (.list<|l++[den v]) λg=>K (.op .none) g)
   (sw m 2 (sw v.cls 6 (v.l λe=>mh (l++e).length<|bx g k x (.list<|l++e) λg=>K (.op .none) g)<|v.r λj _=>bK (!bF j k)<|gk g j (λ_ _=> .aR) (λe=>mh (l++e).length<|bx g k x (.list<|l++e) λg=>K (.op .none) g) λ_=> .aR) .aR)
 |_=> .aR) λ_=> .aR
noncomputable def BR(es:List<|Int×V)(vs:List SV)(g:G)(K:SV->G->Tr):Tr:=match vs with
 |[v]=>v.i λi _=> .eh (K (dz<|(bw es i).getD .none) g) (qt (λw=>(bw es i).getD .none=w) g K)
 |[v,u]=>v.i λi _=> .eh (K (dz<|(bw es i).getD<|den u) g) (qt (λw=>(bw es i).getD (den u)=w) g K)
 |_=> .aR
abbrev qb:=Nat->List SV->G->(SV->G->Tr)->Tr
noncomputable def Fb{α:Type}(o:Option α)(t:Tr):Tr:=match o with
 |Y=>t
 |U _=> .aR
def El(C:qb)(m:Nat)(a:SV)(es:G->(List SV->G->Tr)->Tr)(g:G)(K:SV->G->Tr):Tr:=
 sw a.cls 9 (a.r λk x=>gk g k (λc fs=>Fb (bc fs<|I.mf m)<|oK (I.nq c m) λf=>es g λvs g=>C f (a::vs) g K)
   (λ_=>bK (eZ m 2)<|es g λvs g=>PR k x m vs g K) λ_=>sw m 3 (es g λvs g=>gk g k (λ_ _=> .aR) (λ_=> .aR) λl=>BR l vs g K) .aR)
  (sw a.cls 7 (a.v λv=>oK (vk v) λx=>Fb (bc x.2.2<|I.mf m)<|oK (I.nq x.2.1 m) λf=>es g λvs g=>C f (a::vs) g K)
   (a.v λv=>oK (o5 v) λl=>sw m 3 (es g λvs g=>BR l vs g K) .aR))
structure R where
 v:(SV->G->Tr)->Tr
 t:(G->Tr)->(G->Tr)->Tr
 i:(List SV->G->Tr)->Tr
noncomputable def tB(e:Int×V):SV:= .int e.1 (.b e.1 e.1)
def FZ(a:SV)(g:G)(K:List SV->G->Tr):Tr:=a.v λv=>oK (o5 v) λl=>bK (eZ l.length 1000000) (K (l.map λe=> .aj [tB e,dz e.2]) g)
noncomputable def SV.Ci(a:SV)(k:List SV->Tr):Tr:=match a with
 |.fl l=>k l
 |.op v=>oK (qv v) λl=>k (l.map dz)
 |_=> .aR
noncomputable def vm(n:Int)(p:Bd):List SV->List SV
 |[]=>[]
 |v::r=> .aj [.int n p,v]::vm (n+1) (p.add<|.b 1 1) r
def JK(l:List SV)(g:G)(K:List SV->G->Tr):Tr:=match l with
 |[a]=>a.Ci λxs=>K (vm 0 (.b 0 0) xs) g
 |[a,c]=>a.Ci λxs=>c.i λi p=>bK (p.in (-1099511627776) 1099511627776) (K (vm i p xs) g)
 |_=> .aR
noncomputable def IB(a:SV)(g:G)(K:List SV->G->Tr):Tr:=match a with
 |.aj l=>K l g
 |.fl l=>K l g
 |.op v=>sw v.ctorIdx 5 (oK (uv v) λl=> .eh (K (l.map e_) g)<|K (l.map dz) g) (sw v.ctorIdx 6 (oK (qv v) λl=> .eh (K (l.map e_) g)<|K (l.map dz) g)<|oK (o5 v) λl=>bK (eZ l.length 1000000)<|K (l.map tB) g)
 |_=> .aR
def dR(v:(SV->G->Tr)->Tr):R:=⟨v,λT F=>v λa g=>sr a g T F,λK=>v λa g=>IB a g K⟩
noncomputable def zw(a:Int):Nat->List SV
 |0=>[]
 |n+1=> .int a (.b a a)::zw (a+1) n
def Hm(l:List SV)(g:G)(K:List SV->G->Tr):Tr:=match l with
 |[a]=>a.i λi p=>oK p.lit λn=>K (zw 0 n) g
 |_=> .aR
noncomputable def d3(es:Es):Bool:=match es with
 |.cons _ (.cons _ .nil)=>aa
 |_=>ae
noncomputable def M8(b:Bi)(es:Es):Bool:=match b with
 |.min|.sum|.pd|.bytes|.sorted=>aa
 |.max=> !d3 es
 |_=>ae
noncomputable def E9(b:Bi)(l:List SV)(g:G)(K:SV->G->Tr):Tr:=match l with
 |a::r=>MH b a r g K .aR
 |[]=> .aR
noncomputable def EN(b:Bi)(l:List SV)(g:G)(K:List SV->G->Tr):Tr:=match b with
 |.range=>Hm l g K
 |.kz=>JK l g K
 |_=> .aR
def r4(fr:Bool)(v:SV)(o:SO)(g:G)(K:SV->G->Tr):Tr:=cond fr (K v g) (mM o g K)
noncomputable def yJ(l:List SV)(t:Tr):Tr:=match l with
 |[]=>t
 |_=> .aR
noncomputable def Lx(a l u:SV)(g:G)(K:SV->G->Tr):Tr:=match a with
 |.op v=>sw l.cls 0 (oK (uv v) λxs=>u.i λ_ q=>oK q.lit λm=>bK (eZ (m+1) xs.length&&eZ xs.length 1000000)<|K (.op<|.aj<|xs.take m) g) .aR
 |.fl xs=>bK (eZ xs.length 1000000) (sw l.cls 0 (u.i λ_ q=>oK q.lit λm=>K (.fl<|cB xs 0<|min m xs.length) g)<|l.i λ_ p=>oK p.lit λn=>sw u.cls 0 (K (.fl<|cB xs (min n xs.length) xs.length) g)<|u.i λ_ q=>oK q.lit λm=>K (.fl<|cB xs (min n xs.length)<|min m xs.length) g)
 |_=> .aR
noncomputable def yU(ρ:SL):List Nat->(SL->Tr)->Tr
 |[],K=>K []
 |i::r,K=>gy .aR ρ i λx=>oK x λv=>yU ρ r λl=>K (U v::l)
abbrev TE:=SL->G->R
abbrev Dq:=SL->G->(List SV->G->Tr)->Tr
def F_(c e:TE)(a:SL)(l:List SV):G->(List SV->G->Tr)->Tr:=Q3 (λg K=>K [] g)
 (λv _ ih g K=>(c (U v::a) g).t (λg=>(e (U v::a) g).v λw g=>ih g λws g=>K (w::ws) g) λg=>ih g K) l
def rE(C:qb)(n:Nat)(e:E):TE:=E.rec (motive_2:=λ_=>Dq)
 (λv _ g=>dR λK=>K (e_ v) g)
 (λi ρ g=>dR λK=>gy .aR ρ i λo=>oK o λv=>K v g)
 (λk _ g=>dR λK=>oK (I.gF k) λv=>K (e_ v) g)
 (λo _ _ a b ρ g=>dR λK=>(a ρ g).v λh g=>(b ρ g).v λj g=>H9 o h j g K)
 (λ_ a ρ g=>dR λK=>(a ρ g).v λh g=>KL h g K)
 (λ_ a ρ g=>⟨λK=>(a ρ g).v λv g=>v.bo λb=>K (.op<|.bool (!b)) g,λT F=>(a ρ g).t F T,λ_=> .aR⟩)
 (λ_ _ a b ρ g=>⟨λK=>(a ρ g).v λv g=>sr v g (λg=>(b ρ g).v K) λg=>K (.op<|.bool ae) g,λT F=>(a ρ g).t (λg=>(b ρ g).t T F) F,λ_=> .aR⟩)
 (λ_ _ a b ρ g=>⟨λK=>(a ρ g).v λv g=>sr v g (λg=>K (.op<|.bool aa) g) λg=>(b ρ g).v K,λT F=>(a ρ g).t T λg=>(b ρ g).t T F,λ_=> .aR⟩)
 (λo _ _ a b ρ g=>⟨λK=>(a ρ g).v λh g=>(b ρ g).v λj g=>kf o h j g (λg=>K (.op<|.bool aa) g) λg=>K (.op<|.bool ae) g,λT F=>(a ρ g).v λh g=>(b ρ g).v λj g=>kf o h j g T F,λ_=> .aR⟩)
 (λo p _ _ _ a b c ρ g=>⟨λK=>(a ρ g).v λh g=>(b ρ g).v λj g=>kf o h j g (λg=>(c ρ g).v λs g=>kf p j s g (λg=>K (.op<|.bool aa) g) λg=>K (.op<|.bool ae) g) λg=>K (.op<|.bool ae) g,
  λT F=>(a ρ g).v λh g=>(b ρ g).v λj g=>kf o h j g (λg=>(c ρ g).v λs g=>kf p j s g T F) F,λ_=> .aR⟩)
 (λ_ _ _ t a b ρ g=>dR λK=>(t ρ g).t (λg=>(a ρ g).v K) λg=>(b ρ g).v K)
 (λ_ es ρ g=>dR λK=>es ρ g λl g=>K (.aj l) g)
 (λfr _ es ρ g=>dR λK=>es ρ g λl g=>r4 fr (.fl l) (.list<|bf l) g K)
 (λfr _ _ ks vs ρ g=>dR λK=>ks ρ g λl g=>yJ l<|vs ρ g λm g=>yJ m<|r4 fr (.op<|.fd []) (.dict []) g K)
 (λ_ f a ρ g=>dR λK=>(a ρ g).v λv g=>BE v f g K)
 (λ_ _ a i ρ g=>dR λK=>(a ρ g).v λv g=>(i ρ g).v λi g=>F7 v i g K)
 (λa l u W N z ρ g=>dR λK=> .eh ((W ρ g).v λh g=>(N ρ g).v λA g=>(z ρ g).v λQ g=>Lx h A Q g K)<|.ex n (.sl a l u) ρ g K)
 (λa _ ρ g=>dR λK=> .ex n (.iz a) ρ g K)
 (λf _ es ρ g=>dR λK=>es ρ g λl g=>C f l g K)
 (λk _ es ρ g=>dR λK=>es ρ g λl g=>oK (I.kT k) λf=> .all λa=>tX g (a,.aK k []) 0 λn g=>C f (.ref n a::l) g λv g=>sw v.cls 0 (K (.ref n a) g) .aR)
 (λe m es a q ρ g=>let r:=dR λK=>sw m 1 (.ex n (.me e m es) ρ g K) ((a ρ g).v λv g=>El C m v (q ρ) g K);⟨r.v,r.t,λK=>bK (bF m 4)<|(a ρ g).v λv g=>FZ v g K⟩)
 (λb es q ρ g=>let r:=dR λK=>cond (M8 b es) (.ex n (.bi b es) ρ g K) (q ρ g λl g=>E9 b l g K)
  ⟨r.v,r.t,λK=>q ρ g λl g=>EN b l g K⟩)
 (λfr cs y c t X w D ρ g=>dR λK=> .eh ((X ρ g).i λl g=>bK (eZ l.length 1000000)<|yU ρ cs λZ=>F_ w D Z l g λws g=>r4 fr (.fl ws) (.list<|bf ws) g K)<|.ex n (.comp aa cs y c t) ρ g λv g=>cond fr (K v g)<|v.l λl=>mM (.list l) g K)
 (λ_ a ρ g=>dR λK=>(a ρ g).v λv g=>On v g K)
 (λ_ g K=>K [] g)
 (λ_ _ a r ρ g K=>(a ρ g).v λv g=>r ρ g λl g=>K (v::l) g)
 e
section
variable{d:Nat}{hb:H}{B:List ai}{F:SF->SL->G->Prop}{g:G}{X:Prop}{a b:SV}{h:H}{Q:V->H->Prop}{K:SV->G->Tr}
abbrev Kh(d:Nat)(hb:H)(B:List ai)(F:SF->SL->G->Prop)(g:G)(K:G->Tr)(P:H->Prop):Prop:= ∀c h',G.le g c->Hd hb B c h'->au d hb B F (K c)->P h'
abbrev Ki(d:Nat)(hb:H)(B:List ai)(F:SF->SL->G->Prop)(g:G)(K:List SV->G->Tr)(P:It):Prop:= ∀c h' l,G.le g c->Hd hb B c h'->bD c l->au d hb B F (K l c)->P (bf l) bP h'
abbrev Kl(d:Nat)(hb:H)(B:List ai)(F:SF->SL->G->Prop)(g:G)(K:List SV->G->Tr)(P:List V->H->Prop):Prop:= ∀c h' l,G.le g c->Hd hb B c h'->bD c l->au d hb B F (K l c)->P (bf l) h'
theorem Kq.op{v}(z:Kq d hb B F g K Q)(D:Hd hb B g h)(t:au d hb B F<|K (.op v) g):Q v h:=z g h (.op v) (G.le_refl g) D tI t
theorem Kq.up{j}(z:Kq d hb B F g K Q)(l:G.le g j):Kq d hb B F j K Q:=λg2 h2 v m=>z g2 h2 v (G.le_trans l m)
theorem Kh.up{K P j}(z:Kh d hb B F g K P)(l:G.le g j):Kh d hb B F j K P:=λg2 h2 m=>z g2 h2 (G.le_trans l m)
theorem Ki.up{K P j}(z:Ki d hb B F g K P)(l:G.le g j):Ki d hb B F j K P:=λg2 h2 v m=>z g2 h2 v (G.le_trans l m)
theorem Kl.up{K P j}(z:Kl d hb B F g K P)(l:G.le g j):Kl d hb B F j K P:=λg2 h2 v m=>z g2 h2 v (G.le_trans l m)
theorem vu(v:V):den (dz v)=v/\aN g (dz v):=by
 unfold dz
 exact match e:md v with
 |U i=>⟨(Aw e).symm,tI⟩
 |Y=>⟨rfl,tI⟩
theorem CV(v:V):den (e_ v)=v/\aN g (e_ v):=by
 unfold e_
 exact match e:md v with
 |U i=>⟨(Aw e).symm,aU i,aU i⟩
 |Y=>⟨rfl,tI⟩
theorem Kq.dz{v:V}(z:Kq d hb B F g K Q)(D:Hd hb B g h)(t:au d hb B F<|K (dz v) g):Q v h:=have w:=vu v;w.1▸z g h _ (G.le_refl g) D w.2 t
theorem Kq.e_{v:V}(z:Kq d hb B F g K Q)(D:Hd hb B g h)(t:au d hb B F<|K (e_ v) g):Q v h:=have w:=CV v;w.1▸z g h _ (G.le_refl g) D w.2 t
theorem Kq.pk{T}(z:Kq d hb B F g K Q)(D:Hd hb B g h)(t:au d hb B F<|qt T g K)(x: ∀v,T v->Q v h->X):X:=t.elim λw t=>x _ t.1.1 (z g h w (G.le_refl g) D t.1.2 t.2)
theorem aC9{T E}{j l}(D:Hd hb B g h)(t:au d hb B F<|sr a g T E)(x:Kh d hb B F g T j)(y:Kh d hb B F g E l):tv h j l<|den a:=SV.vh t λb e t=>by
 rw[e]
 exact match b,t with
 |aa,t=>Pe (x g h (G.le_refl g) D t)
 |ae,t=>EA (y g h (G.le_refl g) D t)
theorem Pd{f}(D:Hd hb B g h)(o:aN g a)(t:au d hb B F<|BE a f g K)(z:Kq d hb B F g K Q):kj I h Q (den a) f:=
 eF t (λ_ t=>SV.iA t o λk c e oc t=>gK D oc t (λc fs _ hx ok t=>Nq t λv ev t=>by rw[e];exact .eQ hx (NF ev)<|z g h v (G.le_refl g) D (ok _ _ ev) t) (λ_ _ _ _ _ t=>t.elim) λ_ _ _ t=>t.elim)
  λt=>SV.i8 t λv e t=>ca t λx ex t=>by
   rw[e,wv ex]
   exact match e:bc x.2.2 f with
   |U v=>by rw[e] at t;exact .iG e (z.dz D t)
   |Y=>by rw[e] at t;exact ca t λv ev t=> .zj e ev (z.e_ D t)
theorem K1{f}{w}{K}{P}(D:Hd hb B g h)(o:aN g a)(j:aN g w)(t:au d hb B F<|Du a f w g K)(z:Kh d hb B F g K P):oI I h f (den w) P<|den a:=
 SV.iA t o λk x e oc t=>gK D oc t (λc fs en hx ok t=>by
  have t:=hJ t
  have c:=fG.mp t.1
  have t:=t.2
  rw[Qb] at t
  rw[e]
  refine .ab6 hx c.1 (by unfold b8;rw[bO];exact c.2) ?_
  rw[<-Jc]
  exact ud D en t tI rfl (λm v e=>(H5 e).elim (ok m v) λq=>q▸j) λi l D t=>z i _ l D t) (λ_ _ _ _ _ t=>t.elim) λ_ _ _ t=>t.elim
theorem Bd.k8{p:Bd}{n}{i}(e:p.lit=U n)(o:p.ok i):i=n/\0<=i/\i<=1000:=match p,e,o with
 |.b (.ofNat x) (.ofNat y),e,o=>by
  have e:(match bF x y&&eZ x 1000 with|aa=>U x|ae=>Y)=U n:=e
  cases c:bF x y&&eZ x 1000 <;>rw[c] at e
  ·cases e
  ·have c:=fG.mp c
   have q:=jk c.1
   cases e
   have q:=qS (q▸o.2) o.1
   exact⟨q,q▸dx n,q▸bT.mpr (d6 c.2)⟩
 |.b (.ofNat _) (.negSucc _),e,_|.b (.negSucc _) _,e,_|.no,e,_=>bd e
theorem yx{l}{i}{p}(D:Hd hb B g h)(o:p.ok i)(t:au d hb B F<|uF l i p g K)(z:Kq d hb B F g K Q)(x: ∀v,0<=i->i<=4611686018427387904->ah l i.toNat=U v->Q v h->X):X:=by
 unfold uF at t
 exact match e:p.lit with
 |U n=>by
  rw[e] at t
  have q:=Bd.k8 e o
  exact kV t λv ev t=>x v q.2.1 (az q.2.2 dd) (by rw[q.1];exact ev) (iD t (z.e_ D)<|z.dz D)
 |Y=>by
  rw[e] at t
  have t:=pM (Bd.rJ o) t
  exact z.pk D t.2 λv T q=>x v t.1.1 t.1.2 T q
theorem Ab: ∀{l:List SV} {n:Nat} {v:SV},ah l n=U v->bD g l->ah (bf l) n=U (den v)/\aN g v
 |_::_,0,_,e,o=>by exact iK e ⟨rfl,o.1⟩
 |_::r,n+1,_,e,o=>Ab (n:=n) e o.2
theorem LP{l}{i}(D:Hd hb B g h)(t:au d hb B F<|DI l i g K)(z:Kq d hb B F g K Q)(x: ∀v,bw l i=U v->Q v h->X):X:=
 iD t (λt=>ca t λv e t=>x v e<|z.dz D t) λt=>z.pk (T:=λv=>bw l i=U v) D t x
theorem Jh: ∀{l:List Int} {n:Nat} {i:Int},ah l n=U i->ah (vi l) n=U (.int i)
 |_::_,0,_,e=>by cases e;rfl
 |_::r,n+1,_,e=>Jh (n:=n) e
theorem Wd{l}{i}{p:Bd}(D:Hd hb B g h)(o:p.ok i)(t:au d hb B F (match p.lit with|U n=>gy .aR l n λi=>K (.int i .no) g|Y=>mI (p.in 0 4611686018427387904) (0<=i/\i<=4611686018427387904)<|qt (λv=>ah (vi l) i.toNat=U v) g K))(z:Kq d hb B F g K Q):gi h Q (.a8 l)<|.int i:=match e:p.lit with
 |U n=>by
  rw[e] at t
  have q:=Bd.k8 e o
  exact kV t λv ev t=> .E_ q.2.1 (az q.2.2 dd) (by rw[q.1];exact Jh ev) (z g h (.int v .no) (G.le_refl g) D tI t)
 |Y=>by
  rw[e] at t
  have t:=pM (Bd.rJ o) t
  exact z.pk D t.2 λv T q=> .E_ t.1.1 t.1.2 T q
theorem v3{α}: ∀{l:List α} {k:α->Tr},au d hb B F (tE l k)-> ∃m v,l=m++[v]/\au d hb B F (k v)
 |[],_,t=>t.elim
 |[x],_,t=>⟨[],x,rfl,t⟩
 |x::y::r,k,t=>(v3 (l:=y::r) t).elim λm w=>w.elim λv w=>⟨x::m,v,aA (x:: ·) w.1,w.2⟩
theorem Gx{v}: ∀{m:List SV},bf (m++[v])=bf m++[den v]/\(bD g (m++[v])->aN g v)
 |[]=>⟨rfl,And.left⟩
 |_::m=>have w:=Gx;⟨aA (_) w.1,λo=>w.2 o.2⟩
theorem aJ7{p:Bd}{i}(e:p.m1=aa)(o:p.ok i):i= -1:=match p,e,o with
 |.b (.negSucc n) (.negSucc m),e,o=>by
  have e:=fG.mp e
  have a:=jk e.1
  have b:=jk e.2
  subst a;subst b
  exact qS o.2 o.1
theorem ZL(D:Hd hb B g h)(f:aN g a)(t:au d hb B F<|KG a g K)(z:Kq d hb B F g K Q):gi h Q (den a)<|.int (-1):=match a,f,t with
 |.fl l,f,t=>(v3 t).elim λm w=>w.elim λv w=>by
  have q:=Gx (g:=g) (v:=v) (m:=m)
  show gi h Q (.fl<|bf l) _
  have f:=f
  rw[w.1] at f⊢
  rw[q.1]
  exact .Ir (z g h v (G.le_refl g) D (q.2 f) w.2)
 |.op v,_,t=>ca t λl e t=>(v3 t).elim λm w=>w.elim λv w=>by
  rw[uq e,w.1];exact .Ir (z.dz D w.2)
 |.ref k c,f,t=>xK D f t (λl _ hx ol t=>(v3 t).elim λm w=>w.elim λv w=>by
   have q:=Gx (g:=g) (v:=v) (m:=m)
   rw[w.1,q.1] at hx
   rw[w.1] at ol
   exact .FY hx<|z g h v (G.le_refl g) D (q.2 ol) w.2) λt=>gK D f t (λ_ _ _ _ _ t=>t.elim) (λ_ l _ _ hx t=>Or.elim t (λt=>(v3 t).elim λm w=>w.elim λv w=>by
   rw[w.1] at hx;exact .FY hx<|z.dz D w.2) λt=>z.pk (T:=λv=> ∃m,l=m++[v]) D t λv T q=>T.elim λm e=>by
   rw[e] at hx;exact .FY hx q) λ_ _ _ t=>t.elim
 |.aj _,_,t|.int ..,_,t=>t.elim
theorem aJ1{l}{i}{p}(D:Hd hb B g h)(c:p.ok i)(f:aN g<|.aj l)(t:au d hb B F<|F3 l i p g K)(z:Kq d hb B F g K Q):gi h Q (den<|.aj l)<|.int i:=by
 unfold F3 at t
 exact match e:p.lit with
 |U n=>by
  rw[e] at t
  have q:=Bd.k8 e c
  exact kV t λv ev t=>have w:=Ab ev f; .nh q.2.1 (az q.2.2 dd) (q.1▸w.1) (z g h v (G.le_refl g) D w.2 t)
 |Y=>by
  rw[e] at t
  exact yx D c t z λv h0 h1 e q=> .nh h0 h1 e q
theorem Mi(D:Hd hb B g h)(f:aN g a)(ob:aN g b)(t:au d hb B F<|F7 a b g K)(z:Kq d hb B F g K Q):gi h Q (den a)<|den b:=
 SV.fZ t ob λi p eb c t=>by
  rw[eb]
  cases em:p.m1 <;>rw[em] at t
  case true=>rw[aJ7 em c];exact ZL D f t z
  cases a
  ·exact eF t (λ_ t=>ca t λl e t=>by rw[w6 e];exact yx D c t z λv h0 h1 e q=> .nh h0 h1 e q) λt=>
   eF t (λ_ t=>ca t λl e t=>by rw[uq e];exact yx D c t z λv h0 h1 e q=> .HF h0 h1 e q) λt=>
   eF t (λ_ t=>ca t λl e t=>yZ e▸Wd D c t z) λt=>
   ca t λl e t=>by rw[pR e];exact LP D t z λv T q=> .WK T q
  ·exact t.elim
  ·exact xK D f t (λl _ hx ol t=>ca t λn e t=>kV t λv ev t=>have q:=Bd.k8 e c;have w:=Ab ev ol; .om hx q.2.1 (az q.2.2 dd) (by rw[q.1];exact w.1) (z g h v (G.le_refl g) D w.2 t)) λt=>gK D f t (λ_ _ _ _ _ t=>t.elim) (λ_ l _ _ hx t=>yx D c t z λv h0 h1 e q=> .om hx h0 h1 e q) λl _ hx t=>LP D t z λv T q=> .QH hx T q
  ·exact aJ1 D c f t z
  ·exact ca t λn e t=>kV t λv ev t=>have q:=Bd.k8 e c;have w:=Ab ev f; .HF q.2.1 (az q.2.2 dd) (by rw[q.1];exact w.1) (z g h v (G.le_refl g) D w.2 t)
theorem EU{α}: ∀{l:List α} {i:Nat} {a:α},ah l i=U a->i <l.length
 |_::_,0,_,_=>aS2 _
 |_::l,i+1,_,e=>GH (EU e)
theorem Kk{g}{w}(c:aN g w): ∀{l:List SV} (n:Nat),bD g l->bf (ef l n w)=ef (bf l) n (den w)/\bD g (ef l n w)/\(ef l n w).length=l.length
 |[],_,_=>⟨rfl,tI,rfl⟩
 |_::_,0,o=>⟨rfl,⟨c,o.2⟩,rfl⟩
 |v::r,n+1,o=>have z:=Kk c n o.2;⟨aA (_) z.1,⟨o.1,z.2.1⟩,aA (· +1) z.2.2⟩
theorem nv: ∀l:List SV,(bf l).length=l.length
 |[]=>rfl
 |_::r=>aA (· +1) (nv r)
theorem Kp{w}{K}{P}(D:Hd hb B g h)(u:aN g a)(ob:aN g b)(j:aN g w)(t:au d hb B F<|BK a b w g K)(z:Kh d hb B F g K P):nJ h (den w) P (den a)<|den b:=
 SV.iA t u λk x ea oc t=>SV.fZ t ob λi p eb f t=>xK D oc t
  (λl en hx ol t=>ca t λn e t=>have t:=hJ t;tU t.2 λv ev s=>by
   have q:=Bd.k8 e f
   have y:=Kk j n ol
   rw[ea,eb]
   refine .Fu hx q.2.1 (by rw[q.1,nv];exact mo.mpr<|EU ev) (by rw[nv];exact d6 t.1) ?_
   rw[q.1]
   show P (h.cr x<|.list<|ef (bf l) n<|den w)
   rw[<-y.1]
   exact ud D en s tI rfl y.2.1 λc l D t=>z c _ l D t)
  λt=>gK D oc t (λ_ _ _ _ _ t=>t.elim)
  (λo l lv en hx t=>by
   rw[ea,eb]
   have W:au d hb B F (bx g k x (.list<|ef l i.toNat<|den w) K)->P (h.cr x<|.list<|ef l i.toNat<|den w):=λt=>ud D en t lv rfl tI λc l D t=>z c _ l D t
   exact match e:p.lit with
   |U n=>by
    rw[e] at t
    have q:=Bd.k8 e f
    exact kV t λv ev t=>have t:=hJ t; .Fu hx q.2.1 (by rw[q.1];exact mo.mpr<|EU ev) (d6 t.1) (W t.2)
   |Y=>by rw[e] at t;have t:=uo t;exact .Fu hx t.1.1.1 t.1.1.2 t.1.2<|W t.2)
  λl en hx t=>by
   rw[ea,eb]
   have W:au d hb B F (bx g k x (.dict<|eX l i<|den w) K)->P (h.cr x<|.dict<|eX l i<|den w):=λt=>ud D en t tI rfl tI λc l D t=>z c _ l D t
   exact iD t (λt=>have t:=hJ t; .J7 hx (d6 t.1) (W t.2)) λt=>have t:=uo t; .J7 hx t.1 (W t.2)
theorem Mo{k}{x}(D:Hd hb B g h)(oc: ∃o,ah g k=U (x,o))(t:au d hb B F<|rH k x g K)(z: ∀e v,G.le g e->Hd hb B e (h.lu x)->aN e v->au d hb B F (K v e)->Q (den v) (h.lu x)):nU h Q x:=by
 have fV: ∀{o:SO} {v:V},o.lv->ah g k=U (x,o)->au d hb B F (bx g k x .fV λg=>K (.op v) g)->Q v (h.lu x):=
  λ{o v} ol en t=>tU t λ_ _ t=>z _ (.op v) (jh en) (D.QI en ol (p:= .fV) tI (λ_ n _=>(aE n).trans) tI) tI t
 exact gK D oc t (λc fs en hx _ t=> .VB hx<|fV (o:= .aK c fs) tI en t) (λo l lv en hx t=> .f_l hx<|fV lv en t) λl en hx t=> .f_d hx (fV (o:= .dict l) tI en t)
theorem C9{k}{x}(D:Hd hb B g h)(oc: ∃o,ah g k=U (x,o))(t:au d hb B F<|rH k x g K)(z:Kq d hb B F g K Q):nU h Q x:=Mo D oc t λc v=>z c _ v
theorem Yj{v}{l}{P}:bF v.cls 9=ae->pQ l h (λvs h=>P (den v::vs) h)->pQ (den v::l) h P:=SV.casesOn v
 (λv=>V.casesOn v (λ_ k=>k) (λ_ _ k=>k) (λ_ _ k=>k) (λ_ _ k=>k) (λ_ _ k=>k) (λ_ _ k=>k) (λ_ _ k=>k) (λ_ _ _ _ k=>k) (λ_ _ k=>k) λ_ e=>j4 e)
 (λ_ _ _ k=>k) (λ_ _ e=>j4 e) (λ_ _ k=>k) λ_ _ k=>k
theorem E7: ∀{l:List SV} {g:G} {h:H} {K:List SV->G->Tr} {P:List V->H->Prop},Hd hb B g h->bD g l->au d hb B F (As l g K)->Kl d hb B F g K P->pQ (bf l) h P
 |[],g,h,_,_,D,_,t,z=>z g h [] (G.le_refl g) D tI t
 |v::r,g,h,K,P,D,o,t,z=>fP t
  (λ_ t=>SV.iA t o.1 λk x e oc t=>by
   show pQ (den v::bf r) h P
   exact e▸C9 D oc t λg1 h1 w l1 D f t=>E7 D (rD l1 r o.2) t λg2 h2 ws l2 D c t=>z g2 h2 (w::ws) (G.le_trans l1 l2) D ⟨fR l2 w f,c⟩ t)
  λe t=>Yj e (E7 D o.2 t λg2 h2 ws l2 D c t=>z g2 h2 (v::ws) l2 D ⟨fR l2 v o.1,c⟩ t)
theorem ac3(D:Hd hb B g h)(o:aN g a)(t:au d hb B F<|On a g K)(z:Kq d hb B F g K Q):qx h Q<|den a:=match a,o,t with
 |.ref k x,o,t=> .aA2 (C9 D o t z)
 |.aj l,o,t=> .ae2 (E7 D o t λc h' l m D o t=>z c h' (.aj l) m D o t)
 |.op _,_,t|.int ..,_,t|.fl _,_,t=>t.elim
theorem Bd.ap4{p:Bd}{i}(o:p.ok i):p.abs.ok i.natAbs:=qI o o λl u _ _ a b _ _=>⟨dx _,by split <;>omega⟩
theorem aE4(o:aN g a)(D:Hd hb B g h)(t:au d hb B F<|KL a g K)(z:Kq d hb B F g K Q):r7 h Q<|den a:=SV.fZ t o λi p e o t=>by rw[e];exact .rT (z g h (.int (-i) p.neg) (G.le_refl g) D (Bd.Wy o) t)
end
section
variable{X:Prop}
theorem rY{n}(D:Hd hb B g h)(t:au d hb B F<|qk n g K)(z:Kq d hb B F g K Q)(x:a_ n->Q (.int n) h->X):X:=
 iD t (λt=>have t:=hJ t;x (d6 t.1) (z g h (.int n<|.b n n) (G.le_refl g) D ⟨aU _,aU _⟩ t.2)) λt=>have t:=uo t;x t.1 (z g h (.int n<|.b 0 1000000) (G.le_refl g) D ⟨dx _,bT.mpr t.1⟩ t.2)
theorem aE6(D:Hd hb B g h)(o:aN g a)(t:au d hb B F<|P5 a g K)(z:Kq d hb B F g K Q):cn h Q .len [den a]:=
 eF t (λ_ t=>SV.iA t o λk x e oc t=>by rw[e];exact gK D oc t (λ_ _ _ _ _ t=>t.elim) (λ_ l _ _ hx t=>rY D t z<|.vY hx) λl _ hx t=>rY D t z<|.aR0 hx) λt=>
 eF t (λ_ t=>SV.i4 t λl e t=>by rw[e];exact rY D t z .zN) λt=>
 eF t (λ_ t=>SV.rn t λl e t=>by rw[e];exact rY D t z .aQ8) λt=>
 eF t (λ_ t=>SV.i8 t λv e t=>ca t λl b t=>by rw[e,yZ b];exact rY D t z .ak3) λt=>
 eF t (λ_ t=>SV.i8 t λv e t=>ca t λl b t=>by rw[e,Eo b];exact rY D t z .aP9) λt=>
 SV.i8 t λv e t=>ca t λl b t=>by rw[e,pR b];exact rY D t z .af4
theorem vK{a}{n:Nat}:bF a.cls n=aa->(den a).ctorIdx=n:=SV.casesOn a (λ_=>jk) (λ_ _=>jk) (λ_ _=>jk) (λ_=>jk) λ_=>jk
theorem Z1{t}(D:Hd hb B g h)(k:au d hb B F<|PW t a g K)(z:Kq d hb B F g K Q):cn h Q (.gh t) [den a]:=match t,k with
 |.int,k=>eF k (λc k=>V.int.elim (den a) (vK c) λ_=> .MB<|z.op D k) λk=>k.elim
 |.bool,k=>eF k (λc k=>V.int.elim (den a) (vK c) λ_=> .OO<|z.op D k) λk=>k.elim
 |.tuple,k=>eF k (λc k=>V.aj.elim (den a) (vK c) λ_=> .aD8<|z.op D k) λk=>k.elim
 |.str,k=>eF k (λc k=>V.str.elim (den a) (vK c) λ_=> .ar5<|z.op D k) λk=>k.elim
 |.bytes,k=>eF k (λc k=>V.a8.elim (den a) (vK c) λ_=> .VO<|z.op D k) λk=>k.elim
theorem wy{o}{x}{c}(z:Kq d hb B F g K Q)(t:au d hb B F<|mM o g K)(D:Hd hb B g h)(e:h c=Y)(l:o.at<|U x)(ok:o.ok g):Q (.ref c)<|h.cr c x:=OV t D e l ok λa v l D o e t=>e▸z _ _ v l D o t
theorem ay5{u}{r}{y}(D:Hd hb B g h)(o:aN g a)(or:bD g r)(t:au d hb B F<|MH u a r g K y)(b: ¬au d hb B F y)(z:Kq d hb B F g K Q):cn h Q u<|den a::bf r:=by
 cases r
 ·cases u
  case gh=>exact Z1 D t z
  case len=>exact aE6 D o t z
  case abs=>exact SV.fZ t o λi p e o t=>e▸ .Jj (z g h (.int i.natAbs p.abs) (G.le_refl g) D (Bd.ap4 o) t)
  case tuple=>exact eF t (λ_ t=>SV.rn t λl e t=>e▸ .aA1 (fi t).1 (z.op D (fi t).2)) λt=>eF t (λ_ t=>SV.i4 t λl e t=>e▸ .ar1 (fi t).1 (z.op D (fi t).2)) λt=>eF t (λ_ t=>SV.iA t o λk x e oc t=>e▸gK D oc t (λ_ _ _ _ _ t=>t.elim) (λ_ l _ _ hx t=> .aj6 hx (fi t).1<|z.op D (fi t).2) λ_ _ _ t=>t.elim) λt=>SV.i8 t λv e t=>ca t λl f t=>by show cn h Q .tuple [den a];rw[e,yZ f];exact .I6 (fi t).1 (z.op D (fi t).2)
  case list=>
   cases fr
   ·exact SV.iA t o λk x e oc t=>e▸gK D oc t (λ_ _ _ _ _ t=>t.elim) (λ_ l _ _ hx t=> .ac8 hx (fi t).1 λc ec=>wy z (fi t).2 D ec rfl tI) λ_ _ _ t=>t.elim
   ·exact SV.i4 t λl e t=>e▸ .aE8 (fi t).1 (z.op D (fi t).2)
  case dict=>
   cases fr
   ·exact SV.iA t o λk x e oc t=>e▸gK D oc t (λ_ _ _ _ _ t=>t.elim) (λ_ _ _ _ _ t=>t.elim) λl _ hx t=> .ZP hx (fi t).1 λc ec=>wy z (fi t).2 D ec rfl tI
   ·exact SV.i8 t λv e t=>ca t λl f t=>by show cn h Q (.dict aa) [den a];rw[e,pR f];exact .ao5 (fi t).1 (z.op D (fi t).2)
  all_goals exact absurd t b
 ·cases tail
  ·cases u
   case max=>exact SV.fZ t o λi p e _ t=>SV.fZ t or.1 λj q e' _ t=>by show cn h Q .max [den a,den head];rw[e,e'];exact .aP5 (z g h (.int (dM i [j]) .no) (G.le_refl g) D tI t)
   all_goals exact absurd t b
  ·exact absurd t b
theorem FU{k}{c}{o p}{x}{v}(z:Kq d hb B F g K Q)(D:Hd hb B g h)(e:ah g k=U (c,o))(t:au d hb B F<|bx g k c p λg=>K (.op v) g)(ol:o.lv)(f:p.at<|U x)(a:p.ok g):Q v<|h.cr c x:=ud D e t ol f a λb l D t=>z b _ (.op v) l D tI t
theorem XU{k m}{c}{vs}(D:Hd hb B g h)(oc: ∃o,ah g k=U (c,o))(ov:bD g vs)(t:au d hb B F<|PR k c m vs g K)(z:Kq d hb B F g K Q):nI h Q c m<|bf vs:=
 gK D oc t (λ_ _ _ _ _ t=>t.elim) (λo l lv en hx t=>by
  rcases vs with _|⟨v,_|_⟩
  ·exact t.elim
  ·exact fP t (λem t=>by rw[jk em];exact .wn hx (fi t).1 (FU z D en (fi t).2 lv rfl tI)) λ_ t=>
   fP t (λem t=>by
    rw[jk em]
    show nI h Q c 2 [den v]
    exact eF t (λ_ t=>SV.i4 t λe s t=>s▸ .aG9 hx (fi t).1 (FU z D en (fi t).2 lv rfl tI)) λt=>
     SV.iA t ov.1 λj x e u t=>have t:=hJ t;gK D u t.2 (λ_ _ _ _ _ t=>t.elim) (λo' e' f a b i=>by
      rw[e]
      refine .To hx (λq=> ?_) b (fi i).1 (FU z D en (fi i).2 lv rfl tI)
      have w:=D.inj j k x o' o a (q▸en) f lv
      have p:=t.1
      rw[w,AU] at p
      cases p) λ_ _ _ t=>t.elim) λ_ t=>t.elim
  ·exact t.elim) λ_ _ _ t=>t.elim
theorem Kw{a}{vs}(D:Hd hb B g h)(ov:bD g vs)(t:au d hb B F<|BR a vs g K)(z:Kq d hb B F g K Q):ow h Q a<|bf vs:=match vs,ov,t with
 |[v],ov,t=>SV.fZ t ov.1 λi p e _ t=>by show ow h Q a [den v];rw[e];exact iD t (λt=> .LV<|z.dz D t) λt=>z.pk D t λw T q=> .LV (T.symm▸q)
 |[v,u],ov,t=>SV.fZ t ov.1 λi p e _ t=>by show ow h Q a [den v,den u];rw[e];exact iD t (λt=> .QM<|z.dz D t) λt=>z.pk D t λw T q=> .QM (T.symm▸q)
 |[],_,t|_::_::_::_,_,t=>t.elim
theorem Ni{α}{o:Option α}{t}(h:au d hb B F<|Fb o t):o=Y/\au d hb B F t:=match o,h with
 |Y,h=>⟨rfl,h⟩
 |U _,h=>h.elim
def pY(d:Nat)(hb:H)(B:List ai)(F:SF->SL->G->Prop)(C:qb)(S:cZ):Prop:= ∀f vs g h K Q,Hd hb B g h->bD g vs->au d hb B F (C f vs g K)->Kq d hb B F g K Q->S f (bf vs) h Q
theorem ao4{C}{S}{m}{p:G->(List SV->G->Tr)->Tr}{j:H->(List V->H->Prop)->Prop}(c:pY d hb B F C S)(D:Hd hb B g h)(o:aN g a)
  (i: ∀{K P},au d hb B F (p g K)->Kl d hb B F g K P->j h P) (t:au d hb B F<|El C m a p g K) (z:Kq d hb B F g K Q):lk I S h j Q m<|den a:=by
 have go: ∀{f:Nat} {x:V},den a=x->au d hb B F (p g λvs g=>C f (a::vs) g K)->j h λvs h=>S f (x::vs) h Q:=λe t=>e▸i t λb h' l m D ol t=>c _ (a::l) b h' K Q D ⟨fR m a o,ol⟩ t (z.up m)
 exact eF t (λ_ t=>SV.iA t o λk x e oc t=>gK D oc t
   (λc fs en hx _ t=>have t:=Ni t;ca t.2 λf u s=>by
    have en:bc (b8 fs) (I.mf m)=Y:=(J_ fs _).trans (t.1▸rfl)
    rw[e];exact .jA hx en u<|go e s)
   λo' l lv en hx t=>have t:=hJ t;by rw[e];exact .qj hx t.1 (i t.2 λb h' l m D ol t=>XU D (m _ _ _ en) ol t<|z.up m)
   λl en hx t=>fP t (λem t=>by
    rw[e,jk em]
    exact .aw3 hx<|i t λb h' l m D ol t=>gK D (m _ _ _ en) t (λ_ _ _ _ _ t=>t.elim) (λ_ _ _ _ _ t=>t.elim) λw _ q t=>⟨w,q,Kw D ol t<|z.up m⟩) λ_ t=>t.elim)
  λt=>eF t (λ_ t=>SV.i8 t λv e t=>ca t λx ex t=>have t:=Ni t;ca t.2 λf u s=>by
    rw[e,wv ex];exact .Vn t.1 u<|go (e.trans<|wv ex) s)
   λt=>SV.i8 t λv e t=>ca t λl el t=>fP t (λem t=>by
    rw[e,pR el,jk em]
    exact .aj4<|i t λb h' l m D ol t=>Kw D ol t<|z.up m) λ_ t=>t.elim
end
theorem iW: ∀(u:List<|Nat×SO) (g:G),G.le g (d_ g u)
 |[],g=>G.le_refl g
 |p::u,g=>by
  refine G.le_trans (?_:G.le g<|gy g g p.1 λx=>kh g g p.1 (x.1,p.2) id) (iW u _)
  rw[zY]
  exact match e:ah g p.1 with
  |Y=>G.le_refl g
  |U x=>by
   show G.le g (kh g g p.1 (x.1,p.2) id)
   rw[AI,e]
   exact jh e
section
variable{g:G}{X:Prop}{Q:V->H->Prop}
theorem qn: ∀l:List V,bf (l.map dz)=l/\bD g (l.map dz)
 |[]=>⟨rfl,tI⟩
 |v::r=>⟨(aA (_) (qn r).1).trans<|aA (· ::r) (vu (g:=g) v).1,(vu v).2,(qn r).2⟩
theorem rP: ∀l:List V,bf (l.map e_)=l/\bD g (l.map e_)
 |[]=>⟨rfl,tI⟩
 |v::r=>⟨(aA (_) (rP r).1).trans<|aA (· ::r) (CV (g:=g) v).1,(CV v).2,(rP r).2⟩
theorem ze: ∀l:List<|Int×V,bf (l.map tB)=l.map (λe=>V.int e.1)/\bD g (l.map tB)
 |[]=>⟨rfl,tI⟩
 |e::r=>⟨aA (_) (ze r).1,⟨aU _,aU _⟩,(ze r).2⟩
theorem xW: ∀l:List<|Int×V,bf (l.map λe=> .aj [tB e,dz e.2])=l.map (λe=>V.aj [.int e.1,e.2])/\bD g (l.map λe=> .aj [tB e,dz e.2])
 |[]=>⟨rfl,tI⟩
 |e::r=>⟨by
   show V.aj [.int e.1,den<|dz e.2]::bf (r.map _)=_
   rw[((vu (g:=g) e.2).1),(xW r).1];rfl,⟨⟨aU _,aU _⟩,(vu e.2).2,tI⟩,(xW r).2⟩
theorem ae4{K}{P}(D:Hd hb B g h)(t:au d hb B F<|FZ a g K)(z:Ki d hb B F g K P):tN h P<|den a:=
 SV.i8 t λv e t=>ca t λl el t=>by
  have t:=hJ t
  have w:=z g h _ (G.le_refl g) D (xW l).2 t.2
  rw[(xW (g:=g) l).1] at w
  rw[e,pR el]
  exact .Y6 (d6 t.1) w
theorem Ft: ∀{l:List SV} {n:Int} {p:Bd},p.ok n->bD g l->bf (vm n p l)=lW n (bf l)/\bD g (vm n p l)
 |[],_,_,_,_=>⟨rfl,tI⟩
 |_::r,n,p,o,ol=>have w:=Ft (Bd.Ce (q:= .b 1 1) o ⟨aU 1,aU 1⟩) ol.2;⟨aA (_) w.1,⟨o,ol.1,tI⟩,w.2⟩
theorem M0{k}(o:aN g a)(t:au d hb B F<|a.Ci k)(x: ∀l,den a= .fl (bf l)->bD g l->au d hb B F (k l)->X):X:=match a,o,t,x with
 |.fl l,o,t,x=>x l rfl o t
 |.op v,_,t,x=>ca t λl e t=>x (l.map dz) ((uq e).trans<|aA _ (qn (g:=g) l).1.symm) (qn l).2 t
 |.int ..,_,t,_|.ref ..,_,t,_|.aj _,_,t,_=>t.elim
theorem VR{l}{K}{P}(D:Hd hb B g h)(o:bD g l)(t:au d hb B F<|JK l g K)(z:Ki d hb B F g K P):lq h P<|bf l:=match l,o,t with
 |[a],o,t=>M0 o.1 t λl e ol t=>by
  have q:=Ft (p:= .b 0 0) ⟨aU 0,aU 0⟩ ol
  have w:=z g h _ (G.le_refl g) D q.2 t
  rw[q.1] at w
  show lq h P [den a]
  rw[e];exact .Eu w
 |[a,c],o,t=>M0 o.1 t λl e ol t=>SV.fZ t o.2.1 λi p ei b t=>by
  have t:=hJ t
  have q:=Ft b ol
  have w:=z g h _ (G.le_refl g) D q.2 t.2
  rw[q.1] at w
  show lq h P [den a,den c]
  rw[e,ei];exact .YZ (Bd.rJ b t.1) w
 |[],_,t|_::_::_::_,_,t=>t.elim
theorem at5{K}{P}(D:Hd hb B g h)(o:aN g a)(t:au d hb B F<|IB a g K)(z:Ki d hb B F g K P):hQ h P<|den a:=by
 have up: ∀l:List V,au d hb B F (.eh (K (l.map e_) g)<|K (l.map dz) g)->P l bP h:=λl t=>iD t (λt=>by
  have w:=z g h (l.map e_) (G.le_refl g) D (rP l).2 t
  rw[(rP (g:=g) l).1] at w;exact w) λt=>by
  have w:=z g h (l.map dz) (G.le_refl g) D (qn l).2 t
  rw[(qn (g:=g) l).1] at w;exact w
 exact match a,o,t with
 |.aj l,o,t=> .ug (z g h l (G.le_refl g) D o t)
 |.fl l,o,t=> .fN (z g h l (G.le_refl g) D o t)
 |.op v,_,t=>eF t (λ_ t=>ca t λl e t=>by rw[w6 e];exact .ug<|up l t) λt=>eF t (λ_ t=>ca t λl e t=>by rw[uq e];exact .fN<|up l t) λt=>ca t λl e t=>by
  have t:=hJ t
  rw[pR e]
  have w:=z g h _ (G.le_refl g) D (ze l).2 t.2
  rw[(ze (g:=g) l).1] at w
  exact .aI3 (d6 t.1) w
 |.int ..,_,t|.ref ..,_,t=>t.elim
structure PB(d:Nat)(hb:H)(B:List ai)(F:SF->SL->G->Prop)(r:R)(m:Sm)(g:G)(h:H):Prop where
 v: ∀{K Q},au d hb B F (r.v K)->Kq d hb B F g K Q->m.v h Q
 t: ∀{T E T' E'},au d hb B F (r.t T E)->Kh d hb B F g T T'->Kh d hb B F g E E'->m.t h T' E'
 i: ∀{K P},au d hb B F (r.i K)->Ki d hb B F g K P->m.i h P
theorem jo{v:(SV->G->Tr)->Tr}{m:H->(V->H->Prop)->Prop}(k: ∀{K Q},au d hb B F (v K)->Kq d hb B F g K Q->m h Q):PB d hb B F (dR v) (mk m) g h:=
 ⟨k,λt x y=>k t λa h' v l D o t=>aC9 D t (x.up l)<|y.up l,λt z=>k t λa h' v l D o t=>at5 D o t<|z.up l⟩
def EO(d:Nat)(hb:H)(B:List ai)(F:SF->SL->G->Prop)(r:TE)(m:L->Sm):Prop:= ∀ρ g h,Hd hb B g h->a6 g ρ->PB d hb B F (r ρ g) (m<|aq ρ) g h
def ES(d:Nat)(hb:H)(B:List ai)(F:SF->SL->G->Prop)(r:Dq)(m:L->H->(List V->H->Prop)->Prop):Prop:= ∀ρ g h K P,Hd hb B g h->a6 g ρ->au d hb B F (r ρ g K)->Kl d hb B F g K P->m (aq ρ) h P
theorem EO.v(a:EO d hb B F r m)(D:Hd hb B g h)(o:a6 g ρ)(t:au d hb B F<|(r ρ g).v K)(z:Kq d hb B F g K Q):(m<|aq ρ).v h Q:=(a _ _ _ D o).v t z
theorem EO.t{T j E l}(a:EO d hb B F r m)(D:Hd hb B g h)(o:a6 g ρ)(t:au d hb B F<|(r ρ g).t T E)(x:Kh d hb B F g T j)(y:Kh d hb B F g E l):(m<|aq ρ).t h j l:=(a _ _ _ D o).t t x y
theorem EO.i{K P}(a:EO d hb B F r m)(D:Hd hb B g h)(o:a6 g ρ)(t:au d hb B F<|(r ρ g).i K)(z:Ki d hb B F g K P):(m<|aq ρ).i h P:=(a _ _ _ D o).i t z
theorem LQ{T E}{A h}(t:au d hb B F<|sr a g T E)(x:au d hb B F (T g)->A)(y:au d hb B F (E g)->h):lB A h<|den a:=SV.vh t λb e t=>by
 rw[e]
 exact match b,t with
 |aa,t=>Dm (x t)
 |ae,t=>Xe (y t)
open Classical in
theorem ar2{p}(x:p->Q (.bool aa) h)(y: ¬p->Q (.bool ae) h):Q (.bool<|fC p) h:=if c:p then Zn c▸x c else LS c▸y c
theorem ti{e}(D:Hd hb B g h)(t:au d hb B F<|.ex n e ρ g K)(z:Kq d hb B F g K Q):(ao I (al I<|d+n) e<|aq ρ).v h Q:=
 Fk (C:=vZ d hb B n e ρ g) (h:=λv=>au d hb B F<|K v.1<|d_ g v.2) t λα p r a t=>a.2 h Q D λx h' b D'=>have l:=iW (r x).2 g;z _ h' (r x).1 l D' (fR l _<|a.1 x b) (t x b)
theorem Cr: ∀(a:Int) (m:Nat),bf (zw a m)=ez a 1 m/\bD g (zw a m)
 |_,0=>⟨rfl,tI⟩
 |a,m+1=>⟨aA (_) (Cr (a+1) m).1,⟨aU a,aU a⟩,(Cr (a+1) m).2⟩
theorem Wa{l}{K}{P}(D:Hd hb B g h)(o:bD g l)(t:au d hb B F<|Hm l g K)(z:Ki d hb B F g K P):j3 h P<|bf l:=match l,o,t with
 |[a],o,t=>SV.fZ t o.1 λi p e o t=>ca t λm em t=>by
  have q:=Bd.k8 em o
  have w:=Cr (g:=g) 0 m
  have y:=z g h _ (G.le_refl g) D w.2 t
  rw[w.1] at y
  show j3 h P [den a]
  exact e▸q.1▸ .lN (q.1▸⟨az dd q.2.1,az q.2.2 dd⟩) y
 |[],_,t|_::_::_,_,t=>t.elim
theorem Er: ∀(n:Nat) (l:List SV),bf (l.take n)=(bf l).take n/\(bD g l->bD g (l.take n))
 |0,_=>⟨rfl,λ_=>tI⟩
 |_+1,[]=>⟨rfl,id⟩
 |n+1,_::r=>have w:=Er n r;⟨aA (_) w.1,λo=>⟨o.1,w.2 o.2⟩⟩
theorem BM: ∀(n:Nat) (l:List SV),bf (l.drop n)=(bf l).drop n/\(bD g l->bD g (l.drop n))
 |0,_=>⟨rfl,id⟩
 |_+1,[]=>⟨rfl,id⟩
 |n+1,_::r=>have w:=BM n r;⟨w.1,λo=>w.2 o.2⟩
theorem aj0(l:List SV)(a b:Nat)(o:bD g l):bf (cB l a b)=cB (bf l) a b/\bD g (cB l a b):=⟨((BM (g:=g) a _).1).trans<|aA _ (Er (g:=g) b l).1,(BM a _).2<|(Er b l).2 o⟩
theorem VY{l u}(D:Hd hb B g h)(s:aN g a)(ol:aN g l)(o:aN g u)(t:au d hb B F<|Lx a l u g K)(z:Kq d hb B F g K Q):jp h Q (den a) (den l)<|den u:=match a,s,t with
 |.fl xs,s,t=>have t:=hJ t
  have lm:a_ (bf xs).length:=by rw[nv];exact d6 t.1
  have go: ∀n m,au d hb B F (K (.fl<|cB xs n m) g)->Q (.fl<|cB (bf xs) n m) h:=λn m t=>have w:=aj0 xs n m s;w.1▸z g h (.fl<|cB xs n m) (G.le_refl g) D w.2 t
  fP t.2 (λc t=>SV.fZ t o λj q f e t=>ca t λm em t=>by
   have w:=Bd.k8 em e
   exact pu c▸f▸w.1▸ .aE0 lm (dx m) (by show Q (.fl<|cB (bf xs) 0<|min m (bf xs).length) h;rw[nv];exact go 0 _ t)) λ_ t=>SV.fZ t ol λi p el y t=>ca t λn en t=>by
   have v:=Bd.k8 en y
   rw[el,v.1]
   exact fP t (λc t=>pu c▸ .Q1 lm (dx n) (by show Q (.fl<|cB (bf xs) (min n (bf xs).length) (bf xs).length) h;rw[nv];exact go _ _ t)) λ_ t=>SV.fZ t o λj q f e t=>ca t λm em t=>by
    have w:=Bd.k8 em e
    exact f▸w.1▸ .av6 lm (dx n) (dx m) (by show Q (.fl<|cB (bf xs) (min n (bf xs).length)<|min m (bf xs).length) h;rw[nv];exact go _ _ t)
 |.op v,_,t=>fP t (λc t=>ca t λxs ex t=>SV.fZ t o λj q f e t=>ca t λm em t=>by
   have w:=Bd.k8 em e
   have t:=hJ t
   have b:=fG.mp t.1
   exact pu c▸f▸w.1▸w6 ex▸ .ai0 (d6 b.2) (dx m) (mo.mpr<|d6 b.1) (z.op D t.2)) λ_ t=>t.elim
 |.aj _,_,t|.int ..,_,t|.ref ..,_,t=>t.elim
theorem aP4{K}{P}(o:a6 g ρ): ∀{cs:List Nat},au d hb B F (yU ρ cs K)->(∀a,a6 g a->au d hb B F (K a)->P (aq a))->iF (aq ρ) cs P:=λ{cs}=>by
 induction cs generalizing K P with
 |nil=>exact λt z=>z [] (λ_ _ e=>bd e) t
 |cons i r ih=>exact λt z=>kV t λw ew t=>ca t λv ev t=>m_ (sq<|ev▸ew) (ih t λa ok t=>z (U v::a) (λj u e=>match j,e with
  |0,e=>by cases e;exact o i v (ev▸ew)
  |j+1,e=>ok j u e) t)
theorem aB0{A p:TE}{y W:L->Sm}(kc:EO d hb B F A y)(s:EO d hb B F p W)(o:a6 g0 a): ∀(l:List SV) {g:G} {h:H} {K:List SV->G->Tr} {P:List V->H->Prop},G.le g0 g->Hd hb B g h->bD g l->au d hb B F (F_ A p a l g K)->Kl d hb B F g K P->
  hU (λv h K=>(y<|U v::aq a).t h (λh=>(W<|U v::aq a).v h λw h=>K (U w) h) λh=>K .none h) bP (bf l) h P:=λl=>by
 induction l with
 |nil=>exact λ_ D _ t z=>⟨tI,z _ _ [] (G.le_refl _) D tI t⟩
 |cons v r ih=>
  intro g h K P c D ol t z
  have ok:a6 g<|some v::a:=λj u=>match j with
   |0=>λe=>bL (bL e)▸ol.1
   |j+1=>λe=>fR c u (o j u e)
  exact⟨tI,kc.t D ok t (λg1 h1 l1 D1 t=>s.v D1 (dI l1 ok) t λg2 h2 w l2 D2 q t=>have l3:=G.le_trans l1 l2;ih (G.le_trans c l3) D2 (rD l3 r ol.2) t λi h3 ws l f b t=>z i h3 (w::ws) (G.le_trans l3 l) f ⟨fR l w q,b⟩ t)
   λg1 h1 l1 D1 t=>ih (G.le_trans c l1) D1 (rD l1 r ol.2) t<|z.up l1⟩
section
variable{S:cZ}
theorem Pi{b x y}(t:au d hb B F<|cond b x y)(k:b=aa->au d hb B F x->X)(l:b=ae->au d hb B F y->X):X:=by
 cases b
 ·exact l rfl t
 ·exact k rfl t
theorem Da{f:SV->G->(SV->G->Tr)->Tr}{p:H->(V->H->Prop)->V->Prop}(a:EO d hb B F l j)(k: ∀{g h v K Q},Hd hb B g h->aN g v->au d hb B F (f v g K)->Kq d hb B F g K Q->p h Q (den v)):EO d hb B F (λρ g=>dR λK=>(l ρ g).v λv g=>f v g K) λL=>mk λh Q=>(j L).v h λv h=>p h Q v:=
 λ_ _ _ D o=>jo λt z=>a.v D o t λg1 h1 v l1 D1 ov t=>k D1 ov t (z.up l1)
theorem V2{f:SV->SV->G->Tr}{p:V->V->H->Prop}(a:EO d hb B F u l)(b:EO d hb B F j mb)(D:Hd hb B g h)(o:a6 g ρ)(t:au d hb B F<|(u ρ g).v λv g=>(j ρ g).v λw g=>f v w g)(k: ∀c h' v w,G.le g c->Hd hb B c h'->aN c v->aN c w->au d hb B F (f v w c)->p (den v) (den w) h'):
  (l<|aq ρ).v h λv h=>(mb<|aq ρ).v h λw h=>p v w h:=
 a.v D o t λg1 h1 v l1 D1 ov t=>b.v D1 (dI l1 o) t λg2 h2 w l2 D2 e t=>k g2 h2 v w (G.le_trans l1 l2) D2 (fR l2 v ov) e t
theorem Oh{f:SV->SV->G->(SV->G->Tr)->Tr}{p:H->(V->H->Prop)->V->V->Prop}(a:EO d hb B F y u)(b:EO d hb B F j mb)(k: ∀{g h v w K Q},Hd hb B g h->aN g v->aN g w->au d hb B F (f v w g K)->Kq d hb B F g K Q->p h Q (den v) (den w)):
  EO d hb B F (λρ g=>dR λK=>(y ρ g).v λv g=>(j ρ g).v λw g=>f v w g K) λL=>mk λh Q=>(u L).v h λv h=>(mb L).v h λw h=>p h Q v w:=
 λ_ _ _ D o=>jo λt z=>V2 a b D o t λg2 h2 v w l D ov c t=>k D ov c t (z.up l)
theorem DJ{f:List SV->G->(SV->G->Tr)->Tr}{p:H->(V->H->Prop)->List V->Prop}(i:ES d hb B F a j)(k: ∀{g h l K Q},Hd hb B g h->bD g l->au d hb B F (f l g K)->Kq d hb B F g K Q->p h Q (bf l)):EO d hb B F (λρ g=>dR λK=>a ρ g λl g=>f l g K) λL=>mk λh Q=>j L h λl h=>p h Q l:=
 λ_ _ _ D o=>jo λt z=>i _ _ _ _ _ D o t λg1 h1 l l1 D1 ol t=>k D1 ol t (z.up l1)
theorem ao1(a:EO d hb B F h<|ao I S x):EO d hb B F (λρ g=>⟨λK=>(h ρ g).v λv g=>v.bo λb=>K (.op<|.bool (!b)) g,λT F=>(h ρ g).t F T,λ_=> .aR⟩)<|ao I S<|.nt x:=
 λ_ _ _ D o=>⟨λt z=>a.v D o t λg1 h1 c l1 D1 f t=>SV.vh t λb e t=>e▸ .KD ((z.up l1).op D1 t),λt x y=>a.t D o t y x,λt _=>t.elim⟩
theorem T9(a:EO d hb B F j<|ao I S x)(b:EO d hb B F h<|ao I S y):EO d hb B F (λρ g=>⟨λK=>(j ρ g).v λv g=>sr v g (λg=>(h ρ g).v K) λg=>K (.op<|.bool ae) g,λT F=>(j ρ g).t (λg=>(h ρ g).t T F) F,λ_=> .aR⟩)<|ao I S<|.an x y:=
 λ_ _ _ D o=>⟨λt z=>a.v D o t λg1 h1 c l1 D1 e t=>LQ t (λt=>b.v D1 (dI l1 o) t<|z.up l1)<|(z.up l1).op D1,λt x y=>a.t D o t (λg1 h1 l1 D1 t=>b.t D1 (dI l1 o) t (x.up l1)<|y.up l1) y,λt _=>t.elim⟩
theorem YV(a:EO d hb B F j<|ao I S x)(b:EO d hb B F h<|ao I S y):EO d hb B F (λρ g=>⟨λK=>(j ρ g).v λv g=>sr v g (λg=>K (.op<|.bool aa) g) λg=>(h ρ g).v K,λT F=>(j ρ g).t T λg=>(h ρ g).t T F,λ_=> .aR⟩)<|ao I S<|.or x y:=
 λ_ _ _ D o=>⟨λt z=>a.v D o t λg1 h1 c l1 D1 e t=>LQ t ((z.up l1).op D1) λt=>b.v D1 (dI l1 o) t<|z.up l1,λt x y=>a.t D o t x λg1 h1 l1 D1 t=>b.t D1 (dI l1 o) t (x.up l1)<|y.up l1,λt _=>t.elim⟩
theorem IW{p}(D:Hd hb B g h)(z:Kq d hb B F g K Q)(w:(p->au d hb B F (K (.op<|.bool aa) g))/\(¬p->au d hb B F (K (.op<|.bool ae) g))):Q (.bool<|fC p) h:=ar2 (λq=>z.op D<|w.1 q) λq=>z.op D (w.2 q)
theorem HX{p T a E j}(D:Hd hb B g h)(x:Kh d hb B F g T a)(y:Kh d hb B F g E j)(w:(p->au d hb B F (T g))/\(¬p->au d hb B F (E g))):(p->a h)/\(¬p->j h):=⟨λq=>x g h (G.le_refl g) D<|w.1 q,λq=>y g h (G.le_refl g) D<|w.2 q⟩
theorem ah5(a:EO d hb B F j<|ao I S x)(b:EO d hb B F h<|ao I S y):EO d hb B F (λρ g=>⟨λK=>(j ρ g).v λv g=>(h ρ g).v λw g=>kf o v w g (λg=>K (.op<|.bool aa) g) λg=>K (.op<|.bool ae) g,λT F=>(j ρ g).v λv g=>(h ρ g).v λw g=>kf o v w g T F,λ_=> .aR⟩)<|ao I S<|.eY o x y:=
 λ_ _ _ D o=>⟨λt z=>V2 a b D o t λg2 h2 v w l D ov c t=>tJ D ov c t λp=>IW D<|z.up l,λt x y=>V2 a b D o t λg2 h2 v w l D ov c t=>tJ D ov c t λp=>HX D (x.up l)<|y.up l,λt _=>t.elim⟩
theorem Zc(a:EO d hb B F ra<|ao I S x)(b:EO d hb B F W<|ao I S y)(c:EO d hb B F A<|ao I S w):EO d hb B F (λρ g=>⟨λK=>(ra ρ g).v λj g=>(W ρ g).v λf g=>kf o j f g (λg=>(A ρ g).v λi g=>kf p f i g (λg=>K (.op<|.bool aa) g) λg=>K (.op<|.bool ae) g) λg=>K (.op<|.bool ae) g,
  λT F=>(ra ρ g).v λj g=>(W ρ g).v λf g=>kf o j f g (λg=>(A ρ g).v λi g=>kf p f i g T F) F,λ_=> .aR⟩)<|ao I S<|.iN o p x y w:=
 λ_ _ _ D o=>⟨λt z=>V2 a b D o t λg2 h2 v u l D ov h t=>tJ D ov h t λp w=>⟨λq=>c.v D (dI l o) (w.1 q) λs h3 N l3 e oc t=>tJ e (fR l3 u h) oc t λp=>IW e<|z.up<|G.le_trans l l3,λq=>(z.up l).op D<|w.2 q⟩,
  λt x y=>V2 a b D o t λg2 h2 v u l D ov h t=>tJ D ov h t λp w=>⟨λq=>c.v D (dI l o) (w.1 q) λs h3 N l3 e oc t=>tJ e (fR l3 u h) oc t λp=>have l:=G.le_trans l l3;HX e (x.up l) (y.up l),λq=>y g2 h2 l D<|w.2 q⟩,λt _=>t.elim⟩
theorem aa1(a:EO d hb B F l<|ao I S x)(b:EO d hb B F j<|ao I S y)(c:EO d hb B F h<|ao I S w):EO d hb B F (λρ g=>dR λK=>(l ρ g).t (λg=>(j ρ g).v K) λg=>(h ρ g).v K)<|ao I S<|.ite x y w:=
 λ_ _ _ D o=>jo λt z=>a.t D o t (λg1 h1 l1 D1 t=>b.v D1 (dI l1 o) t<|z.up l1) λg1 h1 l1 D1 t=>c.v D1 (dI l1 o) t (z.up l1)
theorem M7{fr l}(D:Hd hb B g h)(ol:bD g l)(t:au d hb B F<|r4 fr (.fl l) (.list<|bf l) g K)(z:Kq d hb B F g K Q):j5 fr (bf l) h Q:=by
 cases fr
 ·exact λc ec=>wy z t D ec rfl tI
 ·exact z g h (.fl l) (G.le_refl g) D ol t
theorem V5{fr}(D:Hd hb B g h)(t:au d hb B F<|r4 fr (.op<|.fd []) (.dict []) g K)(z:Kq d hb B F g K Q):ww fr [] h Q:=by
 cases fr
 ·exact λc ec=>wy z t D ec rfl tI
 ·exact z.op D t
theorem aC0(a:ES d hb B F j<|cU I S x)(b:ES d hb B F h<|cU I S y):EO d hb B F (λρ g=>dR λK=>j ρ g λl g=>yJ l<|h ρ g λm g=>yJ m<|r4 fr (.op<|.fd []) (.dict []) g K)<|ao I S<|.di fr x y:=
 λ_ _ _ D o=>jo λt z=>a _ _ _ _ _ D o t λg1 h1 l l1 D1 ol t=>by
  cases l
  ·exact b _ _ _ _ _ D1 (dI l1 o) t λg2 h2 m l2 D2 c t=>by
    cases m
    ·exact V5 D2 t (z.up<|G.le_trans l1 l2)
    ·exact t.elim
  ·exact t.elim
theorem UD{e}{f:SL->G->(SV->G->Tr)->Tr}{m:L->H->(V->H->Prop)->Prop}(x: ∀{L h Q},(ao I (al I<|d+n) e L).v h Q->m L h Q)(k:EO d hb B F (λρ g=>dR<|f ρ g) λL=>mk<|m L):EO d hb B F (λρ g=>dR λK=> .eh (f ρ g K)<|.ex n e ρ g K) λL=>mk<|m L:=
 λ_ _ _ D o=>jo λt z=>iD t (λt=>(k _ _ _ D o).v t z) λt=>x (ti D t z)
theorem eo3{f:SV->SV->SV->G->(SV->G->Tr)->Tr}{p:H->(V->H->Prop)->V->V->V->Prop}(a:EO d hb B F ra W)(b:EO d hb B F A mb)(c:EO d hb B F y j)(k: ∀{g h v w u K Q},Hd hb B g h->aN g v->aN g w->aN g u->au d hb B F (f v w u g K)->Kq d hb B F g K Q->p h Q (den v) (den w) (den u)):
  EO d hb B F (λρ g=>dR λK=>(ra ρ g).v λv g=>(A ρ g).v λw g=>(y ρ g).v λu g=>f v w u g K) λL=>mk λh Q=>(W L).v h λv h=>(mb L).v h λw h=>(j L).v h λu h=>p h Q v w u:=
 λ_ _ _ D o=>jo λt z=>V2 a b D o t λg2 h2 v w l D ov i t=>c.v D (dI l o) t λs h3 u l3 e q t=>k e (fR l3 v ov) (fR l3 w i) q t (z.up<|G.le_trans l l3)
theorem al2{k}(c:pY d hb B F C S)(i:ES d hb B F h<|cU I S y):EO d hb B F (λρ g=>dR λK=>h ρ g λl g=>oK (I.kT k) λf=> .all λa=>tX g (a,.aK k []) 0 λn g=>C f (.ref n a::l) g λv g=>sw v.cls 0 (K (.ref n a) g) .aR)<|ao I S<|.new k y:=
 λ_ _ _ D o=>jo λt z=>i _ _ _ _ _ D o t λg1 h1 l l1 D ol t=>ca t λf p t=>by
  exact p▸λx ex=>by
   have ox:aN (g1++[(x,.aK k [])])<|.ref g1.length x:=⟨_,B0 g1⟩
   exact c f (.ref g1.length x::l) _ _ _ _ (D.new ex (by rw[H.kM];rfl) (λ_ n=>H.jN n) λ_ _ e=>bd e:Hd hb B (g1++[(x,.aK k [])])<|h1.cr x<|.aK k []) ⟨ox,rD Ai l ol⟩ (H7<|t x) λj h3 v l3 b ov t=>fP t (λe t=>pu e▸ .Pm (z j h3 (.ref g1.length x) (G.le_trans l1<|G.le_trans Ai l3) b (fR l3 _ ox) t)) λ_ t=>t.elim
theorem Xa(c:pY d hb B F C<|al I<|d+n)(a:EO d hb B F j<|ao I (al I<|d+n) x)(i:ES d hb B F l<|cU I (al I<|d+n) y):EO d hb B F (λρ g=>let r:=dR λK=>sw m 1 (.ex n (.me x m y) ρ g K) ((j ρ g).v λv g=>El C m v (l ρ) g K)
  ⟨r.v,r.t,λK=>bK (bF m 4)<|(j ρ g).v λv g=>FZ v g K⟩)<|ao I (al I<|d+n)<|.me x m y:=λρ g h D o=>
 have w:=jo λt z=>eF t (λ_ t=>ti (e:= .me x m y) D t z) λt=>a.v D o t λg1 h1 f l1 D1 b t=>ao4 c D1 b (λ{K P} t z=>i _ _ _ _ _ D1 (dI l1 o) t z) t (z.up l1)
 ⟨w.v,w.t,λt z=>have t:=hJ t;a.v D o t.2 λg1 h1 f l1 D1 b p=>by
  rw[show bF m xZ=aa from t.1]
  exact ae4 D1 p<|z.up l1⟩
theorem Z5{b l K P}(D:Hd hb B g h)(ol:bD g l)(t:au d hb B F<|EN b l g K)(z:Ki d hb B F g K P):match(generalizing:=false) b with
    |.range=>j3 h P (bf l)
    |.kz=>lq h P (bf l)
    |b=>cn h (λv h=>hQ h P v) b<|bf l:=by
 cases b
 case range=>exact Wa D ol t z
 case kz=>exact VR D ol t z
 all_goals exact t.elim
theorem aF4{b l}(D:Hd hb B g h)(ol:bD g l)(t:au d hb B F<|E9 b l g K)(z:Kq d hb B F g K Q):cn h Q b<|bf l:=by
 cases l
 ·exact t.elim
 ·exact ay5 D ol.1 ol.2 t id z
theorem Z_(i:ES d hb B F a<|cU I (al I<|d+n) y):EO d hb B F (λρ g=>let r:=dR λK=>cond (M8 b y) (.ex n (.bi b y) ρ g K) (a ρ g λl g=>E9 b l g K)
  ⟨r.v,r.t,λK=>a ρ g λl g=>EN b l g K⟩)<|ao I (al I<|d+n)<|.bi b y:=λρ g h D o=>
 have w:=jo (m:=λh Q=>cU I (al I<|d+n) y (aq ρ) h λvs h=>cn h Q b vs) λt z=>Pi t (λ_ t=>ti (e:= .bi b y) D t z) λ_ t=>i _ _ _ _ _ D o t λg1 h1 l l1 D1 ol t=>aF4 D1 ol t (z.up l1)
 ⟨w.v,w.t,λt z=>i _ _ _ _ _ D o t λg1 h1 l l1 D1 ol t=>Z5 D1 ol t<|z.up l1⟩
theorem aN5(a:EO d hb B F u<|ao I (al I<|d+n) x)(b:EO d hb B F p<|ao I (al I<|d+n) y)(c:EO d hb B F j<|ao I (al I<|d+n) w):EO d hb B F (λρ g=>dR λK=> .eh ((u ρ g).i λl g=>bK (eZ l.length 1000000)<|yU ρ cs λf=>F_ p j f l g λws g=>r4 fr (.fl ws) (.list<|bf ws) g K)
  (.ex n (.comp aa cs x y w) ρ g λv g=>cond fr (K v g)<|v.l λl=>mM (.list l) g K))<|ao I (al I<|d+n)<|.comp fr cs x y w:=
 λ_ _ _ D o=>jo λ{K Q} t z=>iD t (λt=>a.i D o t λg1 h1 l l1 D1 ol t=>have t:=hJ t;⟨by rw[nv];exact d6 t.1,aP4 (dI l1 o) t.2 λf ok t=>aB0 b c ok l (G.le_refl g1) D1 ol t λg2 h2 ws l2 D2 i t=>M7 D2 i t<|z.up<|G.le_trans l1 l2⟩) λt=>by
  cases fr
  ·exact ti (K:=λv g=>v.l λl=>mM (.list l) g K) (Q:=λv h=>Option.rec False (λws=> ∀a,h a=Y->Q (.ref a) (h.cr a<|.list ws))<|qv v) D t λg1 h1 v l1 D1 _ t=>SV.i4 t λl e t=>e▸λc ec=>wy (z.up l1) t D1 ec rfl tI
  ·exact ti D t z
end
noncomputable def X3(C:qb)(n:Nat)(es:Es):Dq:=λρ g K=>(rE C n (.tu es) ρ g).v λv g=>match v with
 |.aj l=>K l g
 |_=> .aR
variable(c:pY d hb B F C<|al I<|d+n)
include c
theorem iI(e:E):EO d hb B F (rE C n e)<|ao I (al I<|d+n) e:=
 E.rec (motive_1:=λe=>EO d hb B F (rE C n e)<|ao I (al I<|d+n) e)
  (motive_2:=λes=>ES d hb B F (X3 C n es)<|cU I (al I<|d+n) es)
  (λv _ _ _ D o=>jo λt z=>z.e_ D t)
  (λi ρ g h D o=>jo λt z=>kV t λw ew t=>ca t λv ev t=>by
   unfold gj
   exact sq (ev▸ew)▸z g h v (G.le_refl g) D (o i v<|ev▸ew) t)
  (λk ρ _ _ D o=>jo λt z=>ca t λv ev t=>oA (C:=al I<|d+n) (ρ:=aq ρ) ev<|z.e_ D t)
  (λj _ _ a b=>(Oh a b (Xs (o:=j)):))
  (λ_ a=>(Da a λD o t z=>aE4 o D t z:))
  (λ_ a=>(ao1 a:))
  (λ_ _ a b=>(T9 a b:))
  (λ_ _ a b=>(YV a b:))
  (λj _ _ a b=>(ah5 (o:=j) a b:))
  (λj p _ _ _ a b c=>(Zc (o:=j) (p:=p) a b c:))
  (λ_ _ _ a b c=>(aa1 a b c:))
  (λ_ i=>(DJ (p:=λh Q l=>Q (.aj l) h) i λ{_ _ l _ _} D ol t z=>z _ _ (.aj l) (G.le_refl _) D ol t:))
  (λfr _ i=>(DJ (p:=λh Q l=>j5 fr l h Q) i M7:))
  (λfr _ _ a b=>(aC0 (fr:=fr) a b:))
  (λ_ f a=>(Da (p:=λh Q v=>kj I h Q v f) a Pd:))
  (λ_ _ a b=>(Oh a b Mi:))
  (λa l u A y s=>(UD (e:= .sl a l u) id (eo3 A y s VY):))
  (λa _ _ _ _ D o=>jo λt z=>ti (e:= .iz a) D t z)
  (λf _ i=>(DJ (p:=λh Q l=>al I (d+n) f l h Q) i (c f _ _ _ _ _):))
  (λk _ i=>(al2 (k:=k) c i:))
  (λ_ m _ a i=>(Xa (m:=m) c a i:))
  (λb _ i=>(Z_ (b:=b) i:))
  (λfr cs _ _ _ a b e=>(aN5 (fr:=fr) (cs:=cs) a b e:))
  (λ_ a=>(Da a ac3:))
  (λ_ g h _ _ D o t z=>z g h [] (G.le_refl g) D tI t)
  (λ_ _ a i _ _ _ _ _ D o t z=>a.v D o t λg1 h1 q l1 D1 K t=>i _ _ _ _ _ D1 (dI l1 o) t λg2 h2 l l2 D2 ol t=>z g2 h2 (q::l) (G.le_trans l1 l2) D2 ⟨fR l2 q K,ol⟩ t)
  e
end
noncomputable def I1(a:SV)(g:G)(K:List SV->Tr):Tr:=match a with
 |.aj l=>K l
 |.fl l=>K l
 |.op v=>sw v.ctorIdx 5 (oK (uv v) λl=> .eh (K<|l.map e_)<|K<|l.map dz) (sw v.ctorIdx 6 (oK (qv v) λl=> .eh (K<|l.map e_)<|K<|l.map dz)<|oK (wJ v) λl=> .jT (eg l)<|K<|l.map λi=> .int i<|.b 0 255)
 |.ref k _=>xg g k K (gk g k (λ_ _=> .aR) (λl=> .eh (K<|l.map e_)<|K<|l.map dz) λ_=> .aR)
 |_=> .aR
noncomputable def tf(C:qb)(n:Nat)(t:Tg):SV->SL->G->(SL->G->Tr)->Tr:=Tg.rec (motive_2:=λ_=>List SV->SL->G->(SL->G->Tr)->Tr)
 (λi v ρ g K=>kh .aR ρ i (U v) λρ=>K ρ g)
 (λo f v ρ g K=>(rE C n o ρ g).v λw g=>Du w f v g λg=>K ρ g)
 (λo i v ρ g K=>(rE C n o ρ g).v λw g=>(rE C n i ρ g).v λj g=>BK w j v g λg=>K ρ g)
 (λts ih v ρ g K=>I1 v g λl=>bK (bF l.length<|oZ ts)<|ih l ρ g K)
 λl ρ g K=>match l with|[]=>K ρ g|_=> .aR
 (λ_ _ ih a l ρ g K=>match l with|v::r=>ih v ρ g λρ g=>a r ρ g K|[]=> .aR) t
abbrev TS:=SL->G->(SF->SL->G->Tr)->Tr
noncomputable def EK(b:SV->TS)(l:List SV):TS:=Q3 (λρ g K=>K .next ρ g) (λv _ ih ρ g K=>b v ρ g λf ρ g=>match f with
 |.next=>ih ρ g K
 |.cont=>ih ρ g K
 |.brk=>K .next ρ g
 |.ret v=>K (.ret v) ρ g) l
noncomputable def Dc(t:SL->G->(G->Tr)->(G->Tr)->Tr)(b:TS)(m:Nat):TS:=AL (λ_ _ _=> .aR) (λ_ ih ρ g K=>t ρ g (λg=>b ρ g λf ρ g=>match f with
 |.next=>ih ρ g K
 |.cont=>ih ρ g K
 |.brk=>K .next ρ g
 |.ret v=>K (.ret v) ρ g) λg=>K .next ρ g) m
def z6(a b:SV)(K:SV->Tr):Tr:=a.i λi p=>b.i λj q=>K (.int (i+j)<|p.add q)
noncomputable def Ay(o:jM):Bool:=match o with
 |.add=>aa
 |_=>ae
noncomputable def rS(C:qb)(n:Nat)(s:S):TS:=S.rec
 (λe ρ g K=>(rE C n e ρ g).v λ_ g=>K .next ρ g)
 (λt e ρ g K=>(rE C n e ρ g).v λv g=>tf C n t v ρ g λρ g=>K .next ρ g)
 (λi o e ρ g K=>bK (Ay o)<|gy .aR ρ i λx=>oK x λa=>(rE C n e ρ g).v λb g=>z6 a b λv=>kh .aR ρ i (U v) λρ=>K .next ρ g)
 (λa f o e ρ g K=>bK (Ay o)<|(rE C n a ρ g).v λh g=>BE h f g λx g=>(rE C n e ρ g).v λb g=>z6 x b λv=>Du h f v g λg=>K .next ρ g)
 (λa i o e ρ g K=>bK (Ay o)<|(rE C n a ρ g).v λh g=>(rE C n i ρ g).v λvi g=>F7 h vi g λx g=>(rE C n e ρ g).v λb g=>z6 x b λv=>BK h vi v g λg=>K .next ρ g)
 (λt _ _ a b ρ g K=>(rE C n t ρ g).t (λg=>a ρ g K) λg=>b ρ g K)
 (λt b ih ρ g K=> .eh (Dc (λρ g=>(rE C n t ρ g).t) ih 12 ρ g K)<|.st n (.while t b) ρ g K)
 (λt q b ih ρ g K=> .eh ((rE C n q ρ g).i λl g=>EK (λv ρ g K=>tf C n t v ρ g λρ g=>ih ρ g K) l ρ g K)<|.st n (.for t q b) ρ g K)
 (λe ρ g K=>(rE C n e ρ g).v λv g=>K (.ret v) ρ g)
 (λ_ _ _=> .aR)
 (λρ g K=>K .cont ρ g)
 (λρ g K=>K .next ρ g)
 (λ_ ih ρ g K=>ih ρ g K)
 (λi f ρ g K=>gy .aR ρ i λx=>oK x λv=>v.r λk x=>gk g k (λc fs=>vq .aR fs f λw=>w.r λj y=>bK (!bF j k)<|rH j y g λw g=>gk g k (λc fs=>yE fs f w λfs=>bx g k x (.aK c fs) λg=>K .next ρ g) (λ_=> .aR) λ_=> .aR) (λ_=> .aR) λ_=> .aR)
 (λi ρ g K=>gy .aR ρ i λx=>oK x λv=>v.r λk x=>rH k x g λw g=>kh .aR ρ i (U w) λρ=>K .next ρ g)
 (λρ g K=>K .next ρ g)
 (λ_ _ ih p ρ g K=>ih ρ g λf ρ g=>match f with|.next=>p ρ g K|f=>K f ρ g) s
section
theorem ET: ∀l,eg l->bf (l.map λi=> .int i<|.b 0 255)=vi l/\bD g (l.map λi=> .int i<|.b 0 255)
 |[],_=>⟨rfl,tI⟩
 |v::r,o=>have w:=ET r λi m=>o i (.tail _ m);⟨aA (_) w.1,o v<|.head _,w.2⟩
theorem aM1{K}{P:List V->Prop}(D:Hd hb B g h)(o:aN g a)(t:au d hb B F<|I1 a g K)(z: ∀l,bD g l->au d hb B F (K l)->P (bf l)):js h P<|den a:=by
 have up: ∀l:List V,au d hb B F (.eh (K<|l.map e_)<|K<|l.map dz)->P l:=λl t=>iD t (λt=>by
  have w:=z (l.map e_) (rP l).2 t
  rw[(rP (g:=g) l).1] at w;exact w) λt=>by
  have w:=z (l.map dz) (qn l).2 t
  rw[(qn (g:=g) l).1] at w;exact w
 exact match a,o,t with
 |.aj l,o,t=> .B8 (z l o t)
 |.fl l,o,t=> .Nr (z l o t)
 |.op v,_,t=>eF t (λ_ t=>ca t λl e t=>by rw[w6 e];exact .B8<|up l t) λt=>eF t (λ_ t=>ca t λl e t=>by rw[uq e];exact .Nr<|up l t) λt=>ca t λl e t=>by
   have t:=uo t
   rw[yZ e]
   have w:=z _ (ET l t.1).2 t.2
   rw[(ET (g:=g) l t.1).1] at w
   exact .UB w
 |.ref k x,o,t=>xK D o t (λl _ hx ol t=> .L4 hx<|z l ol t) λt=>gK D o t (λ_ _ _ _ _ t=>t.elim) (λ_ l _ _ hx t=> .L4 hx<|up l t) λ_ _ _ t=>t.elim
 |.int ..,_,t=>t.elim
abbrev Kr(d:Nat)(hb:H)(B:List ai)(F:SF->SL->G->Prop)(g:G)(K:SL->G->Tr)(P:L->H->Prop):Prop:= ∀b h' a,G.le g b->Hd hb B b h'->a6 b a->au d hb B F (K a b)->P (aq a) h'
abbrev Kf(d:Nat)(hb:H)(B:List ai)(F:SF->SL->G->Prop)(g:G)(K:SF->SL->G->Tr)(P:Fl->L->H->Prop):Prop:= ∀b h' a f,G.le g b->Hd hb B b h'->a6 b a->z7 b f->au d hb B F (K f a b)->P (wB f) (aq a) h'
theorem Kf.up{K}(z:Kf d hb B F g K P)(l:G.le g h):Kf d hb B F h K P:=λg2 h2 a f m=>z g2 h2 a f (G.le_trans l m)
theorem Fh{K}{P:V->H->Prop}(f:aN g a)(ob:aN g b)(t:au d hb B F<|z6 a b K)(z: ∀v,aN g v->au d hb B F (K v)->P (den v) h):lT h P .add (den a)<|den b:=
 SV.fZ t f λi p ea c t=>SV.fZ t ob λj q eb e t=>by rw[ea,eb];exact .aL2 (z (.int (i+j)<|p.add q) (Bd.Ce c e) t)
theorem E8(h:au d hb B F<|bK (Ay o) t):o= .add/\au d hb B F t:=have h:=hJ h;⟨by cases o <;>first|rfl|exact fE h.1,h.2⟩
variable(c:pY d hb B F C<|al I<|d+n)
include c
def AO(d:Nat)(hb:H)(B:List ai)(F:SF->SL->G->Prop)(r:SV->SL->G->(SL->G->Tr)->Tr)(m:V->L->H->(L->H->Prop)->Prop):Prop:= ∀v ρ g h K P,Hd hb B g h->a6 g ρ->aN g v->au d hb B F (r v ρ g K)->Kr d hb B F g K P->m (den v) (aq ρ) h P
def VD(d:Nat)(hb:H)(B:List ai)(F:SF->SL->G->Prop)(C:qb)(n:Nat)(ts:ig):Prop:= ∀l ρ g h K P,bF l.length (oZ ts)=aa->Hd hb B g h->a6 g ρ->bD g l->au d hb B F (tf C n (.aj ts) (.aj l) ρ g K)->Kr d hb B F g K P->lO I (al I<|d+n) ts (bf l) (aq ρ) h P
theorem Cz t:AO d hb B F (tf C n t)<|af I (al I<|d+n) t:=
 Tg.rec (motive_1:=λt=>AO d hb B F (tf C n t)<|af I (al I<|d+n) t) (motive_2:=VD d hb B F C n)
  (λi v ρ g h K P D o ov t z=>tU t λ_ _ t=>(zh ρ i v▸z g h _ (G.le_refl g) D (B4 o ov) t:P (cY (aq ρ) i<|den v) h))
  (λe f v ρ g h K P D o ov t z=>(iI c e).v D o t λg1 h1 w l1 D1 a t=>K1 D1 a (fR l1 v ov) t λg2 h2 l2 D2 t=>z g2 h2 ρ (G.le_trans l1 l2) D2 (dI (G.le_trans l1 l2) o) t)
  (λe i v ρ g h K P D o ov t z=>V2 (iI c e) (iI c i) D o t λg2 h2 w j l D2 a y t=>Kp D2 a y (fR l v ov) t λs h3 l3 q t=>z s h3 ρ (G.le_trans l l3) q (dI (G.le_trans l l3) o) t)
  (λts ih v ρ g h K P D o ov t z=>aM1 D ov t λl ol t=>by
   have w:=hJ t
   rw[nv,w.1]
   exact ih l _ _ _ _ _ w.1 D o ol t z)
  (λl ρ g h K P e D o ol t z=>by
   cases l
   ·exact z g h ρ (G.le_refl g) D o t
   ·exact rR e)
  (λ_ ts ih b l ρ g h K P e D o ol t z=>by
   cases l
   ·exact rR e
   ·exact ih _ _ _ _ _ _ D o ol.1 (hJ t).2 λg1 h1 u l1 D1 o1 t=>b _ _ _ _ _ _ e D1 o1 (rD l1 _ ol.2) (show au d hb B F (bK (bF _ _) _) from e▸t) λg2 h2 p l2=>z g2 h2 p<|G.le_trans l1 l2)
  t
end
section
variable{X:Prop}{h:H}
theorem L6{K}(D:Hd hb B g h)(t:au d hb B F<|.st n s ρ g K)(z:Kf d hb B F g K P):ex I (al I<|d+n) s (aq ρ) h P:=
 Fk (C:=ui d hb B n s ρ g) (h:=λv=>au d hb B F<|K v.1 v.2.1 v.2.2) t λα p r a t=>a.2 h P D λx h' b D'=>have w:=a.1 x b;z _ h' (r x).2.1 (r x).1 w.2.2 D' w.2.1 w.1 (t x b)
def jf(d:Nat)(hb:H)(B:List ai)(F:SF->SL->G->Prop)(r:TS)(m:L->H->(Fl->L->H->Prop)->Prop):Prop:= ∀ρ g h K P,Hd hb B g h->a6 g ρ->au d hb B F (r ρ g K)->Kf d hb B F g K P->m (aq ρ) h P
def FO(d:Nat)(hb:H)(B:List ai)(F:SF->SL->G->Prop)(r:SV->TS)(m:V->L->H->(Fl->L->H->Prop)->Prop):Prop:= ∀v ρ g h K P,Hd hb B g h->a6 g ρ->aN g v->au d hb B F (r v ρ g K)->Kf d hb B F g K P->m (den v) (aq ρ) h P
theorem Nz{W:H->Prop}{a:TS}{K}(D:Hd hb B g h)(o:a6 g ρ)(of:z7 g f)(t:au d hb B F (match(generalizing:=false) f with
  |.next=>a ρ g K
  |.cont=>a ρ g K
  |.brk=>K .next ρ g
  |.ret v=>K (.ret v) ρ g))(w:au d hb B F (a ρ g K)->W h)(z:Kf d hb B F g K P):match(generalizing:=false) wB f with
   |.next=> ∃h',H.le h' h/\W h'
   |.cont=> ∃h',H.le h' h/\W h'
   |.brk=>P .next (aq ρ) h
   |.ret v=>P (.ret v) (aq ρ) h:=by
 cases f
 ·exact⟨h,H.le_refl h,w t⟩
 ·exact z g h ρ .next (G.le_refl g) D o tI t
 ·exact⟨h,H.le_refl h,w t⟩
 ·exact z g h ρ (.ret v) (G.le_refl g) D o of t
theorem ay2(k:FO d hb B F b a)(l): ∀{ρ:SL} {g:G} {h:H} {K:SF->SL->G->Tr} {P:Fl->L->H->Prop},Hd hb B g h->a6 g ρ->bD g l->au d hb B F (EK b l ρ g K)->Kf d hb B F g K P->du a bP (bf l) (aq ρ) h P:=by
 induction l with
 |nil=>exact λD o _ t z=>⟨tI,z _ _ _ .next (G.le_refl _) D o tI t⟩
 |cons v r i=>exact λD o ol t z=>⟨tI,k _ _ _ _ _ _ D o ol.1 t λg1 h1 c f l1 D1 o1 of t=>Nz D1 o1 of t (λt=>i D1 o1 (rD l1 r ol.2) t<|z.up l1)<|z.up l1⟩
theorem H.SY{a b}(e:b≠a):(h.lu a) b=h b:=aE e
theorem SH{c d a j}(e:U (O.aK c a)=U (O.aK d j)):c=d/\a=j:=by cases e;exact⟨rfl,rfl⟩
theorem ac1{p:SO}(t:au d hb B F<|p.in j l a):p.lv:=by cases p <;>first|exact tI|exact t
theorem aq4(D:Hd hb B g h)(e:ah g k=U (x,o))(f: ∃p,ah g j=U (y,p))(n:(!bF j k)=aa)(lv:o.lv)(t:au d hb B F<|rH j y g K):x≠y:=λq=>
 f.elim λp f=>kV t λr er t=>by
  have a:=bL (f.symm.trans er)
  subst a
  rw[D.inj j k x p o (q▸f) e (ac1 t) lv,AU] at n
  exact rR n
theorem Th(a:EO d hb B F r m)(k:jf d hb B F b j)(i:Nat):jf d hb B F (Dc (λρ g=>(r ρ g).t) b i)<|iZ (λρ h T F=>(m ρ).t h T F) j i:=by
 induction i with
 |zero=>exact λ_ _ _ _ _ _ _ t _=>t.elim
 |succ i ih=>exact λρ g h K P D o t z=>a.t D o t (λg0 h0 l0 c t=>k _ _ _ _ _ c (dI l0 o) t λg1 h1 e f l1 D1 o1 of t=>have z:=(z.up l0).up l1;Nz D1 o1 of t (λt=>ih _ _ _ _ _ D1 o1 t z) z) λg0 h0 l0 c t=>z g0 h0 ρ .next l0 c (dI l0 o) tI t
theorem CN(o:a6 g ρ)(t:au d hb B F<|gy .aR ρ i λx=>oK x k)(z: ∀v,ah (aq ρ) i=U (U<|den v)->aN g v->au d hb B F (k v)->X):X:=
 kV t λw ew t=>ca t λv ev t=>z v (sq<|ev▸ew) (o i v<|ev▸ew) t
theorem az9(a:EO d hb B F p<|ao I Z x)(b:jf d hb B F l<|aZ I Z y)(c:jf d hb B F j<|aZ I Z w):jf d hb B F (λρ g K=>(p ρ g).t (λg=>l ρ g K) λg=>j ρ g K)<|ex I Z<|.ite x y w:=
 λ_ _ _ _ _ D o t z=>a.t D o t (λg1 h1 l1 D1 t=>b _ _ _ _ _ D1 (dI l1 o) t<|z.up l1) λg1 h1 l1 D1 t=>c _ _ _ _ _ D1 (dI l1 o) t (z.up l1)
theorem SD(a:EO d hb B F l<|ao I (al I<|d+n) x)(b:jf d hb B F j<|aZ I (al I<|d+n) y):jf d hb B F (λρ g K=> .eh (Dc (λρ g=>(l ρ g).t) j 12 ρ g K)<|.st n (.while x y) ρ g K)<|ex I (al I<|d+n)<|.while x y:=
 λ_ _ _ _ _ D o t z=>iD t (λt=>⟨12,Th a b 12 _ _ _ _ _ D o t z⟩) λt=>L6 D t z
theorem am1(a:EO d hb B F u<|ao I (al I<|d+n) x)(k:AO d hb B F j<|af I (al I<|d+n) t)(b:jf d hb B F p<|aZ I (al I<|d+n) y):jf d hb B F (λρ g K=> .eh ((u ρ g).i λl g=>EK (λv ρ g K=>j v ρ g λρ g=>p ρ g K) l ρ g K)<|.st n (.for t x y) ρ g K)<|ex I (al I<|d+n)<|.for t x y:=
 λ_ _ _ _ _ D o t z=>iD t (λt=>a.i D o t λg1 h1 l l1 D1 ol t=>ay2 (λv ρ g h K P D o ov t z=>k _ _ _ _ _ _ D o ov t λg1 h1 c l1 D1 o1 t=>b _ _ _ _ _ D1 o1 t<|z.up l1) l D1 (dI l1 o) ol t<|z.up l1) λt=>L6 D t z
theorem af2(a:jf d hb B F l<|ex I Z x)(b:jf d hb B F j<|aZ I Z y):jf d hb B F (λρ g K=>l ρ g λf ρ g=>match f with|.next=>j ρ g K|f=>K f ρ g)<|aZ I Z<|.cons x y:=
 λ_ _ _ _ _ D o t z=>a _ _ _ _ _ D o t λg1 h1 c f l1 D1 o1 of t=>by
  cases f
  ·exact b _ _ _ _ _ D1 o1 t (z.up l1)
  ·exact z g1 h1 c .brk l1 D1 o1 tI t
  ·exact z g1 h1 c .cont l1 D1 o1 tI t
  ·exact z g1 h1 c (.ret v) l1 D1 o1 of t
variable(c:pY d hb B F C<|al I<|d+n)
include c
theorem uG s:jf d hb B F (rS C n s)<|ex I (al I<|d+n) s:=
 S.rec (motive_1:=λs=>jf d hb B F (rS C n s)<|ex I (al I<|d+n) s) (motive_2:=λb=>jf d hb B F (rS C n<|.tr b)<|aZ I (al I<|d+n) b)
  (λe ρ g h K P D o t z=>(iI c e).v D o t λg1 h1 v l1 D1 ov t=>z g1 h1 ρ .next l1 D1 (dI l1 o) tI t)
  (λp e ρ g h K P D o t z=>(iI c e).v D o t λg1 h1 v l1 D1 ov t=>Cz c p _ _ _ _ _ _ D1 (dI l1 o) ov t λg2 h2 ρ2 l2 D2 o2 t=>z g2 h2 ρ2 .next (G.le_trans l1 l2) D2 o2 tI t)
  (λi op e ρ g h K P D o t z=>have w:=E8 t;CN o w.2 λv ev ov t=>by
   show gj _ _ _
   unfold gj
   exact ev▸w.1▸(iI c e).v D o t λg1 h1 vb l1 D1 ob t=>Fh (fR l1 v ov) ob t λu N t=>tU t λ_ _ t=>(zh ρ i u▸z g1 h1 _ .next l1 D1 (B4 (dI l1 o) N) tI t:P .next (cY (aq ρ) i<|den u) h1))
  (λa f op e ρ g h K P D o t z=>have w:=E8 t;by
   exact w.1▸(iI c a).v D o w.2 λg1 h1 va l1 D1 A t=>Pd D1 A t λg2 h2 x l2 D2 ox t=>(iI c e).v D2 (dI (G.le_trans l1 l2) o) t λg3 h3 vb l3 D3 ob t=>Fh (fR l3 x ox) ob t λu N t=>
    K1 D3 (fR (G.le_trans l2 l3) va A) N t λg4 h4 l4 D4 t=>have l:=G.le_trans l1 (G.le_trans l2<|G.le_trans l3 l4);z g4 h4 ρ .next l D4 (dI l o) tI t)
  (λa i op e ρ g h K P D o t z=>have w:=E8 t;by
   exact w.1▸V2 (iI c a) (iI c i) D o w.2 λg2 h2 va vi l2 D2 A oi t=>Mi D2 A oi t λg3 h3 x l3 D3 ox t=>(iI c e).v D3 (dI (G.le_trans l2 l3) o) t λg4 h4 vb l4 D4 ob t=>Fh (fR l4 x ox) ob t λu N t=>
    have l:=G.le_trans l3 l4;Kp D4 (fR l va A) (fR l vi oi) N t λg5 h5 l5 D5 t=>have l:=G.le_trans l2 (G.le_trans l l5);z g5 h5 ρ .next l D5 (dI l o) tI t)
  (λe _ _ a b=>(az9 (iI c e) a b:))
  (λe _ b=>(SD (iI c e) b:))
  (λt e _ b=>(am1 (iI c e) (Cz c t) b:))
  (λe ρ g h K P D o t z=>(iI c e).v D o t λg1 h1 v l1 D1 ov t=>z g1 h1 ρ (.ret v) l1 D1 (dI l1 o) ov t)
  (λ_ _ _ _ _ _ _ t _=>t.elim)
  (λρ g h K P D o t z=>z g h ρ .cont (G.le_refl g) D o tI t)
  (λρ g h K P D o t z=>z g h ρ .next (G.le_refl g) D o tI t)
  (λ_ ih=>ih)
  (λi f ρ g h K P D o t z=>CN o t λv ev ov t=>by
   show gj _ _ _
   unfold gj
   rw[ev]
   exact SV.iA t ov λk x e oc t=>gK D oc t (λc fs en hx ok t=>Nq t λw ew t=>SV.iA t (ok f w ew) λj y ey oj t=>have t:=hJ t;by
    rw[e]
    refine .mk hx ((NF ew).trans<|aA U ey) (Mo D oj t.2 λg1 w l1 D1 Z p=>gK D1 (l1 _ _ _ en) p (λc' fs' W Q T p=> ?_) (λ_ _ _ _ _ t=>t.elim) λ_ _ _ t=>t.elim)
    have q:=SH (hx.symm.trans<|(H.SY<|aq4 D en oj t.1 tI t.2).symm.trans Q)
    rw[Qb] at p
    exact q.1▸q.2▸⟨Q,Jc fs' f w▸ud D1 W p tI rfl (λm v e=>(H5 e).elim (T m v) λq=>q▸Z) λg2 l2 D2 t=>z g2 _ ρ .next (G.le_trans l1 l2) D2 (dI (G.le_trans l1 l2) o) tI t⟩) (λ_ _ _ _ _ t=>t.elim) λ_ _ _ t=>t.elim)
  (λi ρ g h K P D o t z=>CN o t λv ev ov t=>by
   show gj _ _ _
   unfold gj
   rw[ev]
   exact SV.iA t ov λk x e oc t=>by
    exact e▸ .mk (C9 D oc t λg1 h1 w l1 D1 Z t=>tU t λ_ _ t=>(zh ρ i w▸z g1 h1 _ .next l1 D1 (B4 (dI l1 o) Z) tI t:P .next (cY (aq ρ) i<|den w) h1)))
  (λρ g h K P D o t z=>z g h ρ .next (G.le_refl g) D o tI t)
  (λ_ _ a b=>(af2 a b:))
  s
end
def BS(f:Fn)(vs:List SV):Option SL:=if vs.length<=f.np/\f.np<=vs.length+f.gU.length then
  U ((vs++(f.gU.drop<|f.gU.length -(f.np -vs.length)).map e_).map U++gp (f.nl -f.np) Y)
 else Y
noncomputable def rC(stop:List Nat):Nat->qb
 |0,_,_,_,_=> .aR
 |n+1,f,vs,g,K=>cond (stop.contains f) (.call (n+1) f vs g K) <|oK (I.fn f) λfn=>oK (BS fn vs) λρ=>rS (rC stop n) n (.tr fn.body) ρ g λf _ g=>match f with
   |.ret v=>K v g
   |_=>K (.op .none) g
section
theorem ay0{f}{vs}{K}{Q}(D:Hd hb B g h)(t:au d hb B F<|.call n f vs g K)(z:Kq d hb B F g K Q):al I (d+n) f (bf vs) h Q:=
 Fk (C:=l8 d hb B n f vs g) (h:=λv=>au d hb B F<|K v.1<|d_ g v.2) t λα p r a t=>a.2 h Q D λx h' b D'=>have l:=iW (r x).2 g;z _ h' (r x).1 l D' (fR l _<|a.1 x b) (t x b)
theorem KH: ∀(l m:List SV),bf (l++m)=bf l++bf m
 |[],_=>rfl
 |_::r,m=>aA (_) (KH r m)
theorem QR(m:Nat): ∀l:List SV,aq (l.map U++gp m Y)=(bf l).map U++gp m Y
 |[]=>by
  show(gp m<|Y).map (uO den)=_
  rw[List.map_replicate];rfl
 |_::r=>aA (_) (QR m r)
theorem LG{α:Type}{v:α}: ∀{m i:Nat},ah (gp m Y) i≠U (U v)
 |0,_,e=>bd e
 |_+1,0,e=>bd (bL e)
 |m+1,i+1,e=>LG (m:=m) (i:=i) e
theorem Xd{m}{l:List SV}(o:bD g l):a6 g<|l.map U++gp m Y:=by
 induction l with
 |nil=>exact λ_ _ e=>absurd e LG
 |cons w r ih=>
  intro i v e
  cases i
  ·exact bL (bL e)▸o.1
  ·exact ih o.2 _ v e
theorem N6: ∀{l m:List SV},bD g l->bD g m->bD g (l++m)
 |[],_,_,k=>k
 |_::_,_,o,k=>⟨o.1,N6 o.2 k⟩
theorem aK7{f}{vs}{ρ}(o:bD g vs)(e:BS f vs=U ρ):oT f (bf vs)=U (aq ρ)/\a6 g ρ:=by
 unfold BS at e
 unfold oT
 rw[nv]
 by_cases c:vs.length<=f.np/\f.np<=vs.length+f.gU.length
 ·rw[aM c] at e⊢
  have e:=bL e
  subst e
  have w:=rP (g:=g) (f.gU.drop<|f.gU.length -(f.np -vs.length))
  exact⟨by rw[QR,KH,w.1],Xd<|N6 o w.2⟩
 ·rw[aE c] at e
  exact bd e
theorem nB(stop:List Nat): ∀n,pY d hb B F (rC stop n) (al I<|d+n)
 |0=>λ_ _ _ _ _ _ _ _ t _=>t.elim
 |n+1=>λf vs g h K Q D o t z=>Pi t (λ_ t=>ay0 D t z) λ_ t=>ca t λfn a t=>ca t λρ eb t=>
  have b:=aK7 o eb
  e9 a b.1 (uG (nB stop n) (.tr fn.body) _ _ _ _ _ D b.2 t λg1 h1 c f l1 D1 o1 of t=>⟨h1,H.le_refl h1,by
   cases f
   ·exact z g1 h1 (.op .none) l1 D1 tI t
   ·exact z g1 h1 (.op .none) l1 D1 tI t
   ·exact z g1 h1 (.op .none) l1 D1 tI t
   ·exact z g1 h1 v l1 D1 of t⟩)
end
inductive bJ:Type 1 where
 |v (w:SV)
 |u
 |n
 |z
 |t
 |f
 |d (v:SV) (u:List<|Nat×SO)
 |c (α:Type) (p:G->α->Prop) (r:G->α->SV×List (Nat×SO))
 |s (α:Type) (p:α->Prop) (r:G->α->SF×SL×G)
noncomputable def tg(x:bJ):Nat:=bJ.casesOn x (λ_=>0) 1 2 3 4 5 (λ_ _=>6) (λ_ _ _=>7) λ_ _ _=>8
def fh(p:List Bool)(x y:List Bool->Prop):Prop:=uR p False λb r=>cond b (x r) (y r)
def UT(p:List Bool)(x:Prop):Prop:=uR p x λ_ _=>False
def AC(h:List bJ)(k:bJ->List bJ->Prop):Prop:=uR h False λx r=>cond (bF (tg x) 3) (uR r False λy q=>k y<|x::q) (k x r)
def hv(h:List bJ)(k:SV->List bJ->Prop)(c:(α:Type)->(G->α->Prop)->(G->α->SV×List (Nat×SO))->List bJ->Prop):Prop:=AC h λx r=>bJ.casesOn x (λw=>k w r) False False False False False (λ_ _=>False) (λa p q=>c a p q r) λ_ _ _=>False
def hc(h:List bJ)(kd:SV->List (Nat×SO)->List bJ->Prop)(k:(α:Type)->(G->α->Prop)->(G->α->SV×List (Nat×SO))->List bJ->Prop):Prop:=AC h λx r=>bJ.casesOn x (λ_=>False) False False False False False (λv u=>kd v u r) (λa p q=>k a p q r) λ_ _ _=>False
def EW(h:List bJ)(k:(α:Type)->(α->Prop)->(G->α->SF×SL×G)->List bJ->Prop):Prop:=AC h λx r=>bJ.casesOn x (λ_=>False) False False False False False (λ_ _=>False) (λ_ _ _=>False) λa p q=>k a p q r
def ha(h:List bJ)(a b:List bJ->Prop):Prop:=uR h (b h) λx r=>cond (bF (tg x) 1) (a r) (cond (bF (tg x) 2) (b r)<|cond (bF (tg x) 3) (a h)<|b h)
def vX(h:List bJ)(a b:List bJ->Prop)(c:Prop):Prop:=uR h c λx r=>cond (bF (tg x) 4) (a r) (cond (bF (tg x) 5) (b r) c)
section
variable(d:Nat)(hb:H)(B:List ai)(F:SF->SL->G->Prop)
def lf(t:Tr):List bJ->List Bool->Prop:=Tr.rec (λ_ _=>False) (λx ρ g _ p=>UT p<|F x ρ g)
 (λp _ _ a b hs l=>vX hs (λq=>fh l (λ_=>p)<|a q) (λq=>fh l (λ_=> ¬p)<|b q)<|fh l (λr=>p->a hs r) λr=> ¬p->b hs r) (λp _ t hs l=>fh l (λ_=>p)<|t hs) (λ_ k hs l=> ∀a,k a hs l)
 (λT g _ k hs l=>hv hs (λw hs=>fh l (λ_=>T (den w)/\aN g w)<|k w hs) λα p r hs=>fh l (λ_=> ∃y,p g y/\T (den (r g y).1)/\aN g (r g y).1) λq=> ∀y,p g y->k (r g y).1 hs q)
 (λ_ _ a b hs l=>ha hs (λq=>a q l) λq=>b q l)
 (λn f vs g _ k hs l=>hc hs (λv u hs=>fh l (λ_=>ia d hb B n f vs g v u)<|k v (d_ g u) hs) λα p r hs=>fh l (λ_=>l8 d hb B n f vs g α (p g)<|r g) λq=> ∀y,p g y->k (r g y).1 (d_ g (r g y).2) hs q)
 (λn e ρ g _ k hs l=>hc hs (λv u hs=>fh l (λ_=>v7 d hb B n e ρ g v u)<|k v (d_ g u) hs) λα p r hs=>fh l (λ_=>vZ d hb B n e ρ g α (p g)<|r g) λq=> ∀y,p g y->k (r g y).1 (d_ g (r g y).2) hs q)
 (λn s ρ g _ k hs l=>EW hs λα p r hs=>fh l (λ_=>ui d hb B n s ρ g α p<|r g) λq=> ∀y,p y->k (r g y).1 (r g y).2.1 (r g y).2.2 hs q) t
end
inductive dH (f:List Bool->Prop):List Bool->Prop where
 |d {p:List Bool}:f p.reverse->dH f p
 |b {p:List Bool}:dH f (aa::p)->dH f (ae::p)->dH f p
theorem dH.c{f}{p}(x:f (aa::p).reverse)(y:dH f<|ae::p):dH f p:= .b (.d x) y
theorem dH.go{f}{p}{x:List Bool->Prop}{X:Prop}(t:dH f p)(k: ∀r,f (p.reverse++r)->x r)(z0:x []->X)(z:dH f (aa::p)->dH f (ae::p)->(∀r,f ((aa::p).reverse++r)->x (aa::r))->(∀r,f ((ae::p).reverse++r)->x (ae::r))->X):X:=by
 cases t with
 |d a=>exact z0 (k []<|by rw[c9];exact a)
 |b a b=>exact z a b (λr y=>k _<|by rw[pB,aX] at y;exact y) λr y=>k _ (by rw[pB,aX] at y;exact y)
section
theorem dH.ne{f}{p}(t:dH f p): ∃r,f<|p.reverse++r:=by
 induction t with
 |d a=>exact⟨[],by rw[c9];exact a⟩
 |b _ _ ih _=>exact ih.elim λr y=>⟨aa::r,by rw[pB,aX] at y;exact y⟩
section
variable{f:List Bool->Prop}{X:Prop}(ne: ∃r,f r)
include ne
theorem vf(k: ∀r,f r->False):X:=ne.elim λr y=>(k r y).elim
theorem CD{Yqv:bJ->List bJ->List Bool->Prop}(k: ∀r,f r->AC a λx q=>Yqv x q r)(z: ∀x q,(∀r,f r->Yqv x q r)->X):X:=by
 cases a with
 |nil=>exact vf ne k
 |cons x r=>
  have k: ∀q,f q->cond (bF (tg x) 3) (uR r False λy s=>Yqv y (x::s) q) (Yqv x r q):=k
  cases e:bF (tg x) 3 <;>rw[e] at k
  ·exact z x r k
  ·cases r with
   |nil=>exact vf ne k
   |cons y s=>exact z y (x::s) k
theorem W8{D:SV->List bJ->List Bool->Prop}{Yqv:(α:Type)->(G->α->Prop)->(G->α->SV×List (Nat×SO))->List bJ->List Bool->Prop}(k: ∀r,f r->hv h (λw h=>D w h r) λα p q h=>Yqv α p q h r)
  (d: ∀w h,(∀r,f r->D w h r)->X) (z: ∀α p q h,(∀r,f r->Yqv α p q h r)->X):X:=CD ne k λx q k=>by
 have no:=vf (X:=X) ne
 revert k
 exact bJ.casesOn x (λw k=>d w q k) no no no no no (λ_ _=>no) (λa p r k=>z a p r q k) λ_ _ _=>no
theorem as8{D:SV->List (Nat×SO)->List bJ->List Bool->Prop}{Yqv:(α:Type)->(G->α->Prop)->(G->α->SV×List (Nat×SO))->List bJ->List Bool->Prop}(k: ∀r,f r->hc h (λv u h=>D v u h r) λα p q h=>Yqv α p q h r)
  (d: ∀v u h,(∀r,f r->D v u h r)->X) (z: ∀α p q h,(∀r,f r->Yqv α p q h r)->X):X:=CD ne k λx q k=>by
 have no:=vf (X:=X) ne
 revert k
 exact bJ.casesOn x (λ_=>no) no no no no no (λv u k=>d v u q k) (λa p r k=>z a p r q k) λ_ _ _=>no
theorem WU{Yqv:(α:Type)->(α->Prop)->(G->α->SF×SL×G)->List bJ->List Bool->Prop}(k: ∀r,f r->EW h λα p q h=>Yqv α p q h r)(z: ∀α p q h,(∀r,f r->Yqv α p q h r)->X):X:=CD ne k λx q k=>by
 have no:=vf (X:=X) ne
 revert k
 exact bJ.casesOn x (λ_=>no) no no no no no (λ_ _=>no) (λ_ _ _=>no) λa p r k=>z a p r q k
omit ne
theorem v4{b}{A C:List Bool->Prop}(k: ∀r,f r->cond b (A r) (C r))(a:(∀r,f r->A r)->X)(kc:(∀r,f r->C r)->X):X:=by
 cases b
 ·exact kc k
 ·exact a k
theorem aQ7{A C:List bJ->List Bool->Prop}(k: ∀r,f r->ha h (λq=>A q r) λq=>C q r)(a: ∀q,(∀r,f r->A q r)->X)(kc: ∀q,(∀r,f r->C q r)->X):X:=by
 cases h with
 |nil=>exact kc _ k
 |cons x r=>exact v4 k (a _) λk=>v4 k (kc _) λk=>v4 k (a _) (kc _)
theorem aC6{A C:List bJ->List Bool->Prop}{E:List Bool->Prop}(k: ∀r,f r->vX h (λq=>A q r) (λq=>C q r) (E r))(b: ∀q,(∀r,f r->A q r)->X)(kc: ∀q,(∀r,f r->C q r)->X)(a:(∀r,f r->E r)->X):X:=by
 cases h with
 |nil=>exact a k
 |cons x r=>exact v4 k (b _) λk=>v4 k (kc _) a
end
def LO(d:Nat)(hb:H)(B:List ai)(F:SF->SL->G->Prop)(m:List bJ->List Bool->Prop)(t:Tr):Prop:= ∀f l hs,(∀r,f (l.reverse++r)->m hs r)->dH f l->au d hb B F t
theorem dH.bp{X:Prop}{f}{l}{x:Prop}{y}(t:dH f l)(k: ∀r,f (l.reverse++r)->fh r (λ_=>x) y)(z:x->dH f (ae::l)->(∀r,f ((ae::l).reverse++r)->y r)->X):X:=t.go k AT λa b e g=>z (a.ne.elim e) b g
theorem T6{p:Prop}(a:LO d hb B F h o)(b:LO d hb B F mb j):LO d hb B F (λhs l=>vX hs (λq=>fh l (λ_=>p)<|h q) (λq=>fh l (λ_=> ¬p)<|mb q)<|fh l (λr=>p->h hs r) λr=> ¬p->mb hs r)<|.br p o j:=
 λ_ _ hs k s=>aC6 k (λhs k=>s.bp k λx s k=>⟨λ_=>a _ _ hs k s,λy=>(y x).elim⟩) (λhs k=>s.bp k λx s k=>⟨λy=>(x y).elim,λ_=>b _ _ hs k s⟩) λk=>s.go k AT λx y e c=>⟨λq=>a _ _ hs (λr y=>e r y q) x,λq=>b _ _ hs (λr y=>c r y q) y⟩
theorem au4{m:SV->List bJ->List Bool->Prop}{k:SV->Tr}(a: ∀v,LO d hb B F (m v)<|k v):LO d hb B F (λhs l=>hv hs (λw hs=>fh l (λ_=>T (den w)/\aN g w)<|m w hs) λα p r hs=>fh l (λ_=> ∃y,p g y/\T (den (r g y).1)/\aN g (r g y).1) λq=> ∀y,p g y->m (r g y).1 hs q)<|.Qa T g k:=
 λ_ _ hs k s=>W8 s.ne k (λw hs k=>s.bp k λx s k=>⟨w,x,a w _ _ hs k s⟩) λα p r hs k=>s.bp k λx s k=>x.elim λy w=>⟨(r g y).1,w.2,a _ _ _ hs (λq z=>k q z y w.1) s⟩
theorem aB2(a:LO d hb B F j o)(b:LO d hb B F mb h):LO d hb B F (λhs l=>ha hs (λq=>j q l) λq=>mb q l)<|.eh o h:=
 λ_ _ _ k s=>aQ7 k (λhs k=> .inl<|a _ _ hs k s) λhs k=> .inr (b _ _ hs k s)
theorem Tp{p:Prop}(a:LO d hb B F m t):LO d hb B F (λhs l=>fh l (λ_=>p)<|m hs)<|.jT p t:=λ_ _ hs k s=>s.bp k λx s k=>⟨x,a _ _ hs k s⟩
theorem Nx{l f a}{m:SV->G->List bJ->List Bool->Prop}{t:SV->G->Tr}{h:SV->List (Nat×SO)->Prop}{cp:(α:Type)->(α->Prop)->(α->SV×List (Nat×SO))->Prop}(ih: ∀v g,LO d hb B F (m v g)<|t v g)
  (k: ∀r,f (l.reverse++r)->hc a (λv u a=>fh r (λ_=>h v u)<|m v (d_ g u) a) λα p q a=>fh r (λ_=>cp α (p g)<|q g) λl=> ∀y,p g y->m (q g y).1 (d_ g (q g y).2) a l) (s:dH f l)
  (kd: ∀v u,h v u->cp Unit (λ_=>True) λ_=>(v,u)): ∃(α:Type) (p:α->Prop) (r:α->SV×List (Nat×SO)),cp α p r/\ ∀x,p x->au d hb B F (t (r x).1<|d_ g (r x).2):=
 as8 s.ne k (λv u a k=>s.bp k λx s k=>⟨_,_,_,kd v u x,λ_ _=>ih _ _ _ _ a k s⟩) λα p r a k=>s.bp k λx s k=>⟨_,_,_,x,λv b=>ih _ _ _ _ a (λq y=>k q y v b) s⟩
theorem aC1{m:SV->G->List bJ->List Bool->Prop}{k:SV->G->Tr}(a: ∀v g,LO d hb B F (m v g)<|k v g):LO d hb B F (λhs l=>hc hs (λv u hs=>fh l (λ_=>ia d hb B n f vs g v u)<|m v (d_ g u) hs) λα p r hs=>fh l (λ_=>l8 d hb B n f vs g α (p g)<|r g) λq=> ∀y,p g y->m (r g y).1 (d_ g (r g y).2) hs q)<|.call n f vs g k:=
 λ_ _ _ k s=>Nx (cp:=l8 d hb B n f vs g) a k s λv u x=>⟨λ_ _=>x.1,λh Q D k=>x.2 h Q D λh'=>k () h' tI⟩
theorem ag4{m:SV->G->List bJ->List Bool->Prop}{k:SV->G->Tr}(a: ∀v g,LO d hb B F (m v g)<|k v g):LO d hb B F (λhs l=>hc hs (λv u hs=>fh l (λ_=>v7 d hb B n e ρ g v u)<|m v (d_ g u) hs) λα p r hs=>fh l (λ_=>vZ d hb B n e ρ g α (p g)<|r g) λq=> ∀y,p g y->m (r g y).1 (d_ g (r g y).2) hs q)<|.ex n e ρ g k:=
 λ_ _ _ k s=>Nx (cp:=vZ d hb B n e ρ g) a k s λv u x=>⟨λ_ _=>x.1,λh Q D k=>x.2 h Q D λh'=>k () h' tI⟩
theorem ac4{m:SF->SL->G->List bJ->List Bool->Prop}{t:SF->SL->G->Tr}(a: ∀v ρ g,LO d hb B F (m v ρ g)<|t v ρ g):LO d hb B F (λhs l=>EW hs λα p r hs=>fh l (λ_=>ui d hb B n s ρ g α p<|r g) λq=> ∀y,p y->m (r g y).1 (r g y).2.1 (r g y).2.2 hs q)<|.st n s ρ g t:=
 λ_ _ _ k s=>WU s.ne k λα p r hs k=>s.bp k λx s k=>⟨α,p,r g,x,λv b=>a _ _ _ _ _ hs (λq y=>k q y v b) s⟩
theorem sL(t:Tr){f:List Bool->Prop}{l:List Bool}(hs:List bJ)(k: ∀r,f (l.reverse++r)->lf d hb B F t hs r)(s:dH f l):au d hb B F t:=by
 refine Tr.rec (motive:=λt=>LO d hb B F (lf d hb B F t) t) (λ_ _ _ k s=>s.ne.elim k) (λx ρ g _ _ hs k s=>s.go k id λa _ c _=>a.ne.elim λr y=>AT<|c r y)
  (λp _ _ a b=>(T6 a b:)) (λp t a=>(Tp a:)) (λt ih _ _ hs k s a=>ih a _ _ hs (λr y=>k r y a) s) (λT g t a=>(au4 a:)) (λ_ _ a b=>(aB2 a b:)) (λn f vs g t a=>(aC1 a:)) (λn f vs g t a=>(ag4 a:)) (λn f vs g t a=>(ac4 a:)) t _ _ hs k s
end
noncomputable abbrev FQ(hb:H)(B:List ai)(Q:V->H->Prop):SF->SL->G->Prop:=λx _ g=> ∀h',Hd hb B g h'->match x with
 |.ret v=>Q (den v) h'
 |_=>False
abbrev FP(hb:H)(B:List ai)(P:Fl->L->H->Prop):SF->SL->G->Prop:=λx ρ g=> ∀h',Hd hb B g h'->a6 g ρ->P (wB x) (aq ρ) h'
noncomputable abbrev aL(i:Int):SV:= .int i (.b i i)
noncomputable abbrev gA:SV->G->Tr:=λv g=> .done (.ret v) [] g
noncomputable def Fa(h:H)(g0:G):G->Prop
 |[]=>True
 |x::r=>x.2.at (h x.1)/\(∀y∈r.map (·.1),x.1≠y)/\x.2.ok g0/\Fa h g0 r
noncomputable def il(g:G):List (Nat×SV)->Prop
 |[]=>True
 |x::r=>aN g x.2/\il g r
theorem mm{g}{a:List<|Nat×SV}(k:il g a) f v(e:bc a f=U v):aN g v:=by
 induction a with
 |nil=>exact bd e
 |cons p r ih=>
  have e:cond (bF p.1 f) (U p.2) (bc r f)=U v:=e
  cases c:bF p.1 f <;>rw[c] at e
  ·exact ih k.2 e
  ·exact bL e▸k.1
theorem yP{α β:Type}{f:α->β}: ∀{l:List α} {i:Nat} {a:α},ah l i=U a->f a∈l.map f
 |_::_,0,_,e=>by exact iK e (.head _)
 |_::l,i+1,_,e=> .tail _ (yP e)
section
variable{h:H}{g0:G}
theorem Fa.am{g:G}{k:Nat}{a:ai}{o:SO}(f:Fa h g0 g)(e:ah g k=U (a,o)):o.at (h a)/\o.ok g0:=by
 induction g generalizing k with
 |nil=>exact bR e
 |cons x r ih=>
  cases k
  ·exact iK (P:=λy=>y.2.at (h y.1)/\y.2.ok g0) e ⟨f.1,f.2.2.1⟩
  ·exact ih f.2.2.2 e
theorem Fa.ne{x:ai×SO}{g:G}{j:Nat}{a}{y}(f:Fa h g0<|x::g)(e:U x=U (a,z))(e':ah g j=U (a,y)):False:=f.2.1 _ (yP (f:=(·.1)) e') (aA (·.1)<|bL e)
theorem Fa.inj{g:G}{i j:Nat}{a:ai}{x y:SO}(f:Fa h g0 g)(e:ah g i=U (a,x))(e':ah g j=U (a,y)):i=j:=by
 induction g generalizing i j with
 |nil=>exact bR e
 |cons z r ih=>
  cases i <;>cases j
  ·rfl
  ·exact(Fa.ne f e e').elim
  ·exact(Fa.ne f e' e).elim
  ·exact aA (· +1) (ih f.2.2.2 e e')
theorem Hd.of{g}(f:Fa h g g):Hd h (g.map (·.1)) g h where
 am _ _ _ e:=(f.am e).1
 ok _ _ _ e:=(f.am e).2
 inj _ _ _ _ _ e e' _ _:=f.inj e e'
 fr _ _ e n:=⟨e,λ_ _ m=>n<|yP m⟩
end
section
variable{d n f:Nat}{vs:List SV}{h:H}{B:List ai}{g:G}{Q:V->H->Prop}
theorem cf(stop:List Nat)(hs:List bJ)(D:Hd h B g h)(o:bD g vs)(k:dH (lf d h B (FQ h B Q) (rC stop n f vs g gA) hs) []):al I (d+n) f (bf vs) h Q:=
 nB stop n f vs g h gA Q D o (sL _ hs (λ_ x=>x) k) λ_ h' _ _ D' _ t=>t h' D'
theorem gG(stop:List Nat)(hs:List bJ){ρ}{hb}{b}{P}(D:Hd hb B g h)(o:a6 g ρ)(k:dH (lf d hb B (FP hb B P) (rS (rC stop n) n (.tr b) ρ g .done) hs) []):aZ I (al I<|d+n) b (aq ρ) h P:=
 uG (nB stop n) (.tr b) _ _ _ _ _ D o (sL _ hs (λ_ x=>x) k) λ_ h' _ _ _ D' o' _ t=>t h' D' o'
end
theorem Hd.le{hb h h'}{B}{g}(D:Hd hb B g h)(l:H.le h h'):Hd hb B g h' where
 am k a o e:=SO.Cn (l a) (D.am k a o e)
 ok:=D.ok
 inj:=D.inj
 fr b o e n:=have w:=D.fr b o e n;⟨l b o w.1,w.2⟩
theorem Hd.f{h h'}{B}{g}(D:Hd h B g h'): ∀b o,h b=U o->b∉B->h' b=U o:=λb o e n=>(D.fr b o e n).1
section
variable{d n:Nat}{h hb:H}{B:List ai}{g:G}{Q:V->H->Prop}
theorem DF(stop:List Nat)(hs:List bJ){e}{ρ}(D:Hd hb B g h)(o:a6 g ρ)(k:dH (lf d hb B (FQ hb B Q) ((rE (rC stop n) n e ρ g).v gA) hs) []):(ao I (al I<|d+n) e<|aq ρ).v h Q:=
 (iI (nB stop n) e).v D o (sL _ hs (λ_ x=>x) k) λ_ h' _ _ D' _ t=>t h' D'
end
section
variable{d n:Nat}{h hb:H}{B:List ai}{g:G}{P:Fl->L->H->Prop}
theorem dA(stop:List Nat)(hs:List bJ){t}{b}{v}{ρ}(D:Hd hb B g h)(o:a6 g ρ)(ov:aN g v)(k:dH (lf d hb B (FP hb B P) (tf (rC stop n) n t v ρ g λρ g=>rS (rC stop n) n (.tr b) ρ g .done) hs) []):cq (al I<|d+n) t b (den v) (aq ρ) h P:=
 Cz (nB stop n) t _ _ _ _ _ _ D o ov (sL _ hs (λ_ x=>x) k) λ_ h1 _ _ D1 o1 t=>uG (nB stop n) (.tr b) _ _ _ _ _ D1 o1 t λ_ h' _ _ _ D' o' _ t=>t h' D' o'
end
section
variable{h h':H}{g g0:G}{v:SV}{l:List SV}{ρ:SL}{a:ai}{o so:SO}{k:Nat}{fs:List<|Nat×SV}
theorem aY:bD g []:=tI
theorem bM(x:aN g v)(y:bD g l):bD g<|v::l:=⟨x,y⟩
theorem bE{w}(y:bD g l):bD g<|.op w::l:=⟨tI,y⟩
theorem bU{i}(y:bD g l):bD g<|.int i (.b i i)::l:=⟨⟨aU i,aU i⟩,y⟩
theorem cD{i p j}(x:p<=i)(z:i<=j)(y:bD g l):bD g<|.int i (.b p j)::l:=⟨⟨x,z⟩,y⟩
theorem ij(e:ah g k=U (a,o))(y:bD g l):bD g<|.ref k a::l:=⟨⟨o,e⟩,y⟩
theorem dW(x:bD g l):aN g<|.aj l:=x
theorem mZ(x:bD g l):aN g<|.fl l:=x
theorem bk:a6 g []:=λ_ _ e=>bd e
theorem aT(x:aN g v)(y:a6 g ρ):a6 g<|U v::ρ:=λi w e=>match i,e with
 |0,e=>by cases e;exact x
 |i+1,e=>y i w e
theorem aD(y:a6 g ρ):a6 g<|Y::ρ:=λi w e=>match i,e with
 |i+1,e=>y i w e
theorem aB{w}(y:a6 g ρ):a6 g<|U (.op w)::ρ:=aT tI y
theorem gx{i}(y:a6 g ρ):a6 g<|U (.int i<|.b i i)::ρ:=aT ⟨aU i,aU i⟩ y
theorem je{i j p}(x:j<=i)(z:i<=p)(y:a6 g ρ):a6 g<|U (.int i<|.b j p)::ρ:=aT ⟨x,z⟩ y
theorem bG(e:ah g k=U (a,o))(y:a6 g ρ):a6 g<|U (.ref k a)::ρ:=aT ⟨o,e⟩ y
theorem d2:il g []:=tI
theorem c7{f}(x:aN g v)(y:il g fs):il g<|(f,v)::fs:=⟨x,y⟩
theorem dK{f}{w}(y:il g fs):il g<|(f,.op w)::fs:=⟨tI,y⟩
theorem dN{f}{i}(y:il g fs):il g<|(f,.int i<|.b i i)::fs:=⟨⟨aU i,aU i⟩,y⟩
theorem OL{f}{i p j}(x:p<=i)(z:i<=j)(y:il g fs):il g<|(f,.int i<|.b p j)::fs:=⟨⟨x,z⟩,y⟩
theorem kD{f}(e:ah g k=U (a,o))(y:il g fs):il g<|(f,.ref k a)::fs:=⟨⟨o,e⟩,y⟩
theorem Fa.nl:Fa h g0 []:=tI
theorem Fa.is{c}(x:h a=U (.aK c<|b8 fs))(n: ∀y∈g.map (·.1),a≠y)(y:il g0 fs)(z:Fa h g0 g):Fa h g0<|(a,.aK c fs)::g:=⟨x,n,mm y,z⟩
theorem Fa.ls{l}(x:h a=U (.list l))(n: ∀y∈g.map (·.1),a≠y)(z:Fa h g0 g):Fa h g0<|(a,.list l)::g:=⟨x,n,tI,z⟩
theorem Fa.ss{m}(x:h a=U (.list<|bf m))(n: ∀y∈g.map (·.1),a≠y)(y:bD g0 m)(z:Fa h g0 g):Fa h g0<|(a,.ls m)::g:=⟨x,n,y,z⟩
theorem Fa.di{l}(x:h a=U (.dict l))(n: ∀y∈g.map (·.1),a≠y)(z:Fa h g0 g):Fa h g0<|(a,.dict l)::g:=⟨x,n,tI,z⟩
theorem bj: ∀y∈([]:List ai),a≠y:=λ_ m=>dB m
theorem b9{b}{r}(x:a≠b)(y: ∀y∈r,a≠y): ∀y∈b::r,a≠y:=λz m=>(bC.mp m).elim (λe=>e▸x) (y z)
end
noncomputable def jq(g:G)(u:List<|Nat×SO):List ai:=u.map λp=>match ah g p.1 with
 |U x=>x.1
 |Y=>0
noncomputable def rz(g:G)(h':H):List (Nat×SO)->Prop
 |[]=>True
 |p::r=>(match ah g p.1 with|U x=>x.2.lv/\p.2.at (h' x.1)/\p.2.ok g|Y=>False)/\rz g h' r
abbrev Fr(h h':H)(A:List ai):Prop:= ∀b o,h b=U o->b∉A->h' b=U o
section
variable{hb h h':H}{B:List ai}{g:G}
theorem uK: ∀{u:List<|Nat×SO} {g:G} {k:Nat} {a:ai} {o:SO},ah (d_ g u) k=U (a,o)-> ∃p,ah g k=U (a,p)/\((p=o/\ ∀q∈u,q.1≠k)\/(k,o)∈u)
 |[],_,_,_,o,e=>⟨o,e,.inl ⟨rfl,λ_ m=>dB m⟩⟩
 |(j,q)::u,g,k,a,o,e=>by
  have bp: ∀{k a o},ah (gy g g j λx=>kh g g j (x.1,q) id) k=U (a,o)-> ∃p,ah g k=U (a,p)/\((p=o/\(j≠k\/ah g j=Y))\/(k=j/\o=q)):=λ{k a o} e=>by
   rw[zY] at e
   cases ej:ah g j with
   |none=>rw[ej] at e;exact⟨o,e,.inl ⟨rfl,.inr rfl⟩⟩
   |some x=>
    rw[ej] at e
    have e:ah (kh g g j (x.1,q) id) k=U (a,o):=e
    rw[AI,ej] at e
    exact(cO ej e).elim (λz=>⟨x.2,z.1▸z.2.1▸ej,.inr ⟨z.1.symm,z.2.2⟩⟩) λz=>⟨o,z.2,.inl ⟨rfl,.inl z.1⟩⟩
  obtain⟨p,ep,c⟩:=uK (u:=u) e
  obtain⟨r,er,c'⟩:=bp ep
  refine⟨r,er,?_⟩
  cases c with
  |inr m=>exact .inr (.tail _ m)
  |inl c=>
   cases c' with
   |inr z=>exact .inr (by rw[z.1,<-c.1,z.2];exact .head _)
   |inl z=>exact .inl ⟨z.1.trans c.1,λy m=>by
     cases m with
     |head=>exact z.2.elim id λn (f:j=k)=>by rw[f,er] at n;cases n
     |tail _ m=>exact c.2 y m⟩
theorem yA{u:List<|Nat×SO}{k:Nat}{a:ai}{o p:SO}(x:rz g h' u)(m:(k,o)∈u)(e:ah g k=U (a,p)):p.lv/\o.at (h' a)/\o.ok g/\a∈jq g u:=by
 induction u with
 |nil=>exact dB m
 |cons q u ih=>
  refine(bC.mp m).elim (λz=> ?_) λm=>have w:=ih x.2 m;⟨w.1,w.2.1,w.2.2.1,.tail _ w.2.2.2⟩
  subst z
  have x:=x.1
  unfold jq
  rw[kO]
  dsimp only at x⊢
  rw[e] at x⊢
  exact⟨x.1,x.2.1,x.2.2,.head _⟩
theorem D6: ∀{u:List<|Nat×SO} {a:ai},rz g h' u->a∈jq g u-> ∃k o p,(k,o)∈u/\ah g k=U (a,p)/\p.lv
 |p::_,a,x,m=>by
  have y:=x.1
  unfold jq at m
  rw[kO] at m
  cases e:ah g p.1 with
  |none=>rw[e] at y;exact y.elim
  |some z=>
   rw[e] at y m
   exact(bC.mp m).elim (λq=>⟨p.1,p.2,z.2,.head _,e.trans<|congrArg (λa=>U (a,z.2)) q.symm,y.1⟩) λm=>(D6 x.2 m).imp λk w=>w.imp λo w=>w.imp λq w=>⟨.tail _ w.1,w.2⟩
theorem d7:rz g h' []:=tI
theorem dg{k}{a}{o p}{u}(e:ah g k=U (a,o))(lv:o.lv)(x:p.at<|h' a)(ok:p.ok g)(y:rz g h' u):rz g h'<|(k,p)::u:=⟨by dsimp only;rw[e];exact⟨lv,x,ok⟩,y⟩
theorem Hd.go{u}(D:Hd hb B g h)(f:Fr h h'<|jq g u)(x:rz g h' u):Hd hb B (d_ g u) h' where
 am k a o e:=by
  obtain⟨p,ep,c|m⟩:=uK e
  ·by_cases m:a∈jq g u
   ·obtain⟨j,q,r,m,ej,lv⟩:=D6 x m
    exact SO.E3 λl=>c.2 _ m (D.inj j k a r p ej ep lv<|c.1▸l)
   ·exact SO.Cn (λu e=>f a u e m) (c.1▸D.am k a p ep)
  ·exact(yA x m ep).2.1
 ok k a o e:=by
  obtain⟨p,ep,c|m⟩:=uK e
  ·exact SO.yc (iW u g) (c.1▸D.ok k a p ep)
  ·exact SO.yc (iW u g) (yA x m ep).2.2.1
 inj i j a y z e e' ly lz:=by
  obtain⟨p,ep,c⟩:=uK e
  obtain⟨q,s,c'⟩:=uK e'
  exact D.inj i j a p q ep s (c.elim (λc=>c.1▸ly) λm=>(yA x m ep).1) (c'.elim (λc=>c.1▸lz) λm=>(yA x m s).1)
 fr b o e n:=by
  have w:=D.fr b o e n
  refine⟨f b o w.1 λm=> ?_,λk y e=> ?_⟩
  ·obtain⟨j,q,r,_,ej,_⟩:=D6 x m
   exact w.2 j r ej
  ·obtain⟨p,ep,_⟩:=uK e
   exact w.2 k p ep
end
end c6.La
namespace c6.La
set_option smartUnfolding false
open PySem
theorem a9(f:Fr h h' []):H.le h h':=λb o e=>f b o e λm=>dB m
structure cX where
 x:Int
 y:Int
 z:Int
abbrev cX.o(b:cX):O:= .list [.int b.x,.int b.y,.int b.z]
structure cX.ok(b:cX)(n:Int):Prop where
 x0:0<=b.x
 x1:b.x<=10^90
 y0:0<=b.y
 y1:b.y<=2147483628
 z0:0<=b.z
 z1:b.z<=n
theorem yd{b:cX}(ha:h a=U b.o)(hb:b.ok m)(hn:1<=n/\n<=1073741823)(hm:m<=1000000)
  (k: ∀h' r b',0<=r->r <n->cX.ok b' (m+1)->h' a=U b'.o->Fr h h' [a]->Q (.int r) h'):al I (d+1) 103 [.ref a,.int n] h Q:=by
 refine cf (g:=[(a,.ls [.int b.x .no,.int b.y<|.b 0 2147483628,.int b.z<|.b 0 1000000])]) (vs:=[.ref 0 a,.int n<|.b 1 1073741823]) [] [] (Hd.of<|Fa.ss ha bj (bM tI<|cD hb.y0 hb.y1<|cD hb.z0 (az hb.z1 hm) aY) Fa.nl) (ij rfl<|cD hn.1 hn.2 aY) (.c ?_<|.d ?_)
 ·intro c h' D
  exact k h' (b.x% n) ⟨b.x/n,b.y,b.z⟩ (pz _<|pA hn.1) (qT _ hn.1) ⟨xn hb.x0<|eT hn.1,az (Q_ _ hb.x0) hb.x1,hb.y0,hb.y1,hb.z0,az hb.z1<|aS3<|aU m⟩ (D.am 0 a _ rfl) D.f
 ·intro _ h' D
  exact k h' _ ⟨b.x,b.y,b.z+1⟩ (pz _<|pA hn.1) (qT _ hn.1) ⟨hb.x0,hb.x1,hb.y0,hb.y1,aS3 hb.z0,g9 hb.z1 1⟩ (D.am 0 a _ rfl) D.f
def yg(l:List Int):Prop:= ∀i∈l,-1073741823<=i/\i<=1073741823
theorem B2{α β:Type} e(f:α->L)(a:g h)(k: ∀x,P .next (f x) h): ∀(l:List β),
  (∀j∈l,∀x R,(∀y h',H.le h h'->R .next (f y) h'/\R .cont (f y) h')->B (e j) (f x) h R)-> ∀x,du B g (l.map e) (f x) h P
 |[],_,x=>⟨a,k x⟩
 |j::r,s,x=>⟨a,s j (.head _) x _ λy _ l=>have z:=B2 e f a k r (λj m=>s j<|.tail _ m) y;⟨⟨h,l,z⟩,⟨h,l,z⟩⟩⟩
theorem vV(hv: ∀K,K (vi l) bP h->hQ h K v)(hl:yg l)(k:Q .none h):al I (d+3) 8 [v] h Q:=by
 refine e9 (fn:=f8) rfl rfl (bA<|iC<|jQ<|ap rfl<|hv _<|B2 V.int (λx=>[U v,x]) tI (λ_=>⟨_,H.le_refl _,k⟩) l (λj m x R n=>eI<|gG [] [] (Hd.of Fa.nl) (aB<|je (hl j m).1 (hl j m).2 bk)<|.d ?_) _)
 exact λh' D _=>(n _ h'<|a9 D.f).1
end c6.La
namespace c6.La
open PySem
noncomputable def oc(w:Int):List Int:=[w/16777216% 256,w/65536% 256,w/256% 256,w% 256]
def bs(ws:List Int):List Int:=ws.flatMap oc
theorem tz(A B:List Int):bs (A++B)=bs A++bs B:=List.flatMap_append
theorem I9(A:List Int)(w:Int):(bs<|A++[w]).length=(bs A).length+4:=by rw[tz,aC];rfl
theorem rq(ws:List Int):(bs ws).length=4*ws.length:=by
 unfold bs
 induction ws with
 |nil=>rfl
 |cons w r ih=>rw[List.flatMap_cons,aC,ih,eU,pC,c5];rfl
theorem Tu{α}(X Yqv Z:List α):cB (X++(Yqv++Z)) X.length (X.length+Yqv.length)=Yqv:=by
 unfold cB
 rw[List.take_append,List.take_of_length_le<|cm _ _,Nat.add_sub_cancel_left,aS4,aS5]
theorem OG:eg []:=λ_ m=>dB m
theorem xO{x}{r}(h:0<=x/\x<=255)(k:eg r):eg<|x::r:=λi m=>(bC.mp m).elim (λe=>e▸h) (k i)
theorem Am(j:Int):0<=j% 256/\j% 256<=255:=⟨pz j dd,iR<|qT j dd⟩
theorem Ge(w:Int):eg<|oc w:=xO (Am _) (xO (Am _)<|xO (Am _)<|xO (Am _) OG)
theorem Cy{A B}{w}{h}{Q}(hl:(bs<|A++w::B).length<=4000)(k:Q (.a8<|oc w) h):jp h Q (.a8<|bs<|A++w::B) (.int (bs A).length)<|.int<|(bs A).length+4:=by
 have e:bs (A++w::B)=bs A++(oc w++bs B):=tz A (w::B)
 rw[e] at hl⊢
 refine .Qd (ak hl dd) (dx _) (dx<|(bs A).length+4) (?_:Q (.a8<|cB (bs A++(oc w++bs B)) (min (bs A).length _)<|min ((bs A).length+4) _) h)
 rw[aC,aC,GI<|cm _ _,GI (show(bs A).length+4<=(bs A).length+((oc w).length+(bs B).length) from eH (cm 4 _) _)]
 exact(Tu (bs A) (oc w)<|bs B).symm▸k
theorem aI4{B}{h}{F}{Z}: ∀(us A:List Int) (K:List V->H->Prop) (h1:H),H.le h h1->
  (∀a w b,w∈us->A++(us++Z)=a++w::b-> ∀h1 (K:Option V->H->Prop),H.le h h1->(∀h2,H.le h h2->K (U<|F w) h2)->B (.int (bs a).length) h1 K)->(∀h2,H.le h h2->K (us.map F) h2)->hU B bP (ez (bs A).length 4 us.length) h1 K:=λus=>by
 induction us with
 |nil=>exact λA K h1 l _ k=>⟨tI,k h1 l⟩
 |cons w r ih=>exact λA K h1 l hb k=>⟨tI,hb A w (r++Z) (.head _) rfl h1 _ l λh2 l2=>by
   have z:=ih (A++[w]) (λws h=>K (F w::ws) h) h2 l2 (λa u b m e=>hb a u b (.tail _ m)<|by rw[<-e,aX];rfl) k
   rw[I9] at z
   exact z⟩
theorem UG(p:Int)(m:Nat):sp p (p+4*m) 4=m:=by
 unfold sp
 rw[aM dd]
 cases m with
 |zero=>rw[aE (show¬p <p+4*((0:Nat)) from fH.mpr<|Int.le_of_eq<|Int.add_zero p)];rfl
 |succ m=>
  rw[aM (show p <p+4*((m+1:Nat)) from aS6 p<|Int.natCast_pos.mpr<|Nat.succ_pos _),iy p,mq]
  have e:(4*((m+1:Nat):Int) -1)=3+4*m:=by lia
  rw[e,Ra _ _ dd]
  show((0:Int)+m+1).toNat=m+1
  rw[qU];rfl
noncomputable def nM(s:Int):Int:=if s <8388608 then 1 else if s <16777216 then 2 else 4
def a7(w s:Int):Int:=w*(s -s% nM s)/1048576
theorem Pf{x y m n:Int}(hm:0 <m):(x/m+y)/n=(x+m*y)/(m*n):=by
 rw[<-sU<|eT hm,Ra _ _<|pA hm]
structure Sz(s R f B D:Int):Prop where
 b:nM s=B
 b0:0 <B
 r:R=s/B
 r0:0<=R
 r1:R<=33554431
 f0:16<=f
 f1:f<=64
 d:256/f=D
 d0:1<=D/\D<=1073741823
 m:B*(65536*D)=1048576
 mf:65536*D*f=16777216
theorem Sz.at{s R f B D x y z}(S:Sz s R f B D):((x*R/256+y*R)/256+z*R)/(256/f)=(x+256*(y+256*z))*R/(65536*D):=by
 have e:(x+256*(y+256*z))*R=x*R+256*(y*R)+256*256*(z*R):=by rw[Rb,qW,Rb,qW,qX,<-qW 256 256,<-gq]
 rw[S.d,Pf (n:=256) dd,Pf dd,e]
 rfl
theorem Sz.KI{s R f B D w}(S:Sz s R f B D):a7 w s=w*R/(65536*D):=by
 unfold a7
 have e:s -s% B=B*R:=by have e:=aS7 s B;rw[<-S.r] at e;lia
 rw[S.b,e,<-S.m,Int.mul_left_comm,Int.mul_ediv_mul_of_pos _ _ S.b0]
theorem Sz.neg{s R f B D w x y z}(S:Sz s R f B D)(e:w=x+256*(y+256*z) -16777216):w*R/(65536*D)=((x*R/256+y*R)/256+z*R)/(256/f) -f*R:=by
 rw[S.at,e,Int.sub_mul,<-S.mf,qW,Int.sub_mul_ediv_left _ _<|pA<|Int.mul_pos dd S.d0.1]
theorem ag3(w:Int):w% 256+256*(w/256% 256+256*(w/65536% 256+256*(w/16777216)))=w:=by
 have e1:w/256/256=w/65536:=sU dd
 have e2:w/65536/256=w/16777216:=sU dd
 rw[<-e2,Rc,<-e1,Rc,Rc]
theorem zV{w}(h: -16777216<=w/\w <16777216):(w/16777216% 256=0/\w=w% 256+256*(w/256% 256+256*(w/65536% 256)))\/(w/16777216% 256=255/\w=w% 256+256*(w/256% 256+256*(w/65536% 256)) -16777216):=by
 have e:=ag3 w
 by_cases n:w <0
 ·have q:=Int.ediv_eq_neg_one_of_neg_of_le n (Int.neg_le_of_neg_le h.1)
  rw[q] at e⊢
  exact .inr ⟨rfl,by generalize w/65536% 256=z at e⊢;lia⟩
 ·have q:=GJ (fH.mp n) h.2
  rw[q] at e⊢
  rw[Rd,e7] at e
  exact .inl ⟨rfl,e.symm⟩
set_option smartUnfolding false in
theorem aL1{d}{w s R f B D}{h}{Q}(S:Sz s R f B D)(hw: -16777216<=w/\w <16777216)(k: ∀h',H.le h h'->Q (.int<|a7 w s) h'):al I (d+1) 20 [.a8<|oc w,.int R,.int f] h Q:=by
 refine cf [] [] (Hd.of Fa.nl) (bE<|cD S.r0 S.r1<|cD S.f0 S.f1 aY) (.c (Ge w)<|.c ?_<|.c ?_<|.c ?_<|.d ?_)
 ·show 1<=256/f/\256/f<=1073741823
  rw[S.d];exact S.d0
 ·intro e h' D
  exact(zV hw).elim (λq=>pD (motive:=λv=>Q (.int v) h') (S.KI.trans<|(aA (· *R/_) q.2).trans S.at.symm)<|k h'<|a9 D.f) λq=>absurd (q.1.symm.trans e) dd
 ·intro e _ h' D
  exact(zV hw).elim (λq=>absurd q.1 e) λq=>pD (motive:=λv=>Q (.int v) h') (S.KI.trans<|S.neg q.2) (k h'<|a9 D.f)
 ·exact λe e'=>((zV hw).elim (λq=>e q.1) λq=>e' q.1)
theorem uh(s:Int): ∀(a:Int) (n:Nat),(ez a s n).length=n
 |_,0=>rfl
 |a,n+1=>aA (· +1) (uh s (a+s) n)
def wH(us:List Int):Prop:= ∀w∈us,-16777216<=w/\w <16777216
structure ir(ws A us:List Int)(p m:Int):Prop where
 e: ∃Z,ws=A++(us++Z)
 p:p=(bs A).length
 m:m=us.length
 l:(bs ws).length<=4000
theorem BC{n:Nat}(h:n<=4000):ip n:=⟨az dd<|dx n,az (bT.mpr h) dd⟩
theorem Mf{C}{cs}{t A us}{p m}{ρ o}{j a}{h}{Q}{F}(S:ir t A us p m)(hi: ∀{K},j3 h K [.int p,.int<|p+4*m,.int 4]->(ao I C j ρ).i h K)(hc: ∀{K:L->Prop},K o->iF ρ cs K)
  (he: ∀A w Z,w∈us->t=A++w::Z-> ∀h1 (Q:V->H->Prop),H.le h h1->(∀h2,H.le h h2->Q (F w) h2)->(ao I C a<|U (.int (bs A).length)::o).v h1 Q) (k: ∀h',H.le h h'->Q (.fl<|us.map F) h'):(ao I C (.comp aa cs j (.c<|.bool aa) a) ρ).v h Q:=by
 obtain⟨⟨Z,e⟩,ep,em,l⟩:=S
 have l':=l
 rw[e,tz,tz,aC,aC,<-cH] at l'
 have l2:=ak (cm _ _) l'
 have e2:p+4*m=((bs A).length+(bs us).length):=by rw[ep,em,rq us];rfl
 refine hi (.FF (ep▸BC (ak (cm _ _) l2)) (e2▸BC l2) dd dd ?_)
 rw[em,UG,ep]
 have l3:=ak (uT _ _) l2
 rw[rq] at l3
 exact⟨by rw[uh];exact ak (aS8 _ dd)<|Nat.le_trans l3 dd,hc<|aI4 us A _ h (H.le_refl h) (λb w c m q h1 K l f=>nu<|he b w c m (e.trans q) h1 _ l f) k⟩
noncomputable abbrev F5(i j:Nat):E:= .bi .range (.cons (.x i)<|.cons (.dT .add (.x i)<|.dT .mul (.c<|.int 4)<|.x j)<|.cons (.c<|.int 4) .nil)
noncomputable abbrev FA(i:Nat):E:= .sl (.x i) (.x 0) (.dT .add (.x 0)<|.c<|.int 4)
theorem Jb{C}{i j}{p m}{ρ:L}{h}{K}(hi:ah ρ i=U (U<|.int p))(hj:ah ρ j=U (U<|.int m))(k:j3 h K [.int p,.int<|p+4*m,.int 4]):(ao I C (F5 i j) ρ).i h K:=
 i7 (ay<|ap hi<|ay<|eC<|ap hi<|eC<|bl<|ap hj<|.z_ ⟨dd,dd⟩<|.jg<|ay<|bl k)
theorem HY{C}{A Z}{w}{a:L}{i}{h}{Q}(hl:(bs<|A++w::Z).length<=4000)(hi:ah a i=U (U<|.a8<|bs<|A++w::Z))(k:Q (.a8<|oc w) h):(ao I C (FA<|i+1)<|U (.int (bs A).length)::a).v h Q:=
 qO (ap hi<|ap rfl<|eC<|ap rfl<|bl<|.jg<|Cy hl k)
theorem C5{d}{a A us}{p m s R f B D}{ρ:L}{h}{Q}(S:Sz s R f B D)(G:ir a A us p m)(c:wH us)(hp:ah ρ 1=U (U<|.int p))(hm:ah ρ 2=U (U<|.int m))(h4:ah ρ 4=U (U<|.int R))(g:ah ρ 5=U (U<|.int f))(h0:ah ρ 0=U (U<|.a8<|bs a))
  (k: ∀h',H.le h h'->Q (.fl<|us.map λw=> .int<|a7 w s) h'):(ao I (al I<|d+1) (.comp aa [4,5,0] (F5 1 2) (.c<|.bool aa)<|.call 20<|.cons (FA 3)<|.cons (.x 1)<|.cons (.x 2) .nil) ρ).v h Q:=
 Mf G (Jb hp hm) (λk=>m_ h4<|m_ g<|m_ h0<|jC k) (λA w Z b e h1 Q l k=>eN (ay (by
  subst e
  exact HY G.l rfl<|ay<|ap rfl<|ay<|ap rfl<|bg<|aL1 S (c w b) λh2 l2=>k h2<|H.le_trans l l2))) k
theorem Ue{C}{a A us}{p m}{ρ:L}{h}{Q}(G:ir a A us p m)(hp:ah ρ 1=U (U<|.int p))(hm:ah ρ 2=U (U<|.int m))(h0:ah ρ 0=U (U<|.a8<|bs a))
  (k: ∀h',H.le h h'->Q (.fl<|us.map λw=> .aj<|vi<|oc w) h'):(ao I C (.comp aa [0] (F5 1 2) (.c<|.bool aa)<|.bi .tuple<|.cons (FA 1) .nil) ρ).v h Q:=
 Mf G (Jb hp hm) (λk=>m_ h0<|jC k) (λA w Z b e h1 Q l k=>eP (ay (by
  subst e
  exact HY G.l rfl<|bg<|.I6 (d6 rfl)<|k h1 l))) k
theorem XK{s}(h0:0 <s)(h: ¬8388608<=s):Sz s s 16 1 16 where
 b:=aM (n6.mp h)
 b0:=dd
 r:=(GK s).symm
 r0:=eT h0
 r1:=az (eT<|n6.mp h) dd
 f0:=dd
 f1:=dd
 d:=dd
 d0:=dd
 m:=dd
 mf:=dd
theorem sz2{s}(h:8388608<=s)(h': ¬8388608<=s/2):Sz s (s/2) 32 2 8 where
 b:=by unfold nM;rw[aE<|fH.mpr h,aM (show s <16777216 from Int.lt_mul_of_ediv_lt dd<|n6.mp h')]
 b0:=dd
 r:=rfl
 r0:=xn (az dd h) dd
 r1:=az (eT<|n6.mp h') dd
 f0:=dd
 f1:=dd
 d:=dd
 d0:=dd
 m:=dd
 mf:=dd
theorem sz3{s}(h1:s<=33554431)(h:8388608<=s/2):Sz s (s/2/2) 64 4 4 where
 b:=by
  have q:16777216<=s:=(Int.le_ediv_iff_mul_le dd).mp h
  unfold nM
  rw[aE<|fH.mpr<|az dd q,aE<|fH.mpr q]
 b0:=dd
 r:=sU dd
 r0:=xn (az dd h) dd
 r1:=az (Q_ _<|az dd h) (az (uQ dd h1) dd)
 f0:=dd
 f1:=dd
 d:=dd
 d0:=dd
 m:=dd
 mf:=dd
set_option smartUnfolding false in
theorem lU{d}{j A us}{p m s}{h}{Q}(G:ir j A us p m)(h0:0 <s)(h1:s<=33554431)(a:wH us)(k: ∀h',H.le h h'->Q (.fl<|us.map λw=> .int<|a7 w s) h'):al I (d+2) 22 [.a8<|bs j,.int p,.int m,.int s] h Q:=by
 refine cf [20] [.u,.d (.op<|.fl<|us.map λw=> .int<|a7 w s) []] (Hd.of Fa.nl) (bE<|bE<|bE<|cD h0 h1 aY)
  (.b (.b (.c ?_<|.d ?_)<|.c ?_<|.d ?_)<|.c ?_<|.d ?_)
 ·exact λc c'=>⟨tI,λh' Q D k=>C5 (sz3 h1 c') G a rfl rfl rfl rfl rfl λh2 l=>k h2<|D.le l⟩
 ·exact λ_ _ h' D=>k h' (a9 D.f)
 ·exact λc c'=>⟨tI,λh' Q D k=>C5 (sz2 c c') G a rfl rfl rfl rfl rfl λh2 l=>k h2<|D.le l⟩
 ·exact λ_ _ h' D=>k h' (a9 D.f)
 ·exact λc=>⟨tI,λh' Q D k=>C5 (XK h0 c) G a rfl rfl rfl rfl rfl λh2 l=>k h2<|D.le l⟩
 ·exact λ_ h' D=>k h' (a9 D.f)
theorem vI{d}{a A us}{p m}{h}{Q}(G:ir a A us p m)(k: ∀h',H.le h h'->Q (.fl<|us.map λw=> .aj<|vi<|oc w) h'):al I (d+1) 23 [.a8<|bs a,.int p,.int m] h Q:=
 e9 (fn:=Ic) rfl rfl (ae0<|Ue G rfl rfl rfl λh' l=>⟨_,H.le_refl _,k h' l⟩)
structure aW where
 ls:List (Int×Int×Int)
 rs:List (Int×Bool×Int)
 ck:Int
 de:Int
noncomputable def bn(b:Bool)(x:Int):Int:=match b with|aa=>x|ae=>0
noncomputable def aW.b(M:aW):Bool:=match M.rs with|[]=>ae|_=>aa
noncomputable def vj(b:Bool):Int->List (Int×Int×Int)->List Int
 |_,[]=>[]
 |k,_::r=>((k+1)*17891328+bn b 256)::vj ae (k+1) r
def vB(j:Int)(r:Int×Bool×Int):Int:=j*16777216+r.1*65536+bn r.2.1 32768+r.2.2
noncomputable def p_:List (Int×Bool×Int)->Int
 |[]=>128
 |_=>0
noncomputable def l_:List (Int×Bool×Int)->List Int
 |[]=>[]
 |r::s=>vB (p_ s) r::l_ s
def aW.n(M:aW):Int:=M.ls.length
def aW.m(M:aW):Int:=M.rs.length
def aW.DH(M:aW):List Int:=[(4*M.n+M.m+16)*65536+2,65*65536+(64+M.n),(M.n+1)*65536+(M.n+1),(M.n+1)*65536+1,M.m*65536+2,0*65536+2]
abbrev aW.c0(M:aW):List Int:=M.DH++[M.ck,16*M.de]
abbrev aW.ci(M:aW):List Int:=vj M.b 0 M.ls
abbrev aW.ta(M:aW)(f:Int×Int×Int->Int):List Int:=0::M.ls.map f
def aW.W(M:aW):List Int:=M.c0++(M.ci++(M.ta (·.1)++(M.ta (·.2.1)++(M.ta (·.2.2)++([0]++(l_ M.rs++([-30001,50002]++[1000,349525])))))))
structure aW.ok(M:aW):Prop where
 n2:2<=M.ls.length
 n4:M.ls.length<=4
 m3:M.rs.length<=3
 l: ∀l∈M.ls,(-70000<=l.1/\l.1<=2001000)/\(-70000<=l.2.1/\l.2.1<=2001000)/\(-70000<=l.2.2/\l.2.2<=2001000)
 r: ∀r∈M.rs,(65<=r.1/\r.1 <65+M.ls.length)/\(match r.2.1 with|true=>0<=r.2.2/\r.2.2<=1|false=>65<=r.2.2/\r.2.2 <65+M.ls.length)
 c0:0<=M.ck
 c1:M.ck <65536
 d0:327680<=M.de
 d1:M.de<=917519
theorem yf: ∀l,(l_ l).length=l.length
 |[]=>rfl
 |_::r=>aA (· +1) (yf r)
theorem xU: ∀b k l,(vj b k l).length=l.length
 |_,_,[]=>rfl
 |_,_,_::r=>aA (· +1) (xU _ _ r)
theorem sI(M:aW) f:(M.ta f).length=M.ls.length+1:=aA (· +1) (bO f)
theorem Dn(M:aW):M.W.length=4*M.ls.length+M.rs.length+16:=by
 unfold aW.W
 rw[aC,aC,aC,aC,aC,aC,aC,aC,yf,xU,sI,sI,sI]
 show 8+(M.ls.length+(M.ls.length+1+(M.ls.length+1+(M.ls.length+1+(1+(M.rs.length+4))))))=_
 lia
theorem vT{M:aW}(ok:M.ok):(bs M.W).length<=4000:=by
 rw[rq,Dn]
 exact ak (jl 4<|cL (gQ (jl 4 ok.n4) ok.m3) 16) dd
def aW.BG(M:aW):List Int:=[4*M.n+M.m+16,2,65,64+M.n,M.n+1,M.n+1,M.n+1,1,M.m,2,0,2]
abbrev aW.cS(M:aW):List SV:=[.int (4*M.n+M.m+16)<|.b 24 35,aL 2,aL 65,.int (64+M.n)<|.b 66 68,.int (M.n+1)<|.b 3 5,.int (M.n+1)<|.b 3 5,.int (M.n+1)<|.b 3 5,aL 1,.int M.m<|.b 0 3,aL 2,aL 0,aL 2]
theorem C2{M:aW}(ok:M.ok):bD g M.cS:=by
 have a:(2)<=M.n:=bT.mpr ok.n2
 have b:=bT.mpr ok.n4
 have c:0<=M.m:=dx _
 have e:=bT.mpr ok.m3
 have f:=g9 a 1
 have b1:=g9 b 1
 exact cD (g9 (fU (pE a dd) c) 16) (g9 (fU (pE b dd) e) 16)
  (bU<|bU<|cD (fI a 64) (fI b 64)<|cD f b1<|cD f b1<|cD f b1<|bU<|cD c e<|bU<|bU<|bU aY)
theorem vM{a b:Int}(h:0<=b/\b <65536)(k:0<=a/\a <65536):256*((a*65536+b)/16777216% 256)+(a*65536+b)/65536% 256=a/\256*((a*65536+b)/256% 256)+(a*65536+b)% 256=b:=by
 have e:(a*65536+b)/65536=a:=by rw[iy,aS9 _ _ dd,GJ h.1 h.2,qU]
 have d3: ∀c:Int,0<=c/\c <65536->256*(c/256% 256)+c% 256=c:=λc h=>by
  rw[xo (xn h.1 dd)<|Int.ediv_lt_of_lt_mul dd h.2,GM]
 refine⟨?_,?_⟩
 ·rw[show(a*65536+b)/16777216=(a*65536+b)/65536/256 from(sU (y:=65536) (z:=256) dd).symm,e];exact d3 a k
 ·have f:(a*65536+b)/256=b/256+a*256:=by rw[iy,show a*65536=a*256*256 from(qW a 256 256).symm,aS9 _ _ dd]
  rw[f,aT0,iy<|a*65536,show a*65536=a*256*256 from(qW a 256 256).symm,aT0]
  exact d3 b h
theorem mx(e:a=b)(f:l=m):V.int a::l=V.int b::m:=by rw[e,f]
theorem NZ{M:aW}(ok:M.ok):((bs M.W).length:Int)=4*(4*M.n+M.m+16):=by rw[rq,Dn];rfl
theorem as3(n0:0<=n)(h:(0:Int)∈[n+1,n+1,n+1,1]):False:=by
 have q: ¬(0)=n+1:=aS1 (aT1 n0)
 rcases bC.mp h with e|h
 ·exact q e
 rcases bC.mp h with e|h
 ·exact q e
 rcases bC.mp h with e|h
 ·exact q e
 exact absurd (b_.mp h) dd
theorem at1{n m:Int}:[n+1,n+1,n+1,1,m,2,0,2].sum=3*n+m+8:=by
 simp only[aT2,List.sum_nil];lia
set_option smartUnfolding false in
theorem Kz{M:aW}(ok:M.ok)(k: ∀h',H.le h h'->Q (.fl<|vi M.BG) h'):al I (d+1) 21 [.a8<|bs M.W] h Q:=by
 have l:a_ (bs M.W).length:=ak (vT ok) dd
 have n0:0<=M.n:=dx _
 have n4:M.n<=4:=bT.mpr ok.n4
 have m0:0<=M.m:=dx _
 have m3:M.m<=3:=bT.mpr ok.m3
 refine cf [] [.d (.fl M.cS) [],.u,.u,.u,.d (.int (3*M.n+M.m+8) .no) []] (Hd.of Fa.nl) (bE aY)
  (.c l<|.c ?_<|.c ?_<|.c ?_<|.c ?_<|.c ?_<|.c ?_<|.c ?_<|.d ?_)
 ·exact λc=>(fH.mpr ((NZ ok).symm▸az dd (pE (GN<|GO (AV dd n0) m0) (dd:(0:Int)<=4))) c)
 ·intro c
  refine⟨C2 (g:=[]) ok,λh' Q D k=> ?_⟩
  refine DF [] [.u] D (aB<|aD<|aD<|aD<|aD<|aD<|aD bk) (.d ?_)
  intro h2 D2
  have e1:=vM (a:=4*M.n+M.m+16) (b:=2) dd (by lia)
  have e2:=vM (a:=65) (b:=64+M.n) (by lia) dd
  have e3:=vM (a:=M.n+1) (b:=M.n+1) (by lia) (by lia)
  have e4:=vM (a:=M.n+1) (b:=1) (by lia) (by lia)
  have e5:=vM (a:=M.m) (b:=2) (by lia) (by lia)
  exact pD (motive:=λl=>Q (.fl l) h2) (mx e1.1<|mx e1.2<|mx e2.1<|mx e2.2<|mx e3.1<|mx e3.2<|mx e4.1<|mx e4.2<|mx e5.1<|mx e5.2 rfl).symm (k h2 D2)
 ·exact λc c'=>(as3 n0 c')
 ·intro c c'
  refine⟨tI,λh' Q D k=>eP<|ay<|qO<|ap rfl<|bl<|bl<|.Q1 (d6 rfl) dd<|bg<|.FW (l:=[M.n+1,M.n+1,M.n+1,1,M.m,2,0,2]) ?_⟩
  exact at1▸k h' D
 ·exact λc c' e=>(e<|by lia)
 ·exact λc c' e=>l
 ·exact λc c' e f=>(Int.lt_irrefl _<|NZ ok▸f)
 ·exact λc c' e f h' D=>k h' (a9 D.f)
theorem Dr{w:Int}(h:0<=w/\w <16777216):w/16777216% 256=0:=by rw[GJ h.1 h.2];rfl
theorem QF{w:Int}(h:0<=w/\w <16777216):16777216*(w/16777216% 256)+65536*(w/65536% 256)+256*(w/256% 256)+w% 256=w:=by
 rw[Dr h]
 exact(zV ⟨az dd h.1,h.2⟩).elim (λq=>by
  have q:=q.2
  generalize w/65536% 256=z,w/256% 256=y,w% 256=x at q⊢
  lia) λq=>absurd ((Dr h).symm.trans q.1) dd
set_option smartUnfolding false in
theorem MY{M:aW}(ok:M.ok)(k: ∀h',H.le h h'->Q (.aj [.int M.ck,.int M.de]) h'):al I (d+1) 27 [.a8<|bs M.W] h Q:=by
 have w:0<=16*M.de/\16*M.de <16777216:=⟨AV dd<|az dd ok.d0,g8 (pE ok.d1 dd) dd⟩
 have e2:(16777216*(16*M.de/16777216% 256)+65536*(16*M.de/65536% 256)+256*(16*M.de/256% 256)+16*M.de% 256)/16=M.de:=by rw[(QF w),Int.mul_ediv_cancel_left _ dd]
 refine cf [] [.d (.op<|.a8<|oc<|16*M.de) []] (Hd.of Fa.nl) (bE aY) (.c ?_<|.c ?_<|.c ?_<|.d ?_)
 ·exact⟨tI,λh' Q D k=>qO<|ap rfl<|bl<|bl<|Cy (A:=M.DH++[M.ck]) (vT ok)<|k h' D⟩
 ·exact λc=>(absurd (Dr w▸c) dd)
 ·exact λ_ c=>(fH.mpr (az dd ok.d0)<|e2▸c)
 ·exact λ_ _ h' D=>pD (motive:=λx=>Q (.aj [.int x,_]) h') (QF ⟨ok.c0,AW ok.c1 dd⟩).symm (pD (motive:=λx=>Q (.aj [_,.int x]) h') e2.symm<|k h'<|a9 D.f)
set_option smartUnfolding false in
theorem Ox{M:aW}{p s:Int}(hl:(bs M.W).length<=4000)(e:M.W=A++[1000,349525])(hp:p=(bs A).length)(h0:0 <s)(h1:s<=33554431)(k: ∀h',H.le h h'->Q (.fl [.int 62,.int<|a7 349525 s]) h'):al I (d+3) 26 [.a8<|bs M.W,.int p,.int 2,.int s] h Q:=by
 have G:ir M.W (A++[1000]) [349525] (p+4) 1:=⟨⟨[],by rw[e,aX];rfl⟩,by rw[hp,I9];rfl,rfl,hl⟩
 refine cf [22] [.d (.op<|.a8<|oc 1000) [],.d (.fl [.int (a7 349525 s) .no]) []] (Hd.of Fa.nl) (bE<|bE<|bU<|bE aY)
  (.c ?_<|.c ?_<|.c ?_<|.c ?_<|.c ?_<|.d ?_)
 ·exact⟨tI,λh' Q D k=>qO (ap rfl (ap rfl (eC (ap rfl (bl (.jg (by
   have hl':=hl
   rw[e,hp] at*
   exact Cy hl'<|k h' D)))))))⟩
 ·exact Ge 1000
 ·exact λc=>(absurd c dd)
 ·exact λc=>⟨⟨tI,tI⟩,λh' Q D k=>lU G h0 h1 (λw m=>by rw[b_.mp m];decide) λh2 l=>k h2<|D.le l⟩
 ·exact λ_=>d6 rfl
 ·exact λ_ h' D=>k h' (a9 D.f)
def ZI(b:Bool)(i:Int):V:= .aj [.int<|i+1,.int<|i+1,.int<|i+1,.int 0,.int<|bn b 1,.int 0]
noncomputable def slots(b:Bool):Int->List (Int×Int×Int)->List (Int×V)
 |_,[]=>[]
 |k,_::r=>(65+k,ZI b k)::slots ae (k+1) r
abbrev aW.cT(M:aW):List SV:=[.int (4*M.n+M.m+16) .no,aL 2,aL 65,aL<|64+M.n,aL<|M.n+1,aL<|M.n+1,aL<|M.n+1,aL 1,.int M.m<|.b (bn M.b 1) 3,aL 2,aL 0,aL 2]
theorem PL(M:aW):bn M.b 1<=M.m:=by
 obtain⟨ls,rs,ck,de⟩:=M
 cases rs with
 |nil=>exact aU 0
 |cons r s=>exact bT.mpr (cg<|Nat.zero_le _)
theorem S0{M:aW}(ok:M.ok):bD g M.cT:=bM tI (bU<|bU<|bU<|bU<|bU<|bU<|bU<|cD (PL M) (bT.mpr ok.m3)<|bU<|bU<|bU aY)
abbrev xX(w:Int):SV:= .aj [aL<|w/16777216% 256,aL<|w/65536% 256,aL<|w/256% 256,aL<|w% 256]
theorem zu: ∀us:List Int,bf (us.map xX)=us.map (λw=> .aj<|vi<|oc w)/\bD g (us.map xX)
 |[]=>⟨rfl,tI⟩
 |_::r=>⟨aA (_) (zu (g:=g) r).1,bM (dW<|bU<|bU<|bU<|bU aY) (zu r).2⟩
theorem Hw{M:aW}(ok:M.ok):ir M.W M.c0 M.ci 32<|64+M.n -65+1:=⟨⟨_,rfl⟩,rfl,by unfold aW.ci aW.n;rw[xU];lia,vT ok⟩
theorem au6{M:aW}(ok:M.ok) v(e:den v= .int (64+M.n -65+1)):ia d hb B 1 23 [.op<|.a8<|bs M.W,aL 32,v] g (.fl<|M.ci.map xX) []:=
 ⟨(zu M.ci).2,λh Q D k=>by
  show al I (d+1) 23 [_,_,den v] h Q
  rw[e]
  refine vI (Hw ok) λh' l=> ?_
  exact(zu (g:=g) M.ci).1▸(k h'<|D.le l)⟩
abbrev OE(M:aW):Tr:=rC [23] 2 24 [.op<|.a8<|bs M.W,aL 32,.fl M.cT] [] gA
abbrev Gv(M:aW):List bJ:= .u:: .d (.fl<|M.ci.map xX) []::[.z]
theorem Wu(ok:M.ok)(k:dH (lf d h [] (FQ h [] Q) (OE M)<|Gv M) []):al I (d+2) 24 [.a8<|bs M.W,.int 32,.fl<|vi M.BG] h Q:=
 cf [23] (Gv M) (Hd.of Fa.nl) (bE<|bU<|bM (mZ<|S0 ok) aY) k
theorem OY{α:Type}{P:List α->Prop}{a}(n2:2<=a.length)(n4:a.length<=4)(p2: ∀x y,P [x,y])(p3: ∀x y z,P [x,y,z])(p4: ∀x y z w,P [x,y,z,w]):P a:=by
 rcases a with _|⟨x,_|⟨y,_|⟨z,_|⟨w,_|_⟩⟩⟩⟩
 ·exact absurd n2 (dd: ¬2<=0)
 ·exact absurd n2 (dd: ¬2<=1)
 ·exact p2 x y
 ·exact p3 x y z
 ·exact p4 x y z w
 ·exact absurd (aT3 (b:=4) n4) (Re _)
theorem aW.cs{P:aW->Prop}(ok:M.ok)(p2: ∀x y ck de,P ⟨[x,y],[],ck,de⟩)(a: ∀x y r s ck de,P ⟨[x,y],r::s,ck,de⟩)(p3: ∀x y z ck de,P ⟨[x,y,z],[],ck,de⟩)(e: ∀x y z r s ck de,P ⟨[x,y,z],r::s,ck,de⟩)
  (p4: ∀x y z w ck de,P ⟨[x,y,z,w],[],ck,de⟩) (c: ∀x y z w r s ck de,P ⟨[x,y,z,w],r::s,ck,de⟩):P M:=by
 obtain⟨ls,rs,ck,de⟩:=M
 cases rs with
 |nil=>exact OY (P:=λls=>P ⟨ls,[],ck,de⟩) ok.n2 ok.n4 (λx y=>p2 x y ck de) (λx y z=>p3 x y z ck de) λx y z w=>p4 x y z w ck de
 |cons r s=>exact OY (P:=λls=>P ⟨ls,r::s,ck,de⟩) ok.n2 ok.n4 (λx y=>a x y r s ck de) (λx y z=>e x y z r s ck de) λx y z w=>c x y z w r s ck de
set_option smartUnfolding false in
theorem M4{M:aW}(ok:M.ok)(k: ∀h',H.le h h'->Q (.fd<|slots M.b 0 M.ls) h'):al I (d+2) 24 [.a8<|bs M.W,.int 32,.fl<|vi M.BG] h Q:=by
 refine Wu ok (.c (λa=> ?_)<|aW.cs ok (P:=λM=>(∀h',H.le h h'->Q (.fd<|slots M.b 0 M.ls) h')->dH (lf d h [] (FQ h [] Q) (OE M)<|Gv M) [ae]) ?_ ?_ ?_ ?_ ?_ ?_ k)
 ·exact au6 ok _ rfl
 ·exact λ_ _ _ _ k=> .d λ_ h' D=>k h' (a9 D.f)
 ·exact λ_ _ _ _ _ _ k=> .d λ_ h' D=>k h' (a9 D.f)
 ·exact λ_ _ _ _ _ k=> .d λ_ h' D=>k h' (a9 D.f)
 ·exact λ_ _ _ _ _ _ _ k=> .d λ_ h' D=>k h' (a9 D.f)
 ·exact λ_ _ _ _ _ _ k=> .d λ_ h' D=>k h' (a9 D.f)
 ·exact λ_ _ _ _ _ _ _ _ k=> .d λ_ h' D=>k h' (a9 D.f)
def wG(s:Int)(b:Bool)(l:Int×Int×Int):V:= .aj [.int<|a7 l.1 s,.int<|a7 l.2.1 s,.int<|a7 l.2.2 s,.int<|a7 0 s,.int<|bn b 1,.int 0]
noncomputable def fy(s:Int):Bool->Int->List (Int×Int×Int)->List (Int×V)
 |_,_,[]=>[]
 |b,k,l::r=>(65+k,wG s b l)::fy s ae (k+1) r
abbrev tS(s:Int)(us:List Int):SV:= .fl (us.map λw=> .int (a7 w s) .no)
theorem sQ: ∀us:List Int,bf (us.map λw=> .int (a7 w s) .no)=us.map (λw=>V.int<|a7 w s)/\bD g (us.map λw=> .int (a7 w s) .no)
 |[]=>⟨rfl,tI⟩
 |_::r=>⟨aA (_) (sQ (g:=g) r).1,tI,(sQ r).2⟩
theorem az0(f:Fr h h' A)(k: ∀a∈A,∀o,h a=U o->h' a=U o):H.le h h':=λb o e=>if m:b∈A then k b m o e else f b o e m
theorem qy(f:Fr h h' [t])(e:h t=U x)(e':h' t=U x):H.le h h':=az0 f λa m o q=>by rw[b_.mp m] at q⊢;exact(q.symm.trans e)▸e'
abbrev wE(M:aW)(s:Int):List SV:=[tS s<|M.ta (·.1),tS s<|M.ta (·.2.1),tS s<|M.ta (·.2.2),tS s [0]]
abbrev Nu(M:aW)(s:Int)(t:ai):Tr:=rC [] 1 25 [.op<|.fd<|slots M.b 0 M.ls,.ref 0 t,.op<|.fl []] [(t,.ls<|wE M s)] gA
theorem Yc(ht:h t=U (.list<|bf<|wE M s))(k:dH (lf d h [t] (FQ h [t] Q) (Nu M s t) [.z]) []):al I (d+1) 25 [.fd<|slots M.b 0 M.ls,.ref t,.fl []] h Q:=
 cf (g:=[(t,.ls<|wE M s)]) [] [.z] (Hd.of<|Fa.ss ht bj (bM (mZ (sQ _).2)<|bM (mZ (sQ _).2)<|bM (mZ (sQ _).2)<|bM (mZ (sQ _).2) aY) Fa.nl) (bE<|ij rfl<|bE aY) k
abbrev lw(s:Int)(us:List Int):V:= .fl (us.map λw=> .int<|a7 w s)
theorem H8 M s:[lw s<|M.ta (·.1),lw s<|M.ta (·.2.1),lw s<|M.ta (·.2.2),lw s [0]]=bf (wE M s):=by
 have e: ∀us,lw s us=den (tS s us):=λus=>aA V.fl (sQ (g:=[]) us).1.symm
 rw[e,e,e,e];rfl
set_option smartUnfolding false in
theorem IP{M:aW}(ok:M.ok)(ht:h t=U (.list [lw s<|M.ta (·.1),lw s<|M.ta (·.2.1),lw s<|M.ta (·.2.2),lw s [0]]))(k: ∀h',H.le h h'->Q (.fd<|fy s M.b 0 M.ls) h'):al I (d+1) 25 [.fd<|slots M.b 0 M.ls,.ref t,.fl []] h Q:=by
 refine Yc (H8 M s▸ht) (aW.cs ok (P:=λM=>h t=U (.list<|bf<|wE M s)->(∀h',H.le h h'->Q (.fd<|fy s M.b 0 M.ls) h')->dH (lf d h [t] (FQ h [t] Q) (Nu M s t) [.z]) []) ?_ ?_ ?_ ?_ ?_ ?_ (H8 M s▸ht) k)
 ·exact λ_ _ _ _ e k=> .d λ_ h' D=>k h' (qy D.f e<|D.am 0 t _ rfl)
 ·exact λ_ _ _ _ _ _ e k=> .d λ_ h' D=>k h' (qy D.f e<|D.am 0 t _ rfl)
 ·exact λ_ _ _ _ _ e k=> .d λ_ h' D=>k h' (qy D.f e<|D.am 0 t _ rfl)
 ·exact λ_ _ _ _ _ _ _ e k=> .d λ_ h' D=>k h' (qy D.f e<|D.am 0 t _ rfl)
 ·exact λ_ _ _ _ _ _ e k=> .d λ_ h' D=>k h' (qy D.f e<|D.am 0 t _ rfl)
 ·exact λ_ _ _ _ _ _ _ _ e k=> .d λ_ h' D=>k h' (qy D.f e<|D.am 0 t _ rfl)
theorem ad2 s:0 <nM s:=by unfold nM;split;decide;split <;>decide
theorem vC(h0:0 <s)(h1:s<=30100000)(hw: -70000<=w/\w<=2001000): -2100000<=a7 w s/\a7 w s<=60000000:=by
 have hb:=ad2 s
 have t0:0<=s -s% nM s:=by
  rw[aS7,Int.sub_sub_self]
  exact(AV (eT hb)<|xn (eT h0)<|eT hb)
 have t1:s -s% nM s<=30100000:=az (aT4 _<|pz _<|pA hb) h1
 unfold a7
 generalize s -s% nM s=T at t0 t1
 exact⟨az (dd:(-2100000)<= -70000*30100000/1048576)<|uQ dd<|az (aT5 (dd:(-70000)<=0) t1)<|aT6 hw.1 t0,
  az (uQ dd<|az (aT6 hw.2 t0)<|pE t1 dd) (dd:(2001000:Int)*30100000/1048576<=60000000)⟩
theorem k_(h: -1073741823<=x/\x<=1073741823)(k:yg r):yg<|x::r:=λi m=>(bC.mp m).elim (λe=>e▸h) (k i)
theorem wW:yg []:=λ_ m=>dB m
theorem lZ(h0:0 <s)(h1:s<=30100000)(hw: -70000<=w/\w<=2001000): -1073741823<=a7 w s/\a7 w s<=1073741823:=have z:=vC h0 h1 hw;⟨az dd z.1,az z.2 dd⟩
abbrev m9(M:aW):SV:= .int M.m (.b (bn M.b 1) 3)
noncomputable abbrev nn:bJ:= .d (.op .none) []
abbrev t9(M:aW)(s:Int):Tr:=rC [8] 4 9 [.op<|.fd<|fy s M.b 0 M.ls,m9 M] [] gA
theorem YS(ok:M.ok)(k:dH (lf d h [] (FQ h [] Q) (t9 M s) [.z,nn,nn,nn,nn]) []):al I (d+4) 9 [.fd<|fy s M.b 0 M.ls,.int M.m] h Q:=
 cf [8] _ (Hd.of Fa.nl) (bE<|cD (PL M) (bT.mpr ok.m3) aY) k
theorem io{M:aW}(ok:M.ok)(h0:0 <s)(h1:s<=30100000)(m:l∈M.ls):ia d hb B 3 8 [.op<|.aj<|py 4 [.int<|a7 l.1 s,.int<|a7 l.2.1 s,.int<|a7 l.2.2 s,.int<|a7 0 s,.int<|bn c 1,.int 0]] g (.op .none) []:=
 have q:=ok.l l m
 ⟨tI,λh Q D k=>vV (l:=[a7 l.1 s,a7 l.2.1 s,a7 l.2.2 s,a7 0 s]) (λK z=> .ug z) (k_ (lZ h0 h1 q.1)<|k_ (lZ h0 h1 q.2.1)<|k_ (lZ h0 h1 q.2.2)<|k_ (lZ h0 h1 dd) wW)<|k h D⟩
set_option smartUnfolding false in
theorem PY{M:aW}(ok:M.ok)(h0:0 <s)(h1:s<=30100000)(k: ∀h',H.le h h'->Q .none h'):al I (d+4) 9 [.fd<|fy s M.b 0 M.ls,.int M.m] h Q:=by
 refine YS ok (aW.cs ok (P:=λM=>M.ok->dH (lf d h [] (FQ h [] Q) (t9 M s) [.z,nn,nn,nn,nn]) []) ?_ ?_ ?_ ?_ ?_ ?_ ok)
 ·exact λ_ _ _ _ ok=> .c (io ok h0 h1<|.head _) (.c (io ok h0 h1<|.tail _<|.head _)<|.d λh' D=>k h'<|a9 D.f)
 ·exact λ_ _ _ _ _ _ ok=> .c (io ok h0 h1<|.head _) (.c (io ok h0 h1<|.tail _<|.head _)<|.d λh' D=>k h'<|a9 D.f)
 ·exact λ_ _ _ _ _ ok=> .c (io ok h0 h1<|.head _) (.c (io ok h0 h1<|.tail _<|.head _)<|.c (io ok h0 h1<|.tail _<|.tail _<|.head _)<|.d λh' D=>k h'<|a9 D.f)
 ·exact λ_ _ _ _ _ _ _ ok=> .c (io ok h0 h1<|.head _) (.c (io ok h0 h1<|.tail _<|.head _)<|.c (io ok h0 h1<|.tail _<|.tail _<|.head _)<|.d λh' D=>k h'<|a9 D.f)
 ·exact λ_ _ _ _ _ _ ok=> .c (io ok h0 h1<|.head _) (.c (io ok h0 h1<|.tail _<|.head _)<|.c (io ok h0 h1<|.tail _<|.tail _<|.head _)<|.c (io ok h0 h1<|.tail _<|.tail _<|.tail _<|.head _)<|.d λh' D=>k h'<|a9 D.f)
 ·exact λ_ _ _ _ _ _ _ _ ok=> .c (io ok h0 h1<|.head _) (.c (io ok h0 h1<|.tail _<|.head _)<|.c (io ok h0 h1<|.tail _<|.tail _<|.head _)<|.c (io ok h0 h1<|.tail _<|.tail _<|.tail _<|.head _)<|.d λh' D=>k h'<|a9 D.f)
noncomputable def qz(b:Bool)(i:Nat):Bool:=match i with
 |0=>b
 |_=>ae
theorem LI ls: ∀b k i,ah ls i=U l->bw (fy s b k ls) (65+k+i)=U (wG s (qz b i) l):=by
 induction ls with
 |nil=>exact λ_ _ _=>bd
 |cons x r ih=>
  intro b k i e
  show(if 65+k=65+k+(i) then U (wG s b x) else bw (fy s ae (k+1) r)<|65+k+i)=_
  cases i with
  |zero=>exact iK e (aM (e7 _).symm)
  |succ i=>
   rw[aE<|Int.ne_of_lt<|Int.lt_add_of_pos_right _<|Int.natCast_pos.mpr<|Nat.succ_pos i,show 65+k+((i+1:Nat))=65+(k+1)+i by rw[qY,iy<|i,<-gq,gq 65];rfl,ih ae (k+1) i e]
   cases i <;>rfl
theorem zW{c:Int}(h1:65<=c)(h2:c <65+a.length):(bw (fy s b 0 a) c).isSome=aa:=by
 obtain⟨i,rfl⟩:=Rf h1
 obtain⟨l,e,_⟩:=C0 (mo.mp<|Int.lt_of_add_lt_add_left h2)
 have q:=LI (s:=s) a b 0 i e
 rw[e7] at q
 rw[q];rfl
noncomputable def jw:List (Int×Bool×Int)->List V
 |[]=>[]
 |r::s=> .aj [.int<|p_ s,.int r.1,.int<|bn r.2.1 128,.int r.2.2]::jw s
theorem xe: ∀l,(jw l).length=l.length
 |[]=>rfl
 |_::r=>aA (· +1) (xe r)
noncomputable abbrev h9(n:Nat)(r:Int×Bool×Int):Prop:=(65<=r.1/\r.1 <65+n)/\(match r.2.1 with|aa=>0<=r.2.2/\r.2.2<=1|ae=>65<=r.2.2/\r.2.2 <65+n)
abbrev uz(M:aW)(s b k2:Int)(a:V)(x y z u v w q:Option SV):SL:=[U<|.op a,U<|.fl [.int b .no,.int k2 .no],U<|.op<|.fd<|fy s M.b 0 M.ls,U<|aL 256,U<|.int M.m .no,x,y,z,u,v,w,q]
theorem pn{e:Int}(h:e<=1)(c:2<=256*(128 -128)+e):False:=absurd (az c<|fI h _) dd
set_option smartUnfolding false in
theorem ZM{R}(ok:M.ok)(o:a6 []<|uz M s t k2 A x y z u v w q)(hr:h9 M.ls.length r)(hm:i+(r::l).length=M.m)
  (k: ∀x y z u v w q h',H.le h h'->a6 [] (uz M s t k2 A x y z u v w q)->R .next (aq<|uz M s t k2 A x y z u v w q) h'):
  cq (al I<|d+1) (.aj<|.cons (.x 5)<|.cons (.x 6) .nil) B1 (.aj [.int i,.aj [.int<|p_ l,.int r.1,.int<|bn r.2.1 128,.int r.2.2]]) (aq<|uz M s t k2 A x y z u v w q) h R:=by
 have f:=zW (s:=s) (b:=M.b) hr.1.1 hr.1.2
 have n4:=bT.mpr ok.n4
 have lt: ∀{x:Int},x <65+M.ls.length->x<=68:=λq=>iR (jF q<|fI n4 65)
 have D:Hd h [] [] h:=Hd.of Fa.nl
 obtain⟨a,c,e⟩:=r
 have go: ∀{j c lo hi:Int},lo<=e->e<=hi->aN [] (.aj [.int i .no,.aj [aL j,.int a<|.b 65 68,aL c,.int e<|.b lo hi]]):=λp q=>dW (bM tI<|bM (dW<|bU<|cD hr.1.1 (lt hr.1.2)<|bU<|cD p q aY) aY)
 have no: ∀{r':Int×Bool×Int} {l:List<|Int×Bool×Int},i+((a,c,e)::r'::l).length=M.m-> ¬M.m<=i+0+1:=λq z=>by rw[<-q,e7] at z;exact absurd (bT.mp<|Int.le_of_add_le_add_left z) (Nat.not_le.mpr<|Nat.succ_lt_succ<|Nat.succ_pos _)
 have hr:=hr.2
 cases c <;>rcases l with _|⟨_,_⟩
 ·exact dA [] [.u,.u] D o (go hr.1<|lt hr.2) (.c (λc=>(c f))<|.c (λ_ c=>(c<|zW hr.1 hr.2))<|.d λ_ _ h' D o=>k _ _ _ _ _ _ _ h' (a9 D.f) o)
 ·exact dA [] [.u,.u] D o (go hr.1<|lt hr.2) (.c (λc=>(c f))<|.c (λ_ c=>(c<|zW hr.1 hr.2))<|.c (λ_ _ c=>(no hm c))<|.d λ_ _ _ h' D o=>k _ _ _ _ _ _ _ h' (a9 D.f) o)
 ·exact dA [] [.u,.u] D o (go hr.1 hr.2) (.c (λc=>(c f))<|.c (λ_=>d6 rfl)<|.c (λ_ c=>(pn hr.2 c))<|.d λ_ _ h' D o=>k _ _ _ _ _ _ _ h' (a9 D.f) o)
 ·exact dA [] [.u,.u] D o (go hr.1 hr.2) (.c (λc=>(c f))<|.c (λ_=>d6 rfl)<|.c (λ_ c=>(pn hr.2 c))<|.c (λ_ _ c=>(no hm c))<|.d λ_ _ _ h' D o=>k _ _ _ _ _ _ _ h' (a9 D.f) o)
theorem ad1(ok:M.ok)(k: ∀ρ,P .next ρ h): ∀(rs:List<|Int×Bool×Int) (i:Int) (x y z u v w q:Option SV),a6 [] (uz M s j k2 a x y z u v w q)->(∀r∈rs,h9 M.ls.length r)->i+rs.length=M.m->
  du (cq (al I<|d+1) (.aj<|.cons (.x 5)<|.cons (.x 6) .nil) B1) bP (lW i<|jw rs) (aq<|uz M s j k2 a x y z u v w q) h P:=λrs=>by
 induction rs with
 |nil=>exact λ_ _ _ _ _ _ _ _ _ _ _=>⟨tI,k _⟩
 |cons r rs ih=>exact λi x y z u v w q o hr hm=>⟨tI,ZM ok o (hr r<|.head _) hm λx y z u v w q h' l o=>⟨h,l,ih (i+1) x y z u v w q o (λr m=>hr r<|.tail _ m)<|(gq i 1 _).trans<|(aA (i+ ·)<|Int.add_comm 1 _).trans hm⟩⟩
theorem I8{M:aW}(ok:M.ok)(k:Q .none h):al I (d+2) 11 [.fl<|jw M.rs,.fl [.int a,.int k2],.fd<|fy s M.b 0 M.ls,.int 256] h Q:=by
 refine e9 (fn:=QV) rfl rfl (jO<|eP<|ay<|ap rfl<|bg<|.zN (by rw[xe];exact ak ok.m3 dd) ?_)
 rw[xe]
 exact bA (iC<|An<|ay<|ap rfl<|bg<|.Eu<|ad1 ok (λ_=>⟨_,H.le_refl _,k⟩) M.rs 0 Y Y Y Y Y Y Y (aB<|aT (mZ<|bM tI<|bM tI aY)<|aB<|gx<|aT tI<|aD<|aD<|aD<|aD<|aD<|aD<|aD bk) ok.r<|qU _)
theorem Lv{α:Type}{P:List α->Prop}{l}(h:l.length<=3)(p0:P [])(p1: ∀x,P [x])(p2: ∀x y,P [x,y])(p3: ∀x y z,P [x,y,z]):P l:=match l,h with
 |[],_=>p0
 |[x],_=>p1 x
 |[x,y],_=>p2 x y
 |[x,y,z],_=>p3 x y z
 |_::_::_::_::_,q=>absurd (aT3 (b:=3) q) (Re _)
set_option smartUnfolding false in
theorem L_(hl:a.length<=3)(k: ∀h',H.le h h'->Q (.int (-1)) h'):al I (d+1) 12 [.fl<|jw a] h Q:=
 Lv (P:=λa=>al I (d+1) 12 [.fl<|jw a] h Q) hl (cf [] [.z] (Hd.of Fa.nl) (bE aY)<|.d λh' D=>k h'<|a9 D.f)
  (λx=>cf [] [.z] (Hd.of Fa.nl) (bE aY)<|.d λh' D=>k h'<|a9 D.f)
  (λx y=>cf [] [.z] (Hd.of Fa.nl) (bE aY)<|.d λh' D=>k h'<|a9 D.f)
  λx y z=>cf [] [.z] (Hd.of Fa.nl) (bE aY) (.d λh' D=>k h'<|a9 D.f)
set_option smartUnfolding false in
theorem H0(hl:a.length<=3)(k: ∀h',H.le h h'->Q (.int 256) h'):al I (d+1) 31 [.fl<|jw a] h Q:=
 Lv (P:=λa=>al I (d+1) 31 [.fl<|jw a] h Q) hl (cf [] [.z] (Hd.of Fa.nl) (bE aY)<|.d λh' D=>k h'<|a9 D.f)
  (λx=>cf [] [.z] (Hd.of Fa.nl) (bE aY)<|.d λh' D=>k h'<|a9 D.f)
  (λx y=>cf [] [.z] (Hd.of Fa.nl) (bE aY)<|.d λh' D=>k h'<|a9 D.f)
  λx y z=>cf [] [.z] (Hd.of Fa.nl) (bE aY) (.d λh' D=>k h'<|a9 D.f)
set_option smartUnfolding false in
theorem MF{M:aW}(ok:M.ok)(k: ∀h',H.le h h'->Q .none h'):al I (d+1) 10 [.fd<|fy s M.b 0 M.ls] h Q:=
 cf [] [.z] (Hd.of Fa.nl) (bE aY) (aW.cs ok (P:=λM=>dH (lf d h [] (FQ h [] Q) (rC [] 1 10 [.op<|.fd<|fy s M.b 0 M.ls] [] gA) [.z]) []) (λ_ _ _ _=> .d λh' D=>k h'<|a9 D.f) (λ_ _ _ _ _ _=> .d λh' D=>k h'<|a9 D.f) (λ_ _ _ _ _=> .d λh' D=>k h'<|a9 D.f)
  (λ_ _ _ _ _ _ _=> .d λh' D=>k h'<|a9 D.f) (λ_ _ _ _ _ _=> .d λh' D=>k h'<|a9 D.f) λ_ _ _ _ _ _ _ _=> .d λh' D=>k h'<|a9 D.f)
structure Fd where
 M:aW
 n:Int
 nm:Str
 sz:Int
def Fd.fr(f:Fd)(rs:List<|Int×Bool×Int):List<|Nat×V:=[(3,.int f.n),(4,.str f.nm),(5,.int f.sz),(6,.int f.M.de),(7,.int f.M.ck),(8,.fl [.int 62,.int<|a7 349525 f.sz]),(9,.fd<|fy f.sz f.M.b 0 f.M.ls),
 (10,.aj<|jw rs),(11,.aj [.int<|a7 (-30001) f.sz,.int<|a7 50002 f.sz]),(12,.int 256),(13,.int (-1)),(14,.int 45),(15,.int (-1))]
abbrev Fd.fs(f:Fd):List<|Nat×V:=f.fr f.M.rs
structure Fd.ok(f:Fd):Prop where
 M:f.M.ok
 n0:1<=f.n
 n1:f.n<=255
 nm:f.nm="fa"\/f.nm="fb"
 s0:0 <f.sz
 s1:f.sz<=30100000
def Fd.v(f:Fd)(a:ai):V:= .fz a 1 f.fs
theorem ir.nx{p m k:Int}(S:ir a A us p m)(e:a=A++(us++(vs++Z)))(hk:k=vs.length):ir a (A++us) vs (p+4*m) k:=
 ⟨⟨Z,e.trans (aX ..).symm⟩,by rw[S.p,S.m,tz,aC,rq us];rfl,hk,S.l⟩
noncomputable abbrev cv(v:SV):bJ:= .d v []
abbrev Ap(s:Int)(us:List Int):SV:= .op (lw s us)
abbrev kS(s:Int):SV:= .fl [.int (a7 (-30001) s) .no,.int (a7 50002 s) .no]
abbrev pS(s:Int):SV:= .fl [aL 62,.int (a7 349525 s) .no]
abbrev yV(f:Fd):List bJ:=[cv<|.fl f.M.cS,cv<|.aj [.int f.M.ck<|.b 0 65535,.int f.M.de<|.b 327680 917519],cv<|.op<|.fd<|slots f.M.b 0 f.M.ls,.u,.u,cv<|Ap f.sz<|f.M.ta (·.1),.u,.u,cv<|Ap f.sz<|f.M.ta (·.2.1),.u,.u,cv<|Ap f.sz<|f.M.ta (·.2.2),.u,.u,cv<|Ap f.sz [0],.u,.u,
 cv<|.op<|.fl<|jw f.M.rs,cv<|kS f.sz,cv<|.op<|.fl [],cv<|.op<|.fd<|fy f.sz f.M.b 0 f.M.ls,cv<|pS f.sz,cv<|aL 256,.u,nn,nn,nn,nn,nn,.u,cv<|aL (-1)]
noncomputable abbrev FE:List Nat:=[8,9,10,11,12,21,22,23,24,25,26,27,31]
abbrev Fy(f:Fd)(sv:SV):List SV:=[.op<|.a8<|bs f.M.W,.int f.n<|.b 1 255,.op<|.str f.nm,sv]
abbrev I4(f:Fd)(sv:SV):Tr:=rC FE 6 28 (Fy f sv) [] gA
theorem cJ(ov:aN g v)(c: ∀h Q,(∀h',H.le h h'->Q (den v) h')->al I (d+n) f (bf vs) h Q):ia d hb B n f vs g v []:=
 ⟨ov,λh Q D k=>c h Q λh' l=>k h'<|D.le l⟩
theorem MU(ov:aN g v)(c: ∀h Q,Hd hb B g h->(∀h',H.le h h'->Q (den v) h')->al I (d+n) f (bf vs) h Q):ia d hb B n f vs g v []:=
 ⟨ov,λh Q D k=>c h Q D λh' l=>k h'<|D.le l⟩
theorem oH i:aN g<|.int i<|.b i i:=⟨aU i,aU i⟩
theorem oJ s:a7 0 s=0:=by unfold a7;rw[Rg];rfl
abbrev p5(M:aW):Int:=32+4*(64+M.n -65+1)+4*(M.n+1)+4*(M.n+1)+4*(M.n+1)+4*1
abbrev a4(M:aW):List Int:=M.c0++M.ci++M.ta (·.1)++M.ta (·.2.1)++M.ta (·.2.2)
theorem EC M:M.W=(a4 M++[0]++l_ M.rs++[-30001,50002])++[]++[1000,349525]:=by unfold aW.W;rw[c9];simp only[aX]
section
variable{f:Fd}(ok:f.ok)
include ok
theorem BL:ir f.M.W (f.M.c0++f.M.ci) (f.M.ta (·.1)) (32+4*(64+f.M.n -65+1))<|f.M.n+1:=(Hw ok.M).nx rfl (by rw[sI];rfl)
theorem DD:ir f.M.W (f.M.c0++f.M.ci++f.M.ta (·.1)) (f.M.ta (·.2.1)) (32+4*(64+f.M.n -65+1)+4*(f.M.n+1))<|f.M.n+1:=(BL ok).nx (aX ..).symm (by rw[sI];rfl)
theorem BZ:ir f.M.W (f.M.c0++f.M.ci++f.M.ta (·.1)++f.M.ta (·.2.1)) (f.M.ta (·.2.2)) (32+4*(64+f.M.n -65+1)+4*(f.M.n+1)+4*(f.M.n+1))<|f.M.n+1:=(DD ok).nx (by rw[aX,aX];rfl) (by rw[sI];rfl)
theorem Bu:ir f.M.W (f.M.c0++f.M.ci++f.M.ta (·.1)++f.M.ta (·.2.1)++f.M.ta (·.2.2)) [0] (32+4*(64+f.M.n -65+1)+4*(f.M.n+1)+4*(f.M.n+1)+4*(f.M.n+1)) 1:=(BZ ok).nx (by rw[aX,aX,aX];rfl) rfl
theorem CM:ir f.M.W (a4 f.M++[0]) (l_ f.M.rs) (p5 f.M) f.M.m:=(Bu ok).nx (by rw[aX,aX,aX,aX];rfl) (by rw[yf];rfl)
theorem CP:ir f.M.W (a4 f.M++[0]++l_ f.M.rs) [-30001,50002] (p5 f.M+4*f.M.m) 2:=(CM ok).nx (by rw[aX,aX,aX,aX,aX];rfl) rfl
theorem DL:ir f.M.W (a4 f.M++[0]++l_ f.M.rs++[-30001,50002]) [] (p5 f.M+4*f.M.m+4*2) 0:=(CP ok).nx (by rw[aX,aX,aX,aX,aX,aX];rfl) rfl
theorem Ky:ir f.M.W (a4 f.M++[0]++l_ f.M.rs++[-30001,50002]++[]) [1000,349525] (p5 f.M+4*f.M.m+4*2+4*0) 2:=(DL ok).nx ((EC f.M).trans<|aX ..) rfl
theorem MR(c:f.nm=eG ""):False:=ok.nm.elim (λe=>absurd (e.symm.trans c) dd) λe=>absurd (e.symm.trans c) dd
theorem zB:a_ (jw f.M.rs).length:=by rw[xe];exact ak ok.M.m3 dd
end
theorem HN: ∀(ls:List<|Int×Int×Int) (b:Bool) (k:Int),(fy s b k ls).length=ls.length
 |[],_,_=>rfl
 |_::r,_,_=>aA (· +1) (HN r _ _)
theorem HO{f:Fd}(ok:f.ok):a_ (fy f.sz f.M.b 0 f.M.ls).length:=by rw[HN];exact ak ok.M.n4 dd
theorem Le(f:Fd):((jw f.M.rs).length:Int)=f.M.m:=by rw[xe];rfl
theorem uf{M:aW}(h: ∀l∈M.ls,-70000<=f l/\f l<=2001000):wH<|M.ta f:=λw m=>(bC.mp m).elim (λe=>e▸dd) λm=>(AX.mp m).elim λl e=>e.2▸⟨az dd (h l e.1).1,g8 (h l e.1).2 dd⟩
theorem w0:wH [0]:=λw m=>by rw[b_.mp m];decide
theorem wk:wH [-30001,50002]:=λw m=>(bC.mp m).elim (λe=>e▸dd) λm=>by rw[b_.mp m];decide
theorem dm{x r:Int}(h:0<=x/\x <256):(x+256*r)% 256=x/\(x+256*r)/256=r:=
 ⟨(Int.add_mul_emod_self_left x 256 r).trans<|xo h.1 h.2,(Ra x r dd).trans<|by rw[GJ h.1 h.2,qU]⟩
theorem aD3(hx:0<=x/\x <256)(b:0<=y/\y <256)(hz:0<=z/\z <256)(a:0<=q/\q <256):oc (x+256*(y+256*(z+256*q)))=[q,z,y,x]:=by
 unfold oc
 generalize hw:x+256*(y+256*(z+256*q))=w
 have e1:=hw▸(dm hx).2
 have e2:w/65536=z+256*q:=by rw[show w/65536=w/256/256 from(sU (y:=256) (z:=256) dd).symm,e1];exact(dm b).2
 have e3:w/16777216=q:=by rw[show w/16777216=w/65536/256 from(sU (y:=65536) (z:=256) dd).symm,e2];exact(dm hz).2
 rw[e1,e2,e3,(dm b).1,(dm hz).1,xo a.1 a.2,<-hw,(dm hx).1]
theorem al0 j a e b:vB j (a,b,e)=e+256*(bn b 128+256*(a+256*j)):=by
 cases b
 ·show j*16777216+a*65536+0+e=e+256*(0+256*(a+256*j));lia
 ·show j*16777216+a*65536+32768+e=e+256*(128+256*(a+256*j));lia
theorem JM{M:aW}(ok:M.ok) rs(hr: ∀r∈rs,h9 M.ls.length r):(l_ rs).map (λw=>V.aj<|vi<|oc w)=jw rs:=by
 induction rs with
 |nil=>rfl
 |cons r s ih=>
  obtain⟨a,b,e⟩:=r
  have h:=hr _ (.head _)
  have lt: ∀{x:Int},65<=x/\x <65+M.ls.length->0<=x/\x <256:=λq=>⟨az dd q.1,jF q.2<|Int.le_trans (fI (bT.mpr ok.n4) 65) dd⟩
  have hj:0<=p_ s/\p_ s <256:=match s with
   |[]=>(dd:(0:Int)<=128/\(128:Int) <256)
   |_::_=>(dd:(0:Int)<=0/\(0:Int) <256)
  have hb:(0)<=bn b 128/\bn b 128 <256:=by cases b <;>decide
  have he:=by
   cases b
   ·exact lt h.2
   ·exact⟨h.2.1,g8 h.2.2 dd⟩
  show V.aj (vi<|oc<|vB (p_ s) (a,b,e))::(l_ s).map _=_
  rw[al0,aD3 he hb (lt h.1) hj,ih λr m=>hr r<|.tail _ m]
  rfl
set_option smartUnfolding false in
theorem W1(ok:f.ok)(k: ∀a h',H.le h h'->Q (f.v a) h'):dH (lf d h [] (FQ h [] Q) (I4 f<|.int f.sz<|.b 1 30100000)<|yV f) []:=by
 have s1:f.sz<=33554431:=az ok.s1 dd
 refine .c ?_ (.c ?_<|.c ?_<|.c ?_<|.c ?_<|.c ?_<|.c ?_<|.c ?_<|.c ?_<|.c ?_<|.c ?_<|.c ?_<|.c ?_<|.c ?_<|.c ?_<|.c ?_<|.c ?_<|.c ?_<|.c ?_<|.c ?_<|.c ?_<|.c ?_<|.c ?_<|.c ?_<|.c ?_<|.c ?_<|.c ?_<|.c ?_<|.d ?_)
 ·exact cJ (C2 (g:=[]) ok.M) λh Q k=>Kz ok.M k
 ·exact cJ (dW<|cD ok.M.c0 (iR ok.M.c1)<|cD ok.M.d0 ok.M.d1 aY) λh Q k=>MY ok.M k
 ·exact cJ tI λh Q k=>M4 ok.M k
 ·exact λ_=>cJ tI λh Q k=>lU (BL ok) ok.s0 s1 (uf λl m=>(ok.M.l l m).1) k
 ·exact λ_=>λc=>(c<|oJ _)
 ·exact λ_ _=>cJ tI λh Q k=>lU (DD ok) ok.s0 s1 (uf λl m=>(ok.M.l l m).2.1) k
 ·exact λ_ _=>λc=>(c<|oJ _)
 ·exact λ_ _ _=>cJ tI λh Q k=>lU (BZ ok) ok.s0 s1 (uf λl m=>(ok.M.l l m).2.2) k
 ·exact λ_ _ _=>λc=>(c<|oJ _)
 ·exact λ_ _ _ _=>cJ tI λh Q k=>lU (Bu ok) ok.s0 s1 w0 k
 ·exact λ_ _ _ _=>λc=>(c<|oJ _)
 ·exact λ_ _ _ _ _=>cJ tI λh Q k=>vI (CM ok) λh' l=>(JM ok.M f.M.rs ok.M.r).symm▸k h' l
 ·exact λ_ _ _ _ _=>cJ (mZ<|bM tI<|bM tI aY) λh Q k=>lU (CP ok) ok.s0 s1 wk k
 ·exact λ_ _ _ _ _=>cJ tI λh Q k=>vI (DL ok) k
 ·exact λ_ _ _ _ _=>MU tI λh Q D k=>IP ok.M (D.am 0 _ _ rfl) k
 ·exact λ_ _ _ _ _=>cJ (mZ<|bU<|bM tI aY) λh Q k=>Ox (vT ok.M) (EC f.M) (Ky ok).p ok.s0 s1 k
 ·exact λ_ _ _ _ _=>cJ (oH _) λh Q k=>H0 ok.M.m3 k
 ·exact λ_ _ _ _ _ _=>λc=>(MR ok c)
 ·exact λ_ _ _ _ _ _ _=>cJ tI λh Q k=>vV (l:=[62,a7 349525 f.sz]) (λK z=> .fN z) (k_ dd<|k_ (lZ ok.s0 ok.s1 dd) wW) (k h<|H.le_refl h)
 ·exact λ_ _ _ _ _ _ _=>cJ tI λh Q k=>vV (l:=[a7 (-30001) f.sz,a7 50002 f.sz]) (λK z=> .fN z) (k_ (lZ ok.s0 ok.s1 dd)<|k_ (lZ ok.s0 ok.s1 dd) wW) (k h<|H.le_refl h)
 ·exact λ_ _ _ _ _ _ _=>zB ok
 ·exact λ_ _ _ _ _ _ _=>cJ tI λh Q k=>by
   have z:=PY (d:=d) ok.M ok.s0 ok.s1 k
   rw[<-Le f] at z;exact z
 ·exact λ_ _ _ _ _ _ _=>cJ tI λh Q k=>MF ok.M k
 ·exact λ_ _ _ _ _ _ _=>cJ tI λh Q k=>I8 ok.M (k h<|H.le_refl h)
 ·exact λ_ _ _ _ _ _ _=>HO ok
 ·exact λ_ _ _ _ _ _ _=>zB ok
 ·exact λ_ _ _ _ _ _ _=>d6 rfl
 ·exact λ_ _ _ _ _ _ _=>cJ (oH _) λh Q k=>L_ ok.M.m3 k
 ·exact λ_ _ _ _ _ _ _=>λh' D=>k _ h' (a9 D.f)
theorem ad0(ok:f.ok)(o:aN g a):bD g<|Fy f a:=bE (cD ok.n0 ok.n1<|bE<|bM o aY)
theorem SB{f:Fd}(ok:f.ok)(k: ∀a h',H.le h h'->Q (f.v a) h'):al I (d+6) 28 [.a8<|bs f.M.W,.int f.n,.str f.nm,.int f.sz] h Q:=
 cf (vs:=Fy f<|.int f.sz<|.b 1 30100000) FE (yV f) (Hd.of Fa.nl) (ad0 ok ⟨ok.s0,ok.s1⟩) (W1 ok k)
set_option smartUnfolding false in
theorem ZK(ok:Fd.ok ⟨M,n,j,M.de⟩)(k: ∀a h',H.le h h'->Q (Fd.v ⟨M,n,j,M.de⟩ a) h'):dH (lf d h [] (FQ h [] Q) (I4 ⟨M,n,j,M.de⟩<|.op .none)<|yV ⟨M,n,j,M.de⟩) []:=by
 have s1:M.de<=33554431:=az ok.s1 dd
 refine .c ?_ (.c ?_<|.c ?_<|.c ?_<|.c ?_<|.c ?_<|.c ?_<|.c ?_<|.c ?_<|.c ?_<|.c ?_<|.c ?_<|.c ?_<|.c ?_<|.c ?_<|.c ?_<|.c ?_<|.c ?_<|.c ?_<|.c ?_<|.c ?_<|.c ?_<|.c ?_<|.c ?_<|.c ?_<|.c ?_<|.c ?_<|.c ?_<|.d ?_)
 ·exact cJ (C2 (g:=[]) ok.M) λh Q k=>Kz ok.M k
 ·exact cJ (dW<|cD ok.M.c0 (iR ok.M.c1)<|cD ok.M.d0 ok.M.d1 aY) λh Q k=>MY ok.M k
 ·exact cJ tI λh Q k=>M4 ok.M k
 ·exact λ_=>cJ tI λh Q k=>lU (BL ok) ok.s0 s1 (uf λl m=>(ok.M.l l m).1) k
 ·exact λ_=>λc=>(c<|oJ _)
 ·exact λ_ _=>cJ tI λh Q k=>lU (DD ok) ok.s0 s1 (uf λl m=>(ok.M.l l m).2.1) k
 ·exact λ_ _=>λc=>(c<|oJ _)
 ·exact λ_ _ _=>cJ tI λh Q k=>lU (BZ ok) ok.s0 s1 (uf λl m=>(ok.M.l l m).2.2) k
 ·exact λ_ _ _=>λc=>(c<|oJ _)
 ·exact λ_ _ _ _=>cJ tI λh Q k=>lU (Bu ok) ok.s0 s1 w0 k
 ·exact λ_ _ _ _=>λc=>(c<|oJ _)
 ·exact λ_ _ _ _ _=>cJ tI λh Q k=>vI (CM ok) λh' l=>(JM ok.M M.rs ok.M.r).symm▸k h' l
 ·exact λ_ _ _ _ _=>cJ (mZ<|bM tI<|bM tI aY) λh Q k=>lU (CP ok) ok.s0 s1 wk k
 ·exact λ_ _ _ _ _=>cJ tI λh Q k=>vI (DL ok) k
 ·exact λ_ _ _ _ _=>MU tI λh Q D k=>IP ok.M (D.am 0 _ _ rfl) k
 ·exact λ_ _ _ _ _=>cJ (mZ<|bU<|bM tI aY) λh Q k=>Ox (vT ok.M) (EC M) (Ky ok).p ok.s0 s1 k
 ·exact λ_ _ _ _ _=>cJ (oH _) λh Q k=>H0 ok.M.m3 k
 ·exact λ_ _ _ _ _ _=>λc=>(MR ok c)
 ·exact λ_ _ _ _ _ _ _=>cJ tI λh Q k=>vV (l:=[62,a7 349525 M.de]) (λK z=> .fN z) (k_ dd<|k_ (lZ ok.s0 ok.s1 dd) wW) (k h<|H.le_refl h)
 ·exact λ_ _ _ _ _ _ _=>cJ tI λh Q k=>vV (l:=[a7 (-30001) M.de,a7 50002 M.de]) (λK z=> .fN z) (k_ (lZ ok.s0 ok.s1 dd)<|k_ (lZ ok.s0 ok.s1 dd) wW) (k h<|H.le_refl h)
 ·exact λ_ _ _ _ _ _ _=>zB ok
 ·exact λ_ _ _ _ _ _ _=>cJ tI λh Q k=>by
   have z:=PY (d:=d) ok.M ok.s0 ok.s1 k
   rw[<-Le ⟨M,n,j,M.de⟩] at z;exact z
 ·exact λ_ _ _ _ _ _ _=>cJ tI λh Q k=>MF ok.M k
 ·exact λ_ _ _ _ _ _ _=>cJ tI λh Q k=>I8 ok.M (k h<|H.le_refl h)
 ·exact λ_ _ _ _ _ _ _=>HO ok
 ·exact λ_ _ _ _ _ _ _=>zB ok
 ·exact λ_ _ _ _ _ _ _=>d6 rfl
 ·exact λ_ _ _ _ _ _ _=>cJ (oH _) λh Q k=>L_ ok.M.m3 k
 ·exact λ_ _ _ _ _ _ _=>λh' D=>k _ h' (a9 D.f)
theorem YL(ok:Fd.ok ⟨M,n,j,M.de⟩)(k: ∀a h',H.le h h'->Q (Fd.v ⟨M,n,j,M.de⟩ a) h'):al I (d+6) 28 [.a8<|bs M.W,.int n,.str j] h Q:=
 cf FE (yV ⟨M,n,j,M.de⟩) (Hd.of Fa.nl) (bE<|cD ok.n0 ok.n1<|bE aY) (ZK ok k)
noncomputable abbrev whB(C:cZ)(e:E)(b:Ss)(m:Nat)(P:Fl->L->H->Prop):Fl->L->H->Prop:=λf ρ h=>match f with
 |.next=> ∃h',H.le h' h/\iZ (λρ h a F=>(ao I C e ρ).t h a F) (λρ h Q=>aZ I C b ρ h Q) m ρ h' P
 |.cont=> ∃h',H.le h' h/\iZ (λρ h a F=>(ao I C e ρ).t h a F) (λρ h Q=>aZ I C b ρ h Q) m ρ h' P
 |.brk=>P .next ρ h
 |.ret v=>P (.ret v) ρ h
theorem fL stop hs(D:Hd hb B g h)(o:a6 g ρ)
  (k:dH (lf d hb B (FP hb B<|whB (al I<|d+n) e b m P) ((rE (rC stop n) n e ρ g).t (λg=>rS (rC stop n) n (.tr b) ρ g .done) λg=> .done .brk ρ g) hs) []):
  iZ (λρ h a F=>(ao I (al I<|d+n) e ρ).t h a F) (λρ h Q=>aZ I (al I<|d+n) b ρ h Q) (m+1) (aq ρ) h P:=
 (iI (nB stop n) e).t D o (sL _ hs (λ_ x=>x) k) (λg1 h1 l1 D1 t=>uG (nB stop n) (.tr b) _ _ _ _ _ D1 (dI l1 o) t λi h' c f _ D' o' _ t=>match f,t with
  |.next,t=>t h' D' o'
  |.cont,t=>t h' D' o'
  |.brk,t=>t h' D' o'
  |.ret v,t=>t h' D' o') λg1 h1 l1 D1 t=>t h1 D1 (dI l1 o)
noncomputable def dC:List (Int×Bool×Int)->Int->Option (Int×Bool×Int)
 |[],_=>Y
 |r::s,c=>if r.1=c then U r else dC s c
noncomputable def kw(i:Int):Int:=if i=0 then -30001 else 50002
noncomputable def Fd.wQ(f:Fd):Option (Int×Bool×Int)->V
 |Y=> .none
 |U r=>match r.2.1 with
  |aa=> .aj [.int 0,.int<|a7 (kw r.2.2) f.sz]
  |ae=> .aj [.int 1,.int r.2.2]
theorem IZ{a:List<|Int×Bool×Int}{c:Int}{r:Int×Bool×Int}(h:dC a c=U r):r∈a:=by
 induction a with
 |nil=>exact bR h
 |cons q s ih=>
  have h:(if q.1=c then U q else dC s c)=U r:=h
  by_cases e:q.1=c
  ·rw[aM e] at h
   exact bL h▸ .head _
  ·rw[aE e] at h
   exact .tail _ (ih h)
theorem wg: ∀{a:List<|Int×Bool×Int} {c:Int},(∀r∈a,h9 n r)-> ¬(65<=c/\c <65+n)->dC a c=Y
 |[],_,_,_=>rfl
 |r::s,c,h,hc=>(aE λ(e:r.1=c)=>hc<|e▸(h r<|.head _).1).trans (wg (λr m=>h r<|.tail _ m) hc)
abbrev yp(f:Fd)(rs:List<|Int×Bool×Int)(b:ai)(lv:Option SV)(c p:Int)(a:List V)(go:Bool)(x y z u:Option SV):SL:=[U<|.op<|.fz b 1<|f.fr rs,lv,U<|.int c .no,U<|.int p .no,U<|.op<|.aj a,U<|.op<|.bool go,x,y,z,u]
theorem Ol{p:Int}{n:Nat}(e:p=n)(l:n<=3):0<=p/\p<=4611686018427387904:=e▸⟨dx n,az (bT.mpr l) dd⟩
theorem qA x B: ∀A:List α,ah (A++x::B) A.length=U x
 |[]=>rfl
 |_::A=>qA x B A
theorem zz{p:Int}{x:V}(e:p=A.length):ah (A++x::B) p.toNat=U x:=by rw[e];exact qA x B A
set_option smartUnfolding false in
theorem Ju(o:a6 []<|yp f l j t c p a ae x y z u)(k: ∀ρ h',a6 [] ρ->H.le h h'->P .next (aq ρ) h'):
  iZ (λρ h b F=>(ao I (al I<|d+1) (.x 5) ρ).t h b F) (λρ h Q=>aZ I (al I<|d+1) DB ρ h Q) (m+1) (aq<|yp f l j t c p a ae x y z u) h P:=
 fL [] [] (Hd.of Fa.nl) o (.d λh' D o=>k _ h' o<|a9 D.f)
theorem H_{f:Fd}(h:0<=e/\e<=1):ah [V.int<|a7 (-30001) f.sz,V.int<|a7 50002 f.sz] (256*(128 -128)+e).toNat=U (.int<|a7 (kw e) f.sz):=by
 rcases show e=0\/e=1 by lia with rfl|rfl <;>rfl
abbrev Yp(d:Nat)(m:Nat)(ρ:L)(h:H)(P:Fl->L->H->Prop):Prop:=iZ (λρ h a F=>(ao I (al I<|d+1) (.x 5) ρ).t h a F) (λρ h Q=>aZ I (al I<|d+1) DB ρ h Q) m ρ h P
abbrev w5(j a c e lo hi:Int):SV:= .aj [aL j,.int a .no,aL c,.int e<|.b lo hi]
theorem zk(p:l<=e)(q:e<=h):aN []<|w5 j a c e l h:=dW (bU<|bM tI<|bU<|cD p q aY)
set_option smartUnfolding false in
theorem Ip(n4:(f.M.ls.length:Int)<=4): ∀(s:List<|Int×Bool×Int) (r:Int×Bool×Int) (A:List V) (p:Int) (x y z u:Option SV),a6 [] (yp f W Q X c p (A++jw (r::s)) aa x y z u)->(∀q∈r::s,h9 f.M.ls.length q)->p=A.length->A.length+s.length<=2->
  (∀t,dC (r::s) c=U t-> ∀ρ h',a6 [] ρ->H.le h h'->P (.ret<|f.wQ<|U t) (aq ρ) h')->(dC (r::s) c=Y-> ∀ρ h',a6 [] ρ->H.le h h'->P .next (aq ρ) h')->
  Yp d (s.length+2) (aq<|yp f W Q X c p (A++jw (r::s)) aa x y z u) h P:=λs=>by
 induction s with
 |nil=>
  intro r A p x y z u o hr hp hA b g
  have l:=Ol hp (uU<|Nat.le_trans (cm _ _) hA)
  have hr:=(hr r<|.head _).2
  obtain⟨a,i,e⟩:=r
  cases i with
  |true=>exact fL [] [.v<|w5 128 a 128 e 0 1,.v<|.op<|.int<|a7 (kw e) f.sz] (Hd.of Fa.nl) o (.c l (.c ⟨zz hp,zk hr.1 hr.2⟩ (.b (.c (λ_=>⟨H_ hr,tI⟩)<|.d λc h' D o=>b _ (aM c) _ h' o<|a9 D.f)
    (.d λc h' D o=>⟨h',H.le_refl _,Ju o λρ h2 o2 l=>g (aE c) ρ h2 o2<|H.le_trans (a9 D.f) l⟩))))
  |false=>exact fL [] [.v<|w5 128 a 0 e 65 68] (Hd.of Fa.nl) o (.c l (.c ⟨zz hp,zk hr.1<|Int.le_of_lt_add_one<|Int.lt_of_lt_of_le hr.2<|Int.add_le_add_left n4 65⟩ (.b (.c (λc _ h' D o=>b _ (aM c) _ h' o<|a9 D.f)<|.d λc _ h' D o=>b _ (aM c) _ h' o<|a9 D.f)
    (.d λc h' D o=>⟨h',H.le_refl _,Ju o λρ h2 o2 l=>g (aE c) ρ h2 o2<|H.le_trans (a9 D.f) l⟩))))
 |cons r2 s ih=>
  intro r A p x y z u o hr hp hA b g
  have l:=Ol hp (uU<|Nat.le_trans (cm _ _) hA)
  have j:=λq m=>hr q (.tail _ m)
  have hr:=(hr r<|.head _).2
  obtain⟨a,i,e⟩:=r
  have ih:=λx y z u o (c)=>ih r2 (A++[.aj [.int 0,.int a,.int<|bn i 128,.int e]]) (p+0+1) x y z u (by rw[aX];exact o) j (by rw[aC,hp];rfl) (by rw[aC,cH,c5 [_].length];exact hA) (λt e=>b t<|(aE c).trans e) λe=>g ((aE c).trans e)
  rw[aX] at ih
  cases i with
  |true=>exact fL [] [.v<|w5 0 a 128 e 0 1,.v<|.op<|.int<|a7 (kw e) f.sz] (Hd.of Fa.nl) o (.c l (.c ⟨zz hp,zk hr.1 hr.2⟩ (.b (.c (λ_=>⟨H_ hr,tI⟩)<|.d λc h' D o=>b _ (aM c) _ h' o<|a9 D.f)
    (.d λc h' D o=>⟨h,a9 D.f,ih _ _ _ _ o c⟩))))
  |false=>exact fL [] [.v<|w5 0 a 0 e 65 68] (Hd.of Fa.nl) o (.c l (.c ⟨zz hp,zk hr.1<|Int.le_of_lt_add_one<|Int.lt_of_lt_of_le hr.2<|Int.add_le_add_left n4 65⟩ (.b (.c (λc _ h' D o=>b _ (aM c) _ h' o<|a9 D.f)<|.d λc _ h' D o=>b _ (aM c) _ h' o<|a9 D.f)
    (.d λc h' D o=>⟨h,a9 D.f,ih _ _ _ _ o c⟩))))
def Fd.dE(f:Fd)(c:Int):Prop:=65<=c/\c <65+f.M.ls.length
theorem Fd.ok.n4{f:Fd}(ok:f.ok):(f.M.ls.length:Int)<=4:=bT.mpr ok.M.n4
theorem lE{f:Fd}(ok:f.ok)(p:f.dE c):c<=68:=iR (jF p.2<|fI ok.n4 65)
abbrev gv(s:Int)(b:Bool)(l:Int×Int×Int):SV:= .aj [.int (a7 l.1 s) .no,.int (a7 l.2.1 s) .no,.int (a7 l.2.2 s) .no,aL 0,aL<|bn b 1,aL 0]
theorem Gk{f:Fd}(p:f.dE c): ∃l,ah f.M.ls (c -65).toNat=U l/\l∈f.M.ls/\bw (fy f.sz f.M.b 0 f.M.ls) c=U (den<|gv f.sz (qz f.M.b (c -65).toNat) l):=by
 obtain⟨i,rfl⟩:=Rf p.1
 have e:(65+(i:Int) -65).toNat=i:=by rw[iy,mq];rfl
 obtain⟨l,hl,hm⟩:=C0 (mo.mp<|Int.lt_of_add_lt_add_left p.2)
 have q:=LI (s:=f.sz) f.M.ls f.M.b 0 i hl
 unfold wG at q
 rw[e7,oJ] at q
 rw[e]
 exact⟨l,hl,hm,q⟩
theorem Nc:aN []<|gv s b l:=dW (bM tI<|bM tI<|bM tI<|bU<|bU<|bU aY)
theorem re{o:Option V}(e:o=U a):o.getD h=a:=by rw[e];rfl
noncomputable def JL(b:Bool):Int:=match b with
 |aa=>0
 |ae=> -1
abbrev Fd.st(f:Fd)(c:Int):Int:=JL (qz f.M.b (c -65).toNat)
set_option smartUnfolding false in
theorem av8{f:Fd}(ok:f.ok)(p:f.dE c)(k: ∀h',H.le h h'->Q (.int<|f.st c) h'):al I (d+1) 18 [f.v a,.int c] h Q:=by
 obtain⟨l,_,_,e⟩:=Gk p
 have o:bD [] [.op<|f.v a,.int c<|.b 65 68]:=bE (cD p.1 (lE ok p) aY)
 unfold Fd.st at k
 generalize qz f.M.b (c -65).toNat=b at e k
 cases b with
 |true=>exact cf [] [.v<|gv f.sz aa l] (Hd.of Fa.nl) o (.c ⟨re e,Nc⟩<|.d λh' D=>k h'<|a9 D.f)
 |false=>exact cf [] [.v<|gv f.sz ae l] (Hd.of Fa.nl) o (.c ⟨re e,Nc⟩<|.d λh' D=>k h'<|a9 D.f)
theorem Dl{f:Fd}(p:f.dE c):(bw (fy f.sz f.M.b 0 f.M.ls) c).isSome=aa:=zW p.1 p.2
theorem TI ls: ∀b k,(bw (fy s b k ls) c).isSome=aa->65+k<=c/\c <65+k+ls.length:=by
 induction ls with
 |nil=>exact λ_ _ e=>fE e
 |cons l r ih=>
  intro b k e
  have e:(if 65+k=c then U (wG s b l) else bw (fy s ae (k+1) r) c).isSome=aa:=e
  by_cases z:65+k=c
  ·exact z▸⟨aU _,aS6 _<|Int.ofNat_lt.mpr<|Nat.succ_pos _⟩
  ·rw[aE z] at e
   have w:=ih _ _ e
   rw[<-gq,gq (65+k) 1,iy 1] at w
   exact⟨eT w.1,w.2⟩
theorem Wx{f:Fd}(e:(bw (fy f.sz f.M.b 0 f.M.ls) c).isSome=aa):f.dE c:=TI (k:=0) _ _ e
theorem aM9{f:Fd}{l c:Int}(e:qz f.M.b (l -65).toNat=ae)(p:65<=l):(if l=65 then dC f.M.rs c else Y)=Y:=by
 by_cases z:l=65
 ·rw[aM z]
  rw[z] at e
  have e:=e
  unfold aW.b at e
  cases q:f.M.rs with
  |nil=>rfl
  |cons _ _=>rw[q] at e;cases e
 ·exact aE z
theorem Uf{l:Int}(e:qz b (l -65).toNat=aa)(p:65<=l):l=65/\b=aa:=by
 obtain⟨i,rfl⟩:=Rf p
 rw[show(65+(i:Int) -65).toNat=i by rw[iy,mq];rfl] at e
 cases i with
 |zero=>exact⟨rfl,e⟩
 |succ i=>cases e
theorem P1 s: ¬128 <p_ s:=match s with
 |[]=>(dd: ¬(128:Int) <128)
 |_::_=>(dd: ¬(128:Int) <0)
theorem uJ(k:iZ (λρ h a F=>(ao I C e ρ).t h a F) (λρ h Q=>aZ I C b ρ h Q) n ρ h P):ex I C (.while e b) ρ h P:=⟨n,k⟩
abbrev Qt(f:SF):List bJ:=[.d (aL 0) [],.s SL (a6 []) λg ρ=>(f,ρ,g)]
set_option smartUnfolding false in
theorem at4{f:Fd}(hr: ∀q∈r::s,h9 f.M.ls.length q)(n4:(f.M.ls.length:Int)<=4)(m3:(r::s).length<=3)
  (k: ∀h',H.le h h'->Q (f.wQ<|dC (r::s) c) h') (c18: ∀h Q,(∀h',H.le h h'->Q (.int 0) h')->al I (d+1) 18 [.fz a 1<|f.fr<|r::s,.int 65] h Q):al I (d+2) 94 [.fz a 1<|f.fr<|r::s,.int 65,.int c] h Q:=by
 have n2:([]:List V).length+s.length<=2:=by rw[j6,gM];exact xp m3
 have tn:c=256->dC (r::s) c=Y:=λe=>wg hr λz=>absurd (jF z.2<|fI n4 65) (e▸dd)
 have o:bD [] [.op<|.fz a 1<|f.fr<|r::s,aL 65,.int c .no]:=bE (bU<|bM tI aY)
 cases T:dC (r::s) c with
 |none=>
  rw[T] at k
  refine cf [18] (Qt .next) (Hd.of Fa.nl) o (.c (cJ (oH _) c18)<|.c (λ_ h' D=>k h'<|a9 D.f)<|.c (λ_ c=>(P1 s c))<|.c ?_<|.d λ_ _ ρ _ h' D=>k h'<|a9 D.f)
  exact λ_ _=>⟨λ_ o=>⟨tI,o,G.le_refl _⟩,λh P D k=>uJ<|Ip n4 s r [] 0 Y Y Y Y (aB<|gx<|aT tI<|aT tI<|aB<|aB<|aD<|aD<|aD<|aD bk) hr rfl n2 (λt e=>bR <|T.symm.trans e) λ_ ρ h' o l=>k ρ h' o<|D.le l⟩
 |some t=>
  rw[T] at k
  refine cf [18] (Qt<|.ret<|.op<|f.wQ<|some t) (Hd.of Fa.nl) o (.c (cJ (oH _) c18)<|.c (λc h' D=>(show False from gI <|T.symm.trans<|tn c).elim)<|.c (λ_ c=>(P1 s c))<|.c ?_<|.d λ_ _ ρ _ h' D=>k h'<|a9 D.f)
  exact λ_ _=>⟨λ_ o=>⟨tI,o,G.le_refl _⟩,λh P D k=>uJ<|Ip n4 s r [] 0 Y Y Y Y (aB<|gx<|aT tI<|aT tI<|aB<|aB<|aD<|aD<|aD<|aD bk) hr rfl n2 (λb e ρ h' o l=>by rw[T] at e;exact iK e<|k ρ h' o<|D.le l) λe=>gI <|T.symm.trans e⟩
set_option smartUnfolding false in
theorem NJ{f:Fd}(ok:f.ok)(p:f.dE l)(k: ∀h',H.le h h'->Q (f.wQ (if l=65 then dC f.M.rs c else Y)) h'):al I (d+2) 94 [f.v a,.int l,.int c] h Q:=by
 have c18: ∀h Q,(∀h',H.le h h'->Q (.int<|JL<|qz f.M.b (l -65).toNat) h')->al I (d+1) 18 [f.v a,.int l] h Q:=λh Q k=>av8 ok p k
 cases e:qz f.M.b (l -65).toNat with
 |false=>
  rw[e] at c18
  rw[aM9 e p.1] at k
  exact cf (vs:=[.op<|f.v a,.int l<|.b 65 68,.int c .no]) [18] [.d (aL (-1)) []] (Hd.of Fa.nl) (bE<|cD p.1 (lE ok p)<|bM tI aY) (.c (cJ (oH _) c18)<|.d λh' D=>k h'<|a9 D.f)
 |true=>
  rw[e] at c18
  obtain⟨rfl,b⟩:=Uf e p.1
  rw[aM rfl] at k
  have r:=ok.M.r
  have m3:=ok.M.m3
  unfold Fd.v Fd.fs at*
  unfold aW.b at b
  cases q:f.M.rs with
  |nil=>rw[q] at b;cases b
  |cons x s=>
   rw[q] at c18 k r m3
   exact at4 r ok.n4 m3 k c18
theorem H2{α:Type} i f: ∀{xs:List α} {a:H} {K:List V->H->Prop},H.le h a->(∀x∈xs,∀a K,H.le h a->(∀h2,H.le h h2->K (U<|f x) h2)->B (i x) a K)->(∀h',H.le h h'->K (xs.map f) h')->hU B bP (xs.map i) a K:=λ{xs}=>by
 induction xs with
 |nil=>exact λl _ k=>⟨tI,k _ l⟩
 |cons x r ih=>exact λl hb k=>⟨tI,hb x (.head _) _ _ l λh2 l2=>ih l2 (λx m=>hb x<|.tail _ m) k⟩
set_option smartUnfolding false in
theorem SJ{ρ:L}(hp: ∀p∈a,0<=p/\p<=255)(hl:a.length<=100)(e:ah ρ 3=U (U<|.aj<|vi a))(k: ∀h',H.le h h'->Q (.fl<|vi a) h'):
  (ao I (al I<|d+2) (.comp aa [] (.x 3) (.c<|.bool aa)<|.call 32<|.cons (.x 0) .nil) ρ).v h Q:=
 km (jQ<|ap e<|.ug ⟨by rw[bO];exact ak hl dd,jC<|H2 V.int V.int (H.le_refl h) (λp m h1 K l b=>nu<|DF [] [] (Hd.of Fa.nl) (je (hp p m).1 (hp p m).2 bk)<|.d λh' D=>b h'<|H.le_trans l<|a9 D.f) k⟩)
abbrev N7(a:V)(c:Int)(ps:List Int)(l r:Bool):List<|Nat×SV:=[(16,.op a),(17,.int c<|.b 65 68),(18,.op<|.aj<|vi ps),(19,.op<|.bool l),(20,.op<|.bool r)]
set_option smartUnfolding false in
theorem ar3(h1:65<=c)(h2:c<=68)(hp: ∀p∈j,0<=p/\p<=255)(hl:j.length<=100)(ha:h a=U (.aK 3 []))
  (k: ∀h',h' a=U (.aK 3<|b8<|N7 o c j l r)->Fr h h' [a]->Q .none h'):al I (d+3) 34 [.ref a,o,.int c,.aj<|vi j,.bool l,.bool r] h Q:=
 cf (g:=[(a,.aK 3 [])]) (vs:=[.ref 0 a,.op o,.int c<|.b 65 68,.op<|.aj<|vi j,.op<|.bool l,.op<|.bool r]) [] [.d (.op<|.fl<|vi j) []] (Hd.of<|Fa.is ha bj d2 Fa.nl) (ij rfl<|bE<|cD h1 h2<|bE<|bE<|bE aY)
  (.c ⟨tI,λh Q D k=>SJ hp hl rfl λh' l=>k h'<|D.le l⟩<|.c (by show a_ (vi j).length;rw[bO];exact ak hl dd)<|.d λh' D=>k h' (D.am 0 a _ rfl) D.f)
inductive Pt where
 |lt (c:Int)
 |kn (w:Int)
inductive fu (fv:V):V->Pt->Prop
 |ch (a:ai) (c:Int):fu fv (.fz a 2 [(16,fv),(17,.int c)]) (.lt c)
 |lg (a:ai) (c:Int) (p:List V) (l r:Bool):fu fv (.fz a 3 [(16,fv),(17,.int c),(18,.aj p),(19,.bool l),(20,.bool r)]) (.lt c)
 |kn (a:ai) (w:Int):fu fv (.fz a 5 [(22,.int w),(30,.int 0)]) (.kn w)
abbrev kg(c:Int)(ps:List Int)(mk:Bool):SV:= .aj [.int c<|.b 65 68,.op<|.aj<|vi ps,.op<|.bool mk]
abbrev oU(a:V)(b fr now:SV)(go:Bool):List<|Nat×SV:=[(16,.op a),(55,b),(56,now),(57,aL 256),(58,fr),(59,.op<|.bool ae),(60,.op<|.bool ae),(61,.op<|.bool go)]
theorem Fj(a:aN g h)(b:aN g fr)(c:aN g now):il g<|oU j h fr now l:=dK (c7 a<|c7 c<|dN<|c7 b<|dK<|dK<|dK d2)
theorem lp{mk}(h1:65<=c)(h2:c<=68):aN g<|kg c a mk:=dW (cD h1 h2<|bE<|bE aY)
structure qd(c:Int)(ps:List Int)(n:Nat):Prop where
 h1:65<=c
 h2:c<=68
 hp: ∀p∈ps,0<=p/\p<=255
 hl:ps.length+n<=8
theorem cC(h:n<=100):a_ n:=ak h dd
abbrev g96(a:V)(w fo:ai)(b:V)(c:Int)(ps:List Int)(mk:Bool)(F:List V):G:=[(w,.aK 12<|oU a (.op b) (.ref 1 fo) (kg c ps mk) aa),(fo,.list F)]
set_option smartUnfolding false in
theorem aN2{mk}(k:qd c p n)(hF:F.length<=90)(i:w≠j)(hw:h w=U (.aK 12<|b8<|oU l (.op t) (.op<|.ref j) (kg c p mk) aa))(hf:h j=U (.list F))
  (q: ∀h' v,h' j=U (.list<|F++[v])->Fr h h' [j]->fu l v (.lt c)->Q .none h'):al I (d+4) 96 [.ref w] h Q:=by
 have D:=Hd.of (g:=g96 l w j t c p mk F) (Fa.is hw (b9 i bj) (Fj tI ⟨_,rfl⟩<|lp k.h1 k.h2)<|Fa.ls hf bj Fa.nl)
 have fr: ∀{h':H},Fr h h' [w,j]->h' w=U (.aK 12<|b8<|oU l (.op t) (.op<|.ref j) (kg c p mk) aa)->Fr h h' [j]:=λf e b o z m=>if e':b=w then by rw[e'] at z⊢;rw[e,<-z,hw] else f b o z λs=>(bC.mp s).elim e' m
 cases mk with
 |true=>
  refine cf (vs:=[.ref 0 w]) [34] [.d (.op .none) [(2,.aK 3<|N7 l c p ae ae)]] D (ij rfl aY) (.c ?_<|.c (λa=>cC<|Nat.le_trans (cg hF) dd)<|.d λa h' D=>q h' _ (D.am 1 j _ rfl) (fr D.f<|D.am 0 w _ rfl)<|.lg ..)
  exact λa=>⟨tI,λh Q D u=>ar3 k.h1 k.h2 k.hp (ak (Nat.le_of_add_right_le k.hl) dd) (D.am 2 a _ rfl) λh' e f=>u h'<|D.go f<|dg rfl tI e (mm<|dK<|OL k.h1 k.h2<|dK<|dK<|dK d2) d7⟩
 |false=>exact cf (vs:=[.ref 0 w]) [34] [] D (ij rfl aY) (.c (λa=>cC<|Nat.le_trans (cg hF) dd)<|.d λa h' D=>q h' _ (D.am 1 j _ rfl) (fr D.f<|D.am 0 w _ rfl)<|.ch ..)
inductive fQ (fv:V):List V->List Pt->Prop
 |nil:fQ fv [] []
 |cons {v:V} {p:Pt} {vs:List V} {ps:List Pt}:fu fv v p->fQ fv vs ps->fQ fv (v::vs) (p::ps)
theorem fQ.gW{a}{vs us}{l j}(h:fQ a vs l)(k:fQ a us j):fQ a (vs++us)<|l++j:=by
 induction h with
 |nil=>exact k
 |cons x _ ih=>exact .cons x ih
theorem fQ.bp{a v}{p}(h:fu a v p):fQ a [v] [p]:= .cons h .nil
theorem fQ.len{j}{vs}{a}(h:fQ j vs a):vs.length=a.length:=by
 induction h with
 |nil=>rfl
 |cons _ _ ih=>exact aA (· +1) ih
noncomputable def hR:Option Int->List Pt
 |Y=>[]
 |U c=>[.lt c]
noncomputable def J(f:Fd):Option Int->List Int->List Pt
 |now,[]=>hR now
 |now,c::r=>match(if now=U 65 then dC f.M.rs c else Y) with
  |U (_,ae,y)=>J f (U y) r
  |U (_,aa,i)=>hR now++ .kn (a7 (kw i) f.sz)::J f (if 65<=c/\c <65+f.M.ls.length then U c else Y) r
  |Y=>hR now++J f (if 65<=c/\c <65+f.M.ls.length then U c else Y) r
abbrev jz(c:Int)(ps:List Int)(mk:Bool):V:=den (kg c ps mk)
noncomputable def wl:List Int->List V
 |[]=>[]
 |c::r=>wl r++[jz c [c] ae]
theorem CK: ∀r:List Int,(wl r).length=r.length
 |[]=>rfl
 |_::r=>by show(wl r++[_]).length=_;rw[aC,CK r];rfl
abbrev ue(b:V)(w a fo:ai)(now:SV)(W F:List V)(go:Bool):G:=[(w,.aK 12<|oU b (.ref 1 a) (.ref 2 fo) now go),(a,.list W),(fo,.list F)]
theorem C7{d n}{hb}{B}{j}{w o a}{c}{l}{mk}{W F}(k:qd c l n)(hF:F.length<=90)(b:w≠a):
  l8 d hb B 5 96 [.ref 0 w] (ue j w o a (kg c l mk) W F aa) V (λv=>fu j v<|.lt c) λv=>(.op .none,[(2,.list<|F++[v])]):=
 ⟨λ_ _=>tI,λh Q D q=>aN2 k hF b (D.am 0 w _ rfl) (D.am 2 a _ rfl) λh' v e f hv=>q v h' hv<|D.go f<|dg rfl tI e tI d7⟩
theorem EG{d n}{hb}{B}{a}{w j l}{now x}{W F}{ρ:SL}(e:ah ρ 0=U (U<|.ref 0 w))(hW:W.length<=100)(ox:aN (ue a w j l now (W++[den x]) F aa) x):
  v7 d hb B n (.me (.at (.x 0) 55) 1 .nil) ρ (ue a w j l now (W++[den x]) F aa) x [(1,.list W)]:=
 ⟨ox,λh Q D k=>gD<|cI<|ap (sq e)<|.eQ (D.am 0 _ _ rfl) rfl<|.qj (D.am 1 _ _ rfl) rfl<|bg<|.Cd (D.am 1 _ _ rfl) (cC hW)<|k _<|D.go (λb o e n=>(H.jN λq=>n<|b_.mpr q).trans e)<|dg rfl tI (H.kM ..) tI d7⟩
theorem lQ{α:Type}{l}{x:α}(e:l++[x]=[]):False:=Ah (List.append_eq_nil_iff.mp e).2
abbrev mO(a:V)(w:ai)(cv:V)(st:Int)(x y z:Option V):SL:=[U<|.op a,U<|.op cv,U<|.op<|.bool aa,U<|aL 256,U<|.ref 0 w,U<|.int st .no,x.map .op,y.map .op,z.map .op]
theorem bI{g}{x:Option V}{ρ}(y:a6 g ρ):a6 g<|x.map SV.op::ρ:=match x with
 |U _=>aB y
 |Y=>aD y
theorem AE{g:G}{j}{w}{h}{a}{x y z}(e: ∃o,ah g 0=U (w,o)):a6 g<|mO j w h a x y z:=aB (aB<|aB<|gx<|aT e<|aT tI<|bI<|bI<|bI bk)
structure Ws(h:H)(w wa fo:ai)(fv now:V)(W F:List V)(go:Bool):Prop where
 o1:h w=U (.aK 12<|b8<|oU fv (.op<|.ref wa) (.op<|.ref fo) (.op now) go)
 o2:h wa=U (.list W)
 o3:h fo=U (.list F)
theorem Ws.D{h}{w a j}{l}{now}{W F}{p}(s:Ws h w a j l (den now) W F p)(n1:w≠a)(n2:w≠j)(b:a≠j)(o:aN (ue l w a j now W F p) now):Hd h [w,a,j] (ue l w a j now W F p) h:=
 Hd.of (g:=ue l w a j now W F p) (Fa.is s.o1 (b9 n1<|b9 n2 bj) (Fj ⟨_,rfl⟩ ⟨_,rfl⟩ o)<|Fa.ls s.o2 (b9 b bj)<|Fa.ls s.o3 bj Fa.nl)
abbrev qM(d m:Nat)(ρ:L)(h:H)(P:Fl->L->H->Prop):Prop:=iZ (λρ h a F=>(ao I (al I<|d+6) ((E.x 4).at 61) ρ).t h a F) (λρ h Q=>aZ I (al I<|d+6) Ku ρ h Q) m ρ h P
section
variable{c c' st:Int}{mk:Bool}{cv:V}{W F:List V}
set_option smartUnfolding false in
theorem Zb(s:Ws h w j p a (jz c t mk) (W++[jz c' [c'] ae]) F aa)(n1:w≠j)(n2:w≠p)(b:j≠p)(k:qd c t N)(l:65<=c'/\c'<=68)(hF:F.length<=80)(hW:W.length<=100)(c94: ∀h Q,(∀h',H.le h h'->Q .none h')->al I (d+6) 94 [a,.int c,.int c'] h Q)
  (q: ∀h' v x y z,Ws h' w j p a (jz c' [c'] ae) W (F++[v]) aa->Fr h h' [w,j,p]->fu a v (.lt c)->qM d m (aq<|mO a w cv st x y z) h' P):qM d (m+1) (aq<|mO a w cv st x y z) h P:=
 fL [94,96] [.v<|kg c' [c'] ae,.d (.op .none) [],.c V (λ_ v=>fu a v<|.lt c) λ_ v=>(.op .none,[(2,.list<|F++[v])]),.d (kg c' [c'] ae) [(1,.list W)]] (s.D n1 n2 b<|lp k.h1 k.h2) (AE ⟨_,rfl⟩)
  (.c (λc=>(lQ c))<|.c (λ_=>⟨⟨_,rfl⟩,lp l.1 l.2⟩)<|.c (λ_=>cJ tI c94)<|.c (λ_=>C7 k (ak hF dd) n2)<|.c (λ_ v hv c h' D o=>(lQ c).elim)<|.c (λ_ v hv _=>EG rfl hW<|lp l.1 l.2)<|.d λ_ v hv _ h' D o=>⟨h',H.le_refl _,q h' v (U<|.int c) (U<|.int c') (U .none) ⟨D.am 0 w _ rfl,D.am 1 j _ rfl,D.am 2 p _ rfl⟩ D.f hv⟩)
set_option smartUnfolding false in
theorem VW(s:Ws h w j l a (jz c p mk) [] F aa)(n1:w≠j)(n2:w≠l)(b:j≠l)(k:qd c p N)(hF:F.length<=80)(c94: ∀h Q,(∀h',H.le h h'->Q .none h')->al I (d+6) 94 [a,.int c,.int 256] h Q)
  (q: ∀h' v,Ws h' w j l a (jz c p mk) [] (F++[v]) ae->Fr h h' [w,j,l]->fu a v (.lt c)->P .next (aq<|mO a w cv st (U<|.int c) (U<|.int 256)<|U .none) h'):qM d (m+2) (aq<|mO a w cv st x y z) h P:=
 fL [94,96] [.d (.op .none) [],.c V (λ_ v=>fu a v<|.lt c) λ_ v=>(.op .none,[(2,.list<|F++[v])])] (s.D n1 n2 b<|lp k.h1 k.h2) (AE ⟨_,rfl⟩)
  (.b (.c (λ_=>cJ tI c94)<|.c (λ_=>C7 k (ak hF dd) n2)<|.c (λ_ v hv c h' D o=>⟨h',H.le_refl _,fL [] [] D o<|.d λh2 D o=>q h2 v ⟨D.am 0 w _ rfl,D.am 1 j _ rfl,D.am 2 l _ rfl⟩ D.f hv⟩)<|.d λ_ v hv c=>(c rfl))<|.d λc=>(c rfl))
set_option smartUnfolding false in
theorem S2{i}(s:Ws h w p t j (jz c A mk) (W++[jz c' [c'] ae]) F aa)(n1:w≠p)(n2:w≠t)(b:p≠t)(k:qd c A N)(l:65<=c'/\c'<=68)(hF:F.length<=80)(hW:W.length<=100)(hi: -1073741823<=i/\i<=1073741823)(c94: ∀h Q,(∀h',H.le h h'->Q (.aj [.int 0,.int i]) h')->al I (d+6) 94 [j,.int c,.int c'] h Q)
  (q: ∀h' v u x y z,Ws h' w p t j (jz c' [c'] ae) W (F++[v]++[u]) aa->Fr h h' [w,p,t]->fu j v (.lt c)->fu j u (.kn i)->qM d m (aq<|mO j w cv st x y z) h' P):qM d (m+1) (aq<|mO j w cv st x y z) h P:=
 fL [94,96] [.v<|kg c' [c'] ae,.d (.aj [aL 0,.int i<|.b (-1073741823) 1073741823]) [],.c V (λ_ v=>fu j v<|.lt c) λ_ v=>(.op .none,[(2,.list<|F++[v])]),.d (kg c' [c'] ae) [(1,.list W)]] (s.D n1 n2 b<|lp k.h1 k.h2) (AE ⟨_,rfl⟩)
  (.c (λc=>(lQ c)) (.c (λ_=>⟨⟨_,rfl⟩,lp l.1 l.2⟩) (.c (λ_=>cJ (dW<|bU<|cD hi.1 hi.2 aY) c94) (.c (λ_=>C7 k (ak hF dd) n2)
   (.b (.c (λ_ v hv c=>(lQ c).elim)<|.d λ_ v hv c=>(lQ c).elim)<|.c (λ_ v hv _=>EG rfl hW<|lp l.1 l.2)<|.c (λ_ v hv _ a=>cC<|by rw[aC];exact ak (cL (cL hF 1) 1) dd)<|.d λ_ v hv _ a h' D o=>⟨h',H.le_refl _,q h' v _ (U<|.int c) (U<|.int c') (U<|.aj [.int 0,.int i]) ⟨D.am 0 w _ rfl,D.am 1 p _ rfl,D.am 2 t _ rfl⟩ D.f hv<|.kn ..⟩)))))
theorem Gs:vi a++vi [c']=vi (a++[c']):=(qZ).symm
set_option smartUnfolding false in
theorem aO1{a}(s:Ws h w j p t (jz c u mk) (W++[jz c' [c'] ae]) F aa)(n1:w≠j)(n2:w≠p)(b:j≠p)(k:qd c u N)(l:65<=c'/\c'<=68)(hW:W.length<=100)(hi:65<=a/\a<=68)(hN:0 <N)(hs:0 <st)(c94: ∀h Q,(∀h',H.le h h'->Q (.aj [.int 1,.int a]) h')->al I (d+6) 94 [t,.int c,.int c'] h Q)
  (q: ∀h' x y z,Ws h' w j p t (.aj [.int a,.aj<|vi u++vi [c'],.bool aa]) W F aa->Fr h h' [w,j,p]->qM d m (aq<|mO t w cv (st -1) x y z) h' P):qM d (m+1) (aq<|mO t w cv st x y z) h P:=
 fL [94,96] [.v<|kg c' [c'] ae,.d (.aj [aL 1,.int a<|.b 65 68]) [],.d (kg c' [c'] ae) [(1,.list W)],.n,.u] (s.D n1 n2 b<|lp k.h1 k.h2) (AE ⟨_,rfl⟩)
  (.c (λc=>(lQ c)) (.c (λ_=>⟨⟨_,rfl⟩,lp l.1 l.2⟩) (.c (λ_=>cJ (dW<|bU<|cD hi.1 hi.2 aY) c94) (.c (λ_ c=>(absurd c<|pA hs)) (.b (.c (λ_ _ c e=>(lQ e))<|.c (λ_ _ c=>(lQ c).elim)<|.c (λ_ _ c=>(lQ c).elim)<|.d λ_ _ c=>(lQ c).elim)
   (.c (λ_ _ _ c=>(lQ c))<|.c (λ_ _ _ _=>EG rfl hW<|lp l.1 l.2)<|.c (λ_ _ _ _=>cC<|by rw[Gs,bO,aC];exact ak (eH hN _)<|ak k.hl dd)<|.d λ_ _ _ _ h' D o=>⟨h',H.le_refl _,q h' (U<|.int c) (U<|.int c') (U<|.aj [.int 1,.int a]) ⟨D.am 0 w _ rfl,D.am 1 j _ rfl,D.am 2 p _ rfl⟩ D.f⟩))))))
end
theorem Fr.tr(f:Fr h a A)(g:Fr a j A):Fr h j A:=λb o e n=>g b o (f b o e n) n
theorem rx(e:(if now=U 65 then dC f.M.rs c else Y)=Y):J f now (c::r)=hR now++J f (if 65<=c/\c <65+f.M.ls.length then U c else Y) r:=by
 show(match(if now=U 65 then dC f.M.rs c else Y) with|U (_,ae,y)=>_|U (_,aa,i)=>_|Y=>_)=_
 rw[e]
theorem vO(e:(if now=U 65 then dC f.M.rs c else Y)=U (x,aa,i)):J f now (c::r)=hR now++ .kn (a7 (kw i) f.sz)::J f (if 65<=c/\c <65+f.M.ls.length then U c else Y) r:=by
 show(match(if now=U 65 then dC f.M.rs c else Y) with|U (_,ae,y)=>_|U (_,aa,i)=>_|Y=>_)=_
 rw[e]
theorem wT(e:(if now=U 65 then dC f.M.rs c else Y)=U (x,ae,y)):J f now (c::r)=J f (U y) r:=by
 show(match(if now=U 65 then dC f.M.rs c else Y) with|U (_,ae,y)=>_|U (_,aa,i)=>_|Y=>_)=_
 rw[e]
theorem D8{c:Int}(p:f.dE c):J f (if 65<=c/\c <65+f.M.ls.length then U c else Y) r=J f (U c) r:=by
 rw[aM (show 65<=c/\c <65+f.M.ls.length from p)]
theorem aA0{c:Int}{x y:Option<|Int×Bool×Int}:(if U c=U 65 then x else y)=if c=65 then x else y:=by
 by_cases e:c=65
 ·rw[aM e,aM<|aA U e]
 ·rw[aE e,aE λq=>e<|bL q]
theorem aw0{f:Fd}(ok:f.ok): -1073741823<=a7 (kw i) f.sz/\a7 (kw i) f.sz<=1073741823:=lZ ok.s0 (az ok.s1 dd) (by unfold kw;split <;>decide)
theorem aJ9{cv}(ok:f.ok)(n1:w≠D)(n2:w≠W)(N:D≠W): ∀r c ps mk F ns st x y z h,
  Ws h w D W (f.v a) (jz c ps mk) (wl r) F aa->qd c ps r.length->f.dE c->(∀q∈r,f.dE q)->(r.length:Int) <st->F.length+2*r.length<=80->fQ (f.v a) F ns->
  (∀h' G now st x y z,Ws h' w D W (f.v a) now [] G ae->Fr h h' [w,D,W]->fQ (f.v a) G (ns++J f (U c) r)->P .next [U<|f.v a,U cv,U<|.bool aa,U<|.int 256,U<|.ref w,U st,U x,U y,U z] h')->
  qM d (r.length+2) (aq<|mO (f.v a) w cv st x y z) h P:=λr=>by
 induction r with
 |nil=>
  intro c ps mk F ns st x y z h s k p X g hF hn q
  exact VW s n1 n2 N k hF (λh Q k'=>NJ ok p<|by rw[wg ok.M.r λz=>absurd (jF z.2<|Int.add_le_add_left ok.n4 65) dd,ite_self];exact k') λh' v s' fr hv=>q h' _ _ _ _ _ _ s' fr (hn.gW<|.bp hv)
 |cons c' r ih=>
  intro c ps mk F ns st x y z h s k p X g hF hn q
  have A:=X c' (.head _)
  have o:=λq m=>X q (.tail _ m)
  have l:65<=c'/\c'<=68:=⟨A.1,lE ok A⟩
  have hW:(wl r).length<=100:=by rw[CK];exact ak (mr<|Nat.le_trans (uT _ _) k.hl) dd
  have c94: ∀h Q,(∀h',H.le h h'->Q (f.wQ (if c=65 then dC f.M.rs c' else Y)) h')->al I (d+6) 94 [f.v a,.int c,.int c'] h Q:=λh Q k=>NJ ok p k
  have hro: ∀t,(if c=65 then dC f.M.rs c' else Y)=U t->h9 f.M.ls.length t:=λt e=>by
   split at e
   ·exact ok.M.r _ (IZ e)
   ·cases e
  have e:=aA0 (c:=c) (x:=dC f.M.rs c') (y:=Y)
  have kc:qd c' [c'] r.length:=⟨l.1,l.2,λq m=>b_.mp m▸⟨az dd l.1,az l.2 dd⟩,by rw[c5];exact ak (uT _ _) k.hl⟩
  have hF2:F.length+2+2*r.length<=80:=by rw[Q9];exact hF
  have K:=ak (cm _ _) hF
  have hs:(r.length) <st:=AW (aT1<|Int.le_refl _) g
  generalize(if c=65 then dC f.M.rs c' else Y)=T at c94 hro e
  rcases T with _|⟨t,_|_,i⟩
  ·have j:=rx (r:=r) e
   rw[D8 A] at j
   exact Zb s n1 n2 N k l K hW c94 λh' v x y z s' fr hv=>ih c' [c'] ae (F++[v]) (ns++[.lt c]) st x y z h' s' kc A o hs (ak (cL (by rw[aC];exact jm _) _) hF2) (hn.gW<|.bp hv) λh2 G now st x y z s2 b hG=>q h2 G now st x y z s2 (fr.tr b) (by rw[j,<-aX];exact hG)
  ·have j:=wT (r:=r) e
   have pi:=(hro _ rfl).2
   exact aO1 s n1 n2 N k l hW ⟨pi.1,lE ok pi⟩ (sV _) (g8 (dx _) g) c94 λh' x y z s' fr=>ih i (ps++[c']) aa F ns (st -1) x y z h' (pD (motive:=λt=>Ws h' w D W (f.v a) (.aj [.int i,.aj t,.bool aa]) (wl r) F aa) Gs s') ⟨pi.1,lE ok pi,λq m=>(pG.mp m).elim (k.hp q)<|kc.hp q,by rw[aC,cH,c5 [c'].length];exact k.hl⟩ pi o (Int.lt_sub_right_of_add_lt g) (ak (cL (cm _ 2) _) hF2) hn λh2 G now st x y z s2 b hG=>q h2 G now st x y z s2 (fr.tr b) (j▸hG)
  ·have j:=vO (r:=r) e
   rw[D8 A] at j
   exact S2 s n1 n2 N k l K hW (aw0 ok) c94 λh' v u x y z s' fr hv Z=>ih c' [c'] ae (F++[v]++[u]) (ns++[.lt c]++[.kn<|a7 (kw i) f.sz]) st x y z h' s' kc A o hs (ak (cL (by rw[aC,aC];exact dP _) _) hF2) ((hn.gW<|.bp hv).gW<|.bp Z) λh2 G now st x y z s2 b hG=>q h2 G now st x y z s2 (fr.tr b) (by rw[j];rw[aX,aX] at hG;exact hG)
theorem Hd.ne(D:Hd hb B g h)(e:ah g i=U (a,o))(e':ah g j=U (b,p))(lo:o.lv)(c:p.lv)(n:i≠j):a≠b:=λq=>n (D.inj i j a o p e (q▸e') lo c)
theorem aN3 r:r.reverse.map (λc=>jz c [c] ae)=wl r:=by
 induction r with
 |nil=>rfl
 |cons c r ih=>rw[pB,qZ,ih];rfl
set_option smartUnfolding false in
theorem v95{ρ:L}(e:ah ρ 2=U (U<|.ref a))(hp:h a=U (.list<|vi p))(hl:p.length<=100)(k: ∀h',H.le h h'->Q (.fl<|wl p) h'):
  (ao I (al I d) (.comp aa [] (.iz<|.x 2) (.c<|.bool aa)<|.tu<|.cons (.x 0)<|.cons (.tu<|.cons (.x 0) .nil)<|.cons (.c<|.bool ae) .nil) ρ).v h Q:=by
 refine km (show(ao I (al I d) (.iz<|.x 2) ρ).v h (pc _) from Ot<|ap e<|.aD5 hp (cC<|by rw[bO];exact hl)<|.fN ?_)
 rw[<-aN3] at k
 rw[show(vi p).reverse=p.reverse.map V.int from aT7.symm]
 exact⟨cC (by rw[bO,sW];exact hl),jC<|H2 V.int (λc=>jz c [c] ae) (H.le_refl h) (λc m h1 K l b=>nu<|DF (n:=0) (ρ:=[U<|.int c .no]) [] [] (Hd.of Fa.nl) (aT tI bk)<|.d λh' D=>b h'<|H.le_trans l<|a9 D.f) k⟩
theorem aa6{g:G}{ρ:SL}(e:ah ρ 0=U (U<|.ref i w))(ei:ah g i=U (w,.aK c l))(f:bc (b8 l) 55=U (.ref a))(ej:ah g j=U (a,.list<|W++[den x]))(hW:W.length<=100)(ox:aN g x):
  v7 d hb B n (.me (.at (.x 0) 55) 1 .nil) ρ g x [(j,.list W)]:=
 ⟨ox,λh Q D k=>gD<|cI<|ap (sq e)<|.eQ (D.am i _ _ ei) f<|.qj (D.am j _ _ ej) rfl<|bg<|.Cd (D.am j _ _ ej) (cC hW)<|k _<|D.go (λb o e n=>(H.jN λq=>n<|by unfold jq;rw[kO];dsimp only;rw[ej,q];exact .head _).trans e)<|dg ej tI (H.kM ..) tI d7⟩
noncomputable def gH(g:G)(k:Nat):ai:=match ah g k with
 |U x=>x.1
 |Y=>0
theorem aD4 r:(r.length:Int) <20*(((vi<|c::r).length:Int)+1):=by
 rw[bO]
 exact mo.mpr (show r.length <20*(r.length+1+1) from Nat.lt_of_lt_of_le (n7 _)<|ak (jm _)<|aS8 _ dd)
theorem WA(p:f.dE c):[]++J f (U c) r=J f Y (c::r):=by
 rw[rx (now:=Y)<|aE λe=>bR e,D8 p];rfl
theorem nz(c:(0:Int)<= -1):False:=absurd c dd
set_option smartUnfolding false in
theorem Km(ok:f.ok)(hp:h t=U (.list<|vi p))(hr:p.length<=5)(b: ∀c∈p,f.dE c)
  (k: ∀h' F,H.le h h'->fQ (f.v a) F (J f Y p)->Q (.fl F) h'):al I (d+7) 99 [f.v a,.ref t,.bool aa,.int 256] h Q:=by
 have D:=Hd.of (g:=[(t,.list<|vi p)]) (Fa.ls hp bj Fa.nl)
 have o:bD [(t,.list<|vi p)] [.op<|f.v a,.ref 0 t,.op<|.bool aa,aL 256]:=bE (ij rfl<|bE<|bU aY)
 cases p with
 |nil=>exact cf [94,96] [] D o (.c (λ_ h' D=>k h' [] (qy D.f hp<|D.am 0 t _ rfl) .nil)<|.d λc=>(c rfl).elim)
 |cons c r=>
  refine cf [94,96] [.d (.op<|.fl<|wl r++[jz c [c] ae]) [],.d (kg c [c] ae) [(2,.list<|wl r)],.s (List V×(Nat->V)) (λx=>fQ (f.v a) x.1<|J f Y<|c::r) λg x=>(.next,[U<|.op<|f.v a,U<|.ref 0 t,U<|.op<|.bool aa,U<|aL 256,U<|.ref 1<|gH g 1,U<|.op<|x.2 0,U<|.op<|x.2 1,U<|.op<|x.2 2,U<|.op<|x.2 3],d_ g [(1,.aK 12<|oU (f.v a) (.ref 2<|gH g 2) (.ref 3<|gH g 3) (.op<|x.2 4) ae),(2,.list []),(3,.list x.1)])] D o (.c (λe h' D=>Ah e)<|.b (.c (λ_ c w=>(nz c).elim)<|.c (λ_ c w=>(nz c).elim)<|.d λ_ c w=>(nz c).elim)<|.c ?_<|.c ?_<|.c ?_<|.c ?_<|.d ?_)
  ·exact λ_ _ w=>⟨tI,λh Q D k=>v95 rfl (D.am 0 t _ rfl) (ak hr dd) λh' l=>k h'<|D.le l⟩
  ·exact λ_ _ w A=>aa6 rfl rfl rfl rfl (ak (jG<|CK r)<|Nat.le_trans (mr hr) dd) (lp (b c<|.head _).1<|lE ok<|b c<|.head _)
  ·exact λ_ _ w A fo=>cC (by rw[bO];exact ak hr dd)
  ·exact λ_ _ w A fo=>⟨λx hx=>⟨tI,aB<|bG rfl<|aB<|gx<|bG rfl<|aB<|aB<|aB<|aB bk,iW [(1,.aK 12<|oU (f.v a) (.ref 2 A) (.ref 3 fo) (.op<|x.2 4) ae),(2,.list []),(3,.list x.1)] _⟩,λh1 P D q=>uJ (aJ9 (x:=Y) (y:=Y) (z:=Y) ok (D.ne (i:=1) (j:=2) rfl rfl tI tI dd) (D.ne (i:=1) (j:=3) rfl rfl tI tI dd) (D.ne (i:=2) (j:=3) rfl rfl tI tI dd) r c [c] ae [] [] _ h1 ⟨D.am 1 w _ rfl,D.am 2 A _ rfl,D.am 3 fo _ rfl⟩ ⟨(b c<|.head _).1,lE ok<|b c<|.head _,λq m=>b_.mp m▸⟨az dd (b c<|.head _).1,az (lE ok<|b c<|.head _) dd⟩,by rw[c5];exact ak hr dd⟩ (b c<|.head _) (λq m=>b q<|.tail _ m) (aD4 r) (by rw[j6,gM];exact ak (jl 2<|Nat.le_of_succ_le hr) dd) .nil
    λh' G now st x y z s fr hG=>q (G,λi=>match i with|0=>st|1=>x|2=>y|3=>z|_=>now) h' (WA (b c<|.head _)▸hG)<|D.go (u:=[(1,.aK 12<|oU (f.v a) (.ref 2 A) (.ref 3 fo) (.op now) ae),(2,.list []),(3,.list G)]) fr<|dg rfl tI s.o1 (mm<|Fj ⟨_,rfl⟩ ⟨_,rfl⟩ tI)<|dg rfl tI s.o2 tI<|dg rfl tI s.o3 tI d7)⟩
  ·exact λ_ _ w A fo x hx h' D=>k h' x.1 (qy D.f hp<|D.am 0 t _ rfl) hx
theorem aD9 f(hr: ∀r∈f.M.rs,h9 f.M.ls.length r)(hm: ¬f.dE m): ∀p now,J f now (p++m::rest)=J f now p++J f Y rest:=λp=>by
 induction p with
 |nil=>
  intro now
  have e:(if now=U 65 then dC f.M.rs m else Y)=Y:=by rw[wg hr hm,ite_self]
  rw[aT8,rx e,aE (show¬(65<=m/\m <65+f.M.ls.length) from hm)];rfl
 |cons c p ih=>
  intro now
  rw[Rh]
  cases e:(if now=U 65 then dC f.M.rs c else Y) with
  |none=>rw[rx e,rx e,ih,aX]
  |some t=>
   obtain⟨x,a,i⟩:=t
   cases a
   ·rw[wT e,wT e,ih]
   ·rw[vO e,vO e,ih,aX];rfl
theorem ap5 n:(hR n).length<=1:=match n with
 |Y=>j7 _
 |U _=>dP _
theorem Hd.ua(D:Hd hb B g h)(f:Fa h g2 g2)(s: ∀c∈g2.map (·.1),∃i o,ah g i=U (c,o)):Hd hb B g2 h where
 am _ _ _ e:=(f.am e).1
 ok _ _ _ e:=(f.am e).2
 inj _ _ _ _ _ e e' _ _:=f.inj e e'
 fr b o e n:=⟨(D.fr b o e n).1,λ_ _ z=>(s b<|yP z).elim λi w=>w.elim λp w=>(D.fr b o e n).2 i p w⟩
abbrev xf(fo a:ai)(F:List V)(p:List Int):G:=[(fo,.list F),(a,.list<|vi p)]
noncomputable abbrev DZ(a cv:V)(x:Option V)(fo b:ai):SL:=[U<|.op a,U<|.op cv,U<|.op<|.bool aa,U<|.op<|.bool aa,x.map .op,U<|.ref 0 fo,U<|.ref 1 b,U<|.op<|.bool aa]
theorem UC{g:G}{h j}(e: ∃o,ah g 0=U (l,o))(e': ∃o,ah g 1=U (a,o)):a6 g<|DZ h j x l a:=aB (aB<|aB<|aB<|bI<|aT e<|aT e'<|aB bk)
theorem z2 f: ∀r now,(J f now r).length<=2*r.length+(hR now).length:=λr=>by
 induction r with
 |nil=>exact λnow=>uT _ _
 |cons c r ih=>
  intro now
  have h2:=ap5 (if 65<=c/\c <65+f.M.ls.length then U c else Y)
  have h1:=ih (if 65<=c/\c <65+f.M.ls.length then U c else Y)
  cases e:(if now=U 65 then dC f.M.rs c else Y) with
  |none=>rw[rx e,aC,eU];lia
  |some t=>
   obtain⟨x,a,y⟩:=t
   cases a
   ·rw[wT e]
    have h3:=ih (U y)
    have:(hR<|some y).length=1:=rfl
    have:(hR now).length=1:=by
     split at e
     ·rename_i q;rw[q];rfl
     ·cases e
    rw[eU];lia
   ·rw[vO e,aC,eU,eU];lia
theorem YY(ok:f.ok)(hr:p.length<=5)(b: ∀c∈p,f.dE c):l8 d hb B 7 99 [.op<|f.v a,.ref 1 j,.op<|.bool aa,aL 256] (xf o j F p) (List V) (λG=>fQ (f.v a) G<|J f Y p) λG=>(.op<|.fl G,[]):=
 ⟨λ_ _=>tI,λh Q D k=>Km ok (D.am 1 j _ rfl) hr b λh' G l hG=>k G h' hG<|D.le l⟩
set_option smartUnfolding false in
theorem aB1{u}(ok:f.ok)
  (k: ∀p F N b x h,Hd hb [] (xf l b F p) h->(∀c∈p,f.dE c)->p.length<=5->fQ (f.v a) F N->N++J f Y p=y->N.length<=20->P .next (aq<|DZ (f.v a) u x l b) h): ∀r p F N b x h,
  Hd hb [] (xf l b F p) h->(∀c∈p,f.dE c)->(∀c∈r,0<=c/\c<=255)->p.length+r.length<=5->N.length+2*p.length+2*r.length<=20->fQ (f.v a) F N->N++J f Y (p++r)=y->
  du (cq (al I<|d+7) (Tg.x 4) J2) bP (vi r) (aq<|DZ (f.v a) u x l b) h P:=λr=>by
 induction r with
 |nil=>exact λp F N b x h D s _ hl hL hn e=>⟨tI,k p F N b x h D s hl hn (by rw[c9] at e;exact e)<|Nat.le_trans (ak (cm _ _)<|Nat.le_add_right _ _) hL⟩
 |cons c r ih=>
  intro p F N b x h D s hc hl hL hn e
  have g:=λq m=>hc q (.tail _ m)
  have hl':p.length+r.length<=4:=xp hl
  have K:=z2 f p Y
  have w:=hn.len
  have hL2:N.length+2*p.length+2*r.length+2<=20:=hL
  have h0:(hR Y).length=0:=rfl
  refine⟨tI,dA [99] [.c (List V) (λ_ G=>fQ (f.v a) G<|J f Y p) λ_ G=>(.op<|.fl G,[])] D (UC ⟨_,rfl⟩ ⟨_,rfl⟩) (v:= .int c<|.b 0 255) (hc c<|.head _)<|.b (.c (λ_=>cC<|by rw[bO];lia)<|.d λq h' D o=>⟨h',H.le_refl _,?_⟩) ?_⟩
  ·have D:=D.ua (g2:=xf l b F<|p++[c]) (Fa.ls (D.am 0 _ _ rfl) (b9 (D.ne (i:=0) (j:=1) rfl rfl tI tI dd) bj)<|Fa.ls ((D.am 1 b _ rfl).trans<|by rw[<-Gs];rfl) bj Fa.nl) λc m=>(bC.mp m).elim (λe=>e▸⟨0,_,rfl⟩) λm=>b_.mp m▸⟨1,_,rfl⟩
   exact ih (p++[c]) F N b (U<|.int c) h' D (λA m=>(pG.mp m).elim (s A) λm=>b_.mp m▸Wx q) g (by rw[aC,aT9];lia) (by rw[aC,aT9];lia) hn (by rw[aX];exact e)
  ·refine .c (λq=>YY ok (ak (cm _ _)<|Nat.le_trans hl' dd) s) (.c (λq G hG=>cC<|by have:=hG.len;rw[aC];lia)<|.d λq G hG t h' D o=>⟨h',H.le_refl _,?_⟩)
   rw[aD9 f ok.M.r λz=>q<|Dl z,<-aX] at e
   exact ih [] (F++G) (N++J f Y p) t (U<|.int c) h' (D.ua (g2:=xf l t (F++G) []) (Fa.ls (D.am 0 _ _ rfl) (b9 (D.ne (i:=0) (j:=2) rfl rfl tI tI dd) bj)<|Fa.ls (D.am 2 t _ rfl) bj Fa.nl) λc m=>(bC.mp m).elim (λe=>e▸⟨0,_,rfl⟩) λm=>b_.mp m▸⟨2,_,rfl⟩) (λ_ m=>dB m) g (by rw[j6];lia) (by rw[aC,j6];lia) (hn.gW hG) e
theorem ku(k:(ao I C e ρ).i h λxs g h=>du (cq C t b) g xs ρ h P):ex I C (.for t e b) ρ h P:=k
theorem uI{α:Type}{a x1 x2:α}{P:Nat->α->Prop}(h0:P 0 a)(h1:P 1 x1)(h2:P 2 x2){k y}(e:ah [a,x1,x2] k=U y):P k y:=by
 rcases k with _|_|_|_
 ·exact iK e h0
 ·exact iK e h1
 ·exact iK e h2
 ·exact bR e
theorem Hd.VU(D:Hd hb [] [(a,.list l),(b,.list m)] h)(n:hb c=Y):Hd hb [] [(a,.list l),(c,.fV),(b,.list m)] h where
 am k x o e:=uI (P:=λ_ u=>u.2.at<|h u.1) (D.am 0 _ _ rfl) tI (D.am 1 _ _ rfl) e
 ok k x o e:=uI (P:=λ_ u=>u.2.ok ([(a,.list l),(c,.fV),(b,.list m)]:G)) tI tI tI e
 inj i j x y z e e' ly lz:=
  have no:a=x->b=x->i=j:=λq r=>nomatch D.inj 0 1 x (.list l) (.list m) (aA (λx=>U (x,SO.list l)) q) (aA (λx=>U (x,SO.list m)) r) tI tI
  uI (P:=λp u=>i=p->u.2.lv->u.1=x->i=j) (λei _ q=>uI (P:=λg u=>j=g->u.2.lv->u.1=x->i=j) (λej _ _=>ei.trans ej.symm) (λ_ l=>l.elim) (λ_ _ r=>no q r) e' rfl lz rfl) (λ_ l=>l.elim)
   (λei _ q=>uI (P:=λg u=>j=g->u.2.lv->u.1=x->i=j) (λ_ _ r=>no r q) (λ_ l=>l.elim) (λej _ _=>ei.trans ej.symm) e' rfl lz rfl) e rfl ly rfl
 fr x o e m':=have w:=D.fr x o e m'
  ⟨w.1,λk y z=>uI (P:=λ_ u=>u.1≠x) (λq=>w.2 0 (.list l)<|aA (λx=>U (x,SO.list l)) q) (λq=>bR <|n.symm.trans<|q▸e) (λq=>w.2 1 (.list m)<|aA (λx=>U (x,SO.list m)) q) z rfl⟩
abbrev gE(fo p0 a:ai)(F:List V)(p:List Int):G:=[(fo,.list F),(p0,.fV),(a,.list<|vi p)]
noncomputable abbrev sE(a cv:V)(x:Option V)(fo b:ai):SL:=[U<|.op a,U<|.op cv,U<|.op<|.bool aa,U<|.op<|.bool aa,x.map .op,U<|.ref 0 fo,U<|.ref 2 b,U<|.op<|.bool aa]
theorem SP:G.le [(j,o),(h,p)] [(j,q),(h,t),(l,r)]:=λk a z e=>match k,e with
 |0,e=>by cases e;exact⟨_,rfl⟩
 |1,e=>by cases e;exact⟨_,rfl⟩
theorem Hd.im(D:Hd hb B g h)(e:ah g k=U (a,o))(n:a∉B):hb a=Y:=by
 cases q:hb a with
 |none=>rfl
 |some x=>exact((D.fr a x q n).2 k o e).elim
theorem PQ: ∀{l m:List Int},vi l=vi m->l=m
 |[],[],_=>rfl
 |_::_,_::_,e=>by injection e with a b;injection a with a;rw[a,PQ b]
noncomputable abbrev sA(a cv:V)(x:Option V):SL:=[U<|.op a,U<|.op cv,U<|.op<|.bool aa,U<|.op<|.bool aa,x.map .op,Y,Y,Y]
set_option smartUnfolding false in
theorem aC8{j l}(hc: ∀c∈a,0<=c/\c<=255)(k: ∀x,P .next (aq<|sA j l x) h):du (cq (al I<|d+7) (Tg.x 4) E5) bP (vi a) (aq<|sA j l Y) h P:=
 B2 V.int (λx:Option V=>aq<|sA j l x) tI k a (λc m x R n=>dA (n:=7) (t:= .x 4) (b:=E5) (v:= .int c<|.b 0 255) [] [] (Hd.of Fa.nl) (aB<|aB<|aB<|aB<|bI<|aD<|aD<|aD bk) (hc c m)<|.d λh' D o=>(n (U<|.int c) h'<|a9 D.f).1) Y
set_option smartUnfolding false in
theorem PK(ok:f.ok)(hl:j.length<=4)(hc: ∀c∈j,0<=c/\c<=255)
  (k: ∀h' F,H.le h h'->fQ (f.v a) F (J f Y j)->Q (.fl F) h'):al I (d+8) 100 [f.v a,.fl<|vi j] h Q:=by
 refine cf [99] [.s (Option V) (λ_=>True) λg x=>(.next,[U<|.op<|f.v a,U<|.op<|.fl<|vi j,U<|.op<|.bool aa,U<|.op<|.bool aa,x.map .op,Y,Y,Y],g),.s (List V×List Int×Option V×ai×List Pt) (λx=>(∀c∈x.2.1,f.dE c)/\x.2.1.length<=5/\fQ (f.v a) x.1 x.2.2.2.2/\x.2.2.2.2++J f Y x.2.1=J f Y j/\x.2.2.2.2.length<=20) λg x=>(.next,sE (f.v a) (.fl<|vi j) x.2.2.1 (gH g 0) x.2.2.2.1,gE (gH g 0) (gH g 1) x.2.2.2.1 x.1 x.2.1),.c (List V) (λg G=> ∀cs o,ah g 2=U o->o.2= .list (vi cs)->fQ (f.v a) G (J f Y cs)) λ_ G=>(.op<|.fl G,[])] (Hd.of Fa.nl) (bE<|bE aY) (.c ?_<|.c ?_<|.c ?_<|.c ?_<|.d ?_)
 ·exact⟨λx _=>⟨tI,aB<|aB<|aB<|aB<|bI<|aD<|aD<|aD bk,G.le_refl _⟩,λh P D q=>ku<|jQ<|ap rfl<|.fN<|aC8 hc λx=>q x h tI D⟩
 ·refine λy _ fo s=>⟨λx _=>⟨tI,aB<|aB<|aB<|aB<|bI<|bG rfl<|bG rfl<|aB bk,SP⟩,λh1 P D q=>ku<|jQ<|ap rfl<|.fN ?_⟩
  exact aB1 ok (λp F N u x h' D' t hp hn e hN=>q (F,p,x,u,N) h' ⟨t,hp,hn,e,hN⟩<|D'.VU<|D.im (k:=1) rfl λm=>dB m) j [] [] [] s y h1 D (λ_ m=>dB m) hc (ak (jG<|gM _)<|ak hl dd) (ak (jG<|gM _)<|ak (jl 2 hl) dd) .nil rfl
 ·exact λy _ fo s x hx=>⟨λ_ _=>tI,λh Q D w=>Km ok (D.am 2 x.2.2.2.1 _ rfl) hx.2.1 hx.1 λh' G l hG=>w G h' (λcs o e eo=>by cases e;exact PQ (by injection eo)▸hG)<|D.le l⟩
 ·exact λy _ fo s x hx G hG=>cC (by
   have a:=(hG x.2.1 _ rfl rfl).len
   have b:=z2 f x.2.1 Y
   have c:(hR Y).length=0:=rfl
   have e:=hx.2.2.1.len
   have g:=hx.2.1
   have i:=hx.2.2.2.2
   rw[aC];lia)
 ·exact λy _ fo s x hx G hG h' D=>k h' (x.1++G) (a9 D.f) (hx.2.2.2.1▸hx.2.2.1.gW (hG x.2.1 _ rfl rfl))
abbrev hF(f:Fd):bJ:= .c ai (λ_ _=>True) λ_ a=>(.op<|f.v a,[])
theorem DM{f:Fd}(ok:f.ok):l8 d hb B (n+6) 28 [.op<|.a8<|bs f.M.W,.int f.n b,.op<|.str f.nm,.int f.sz j] g ai (λ_=>True) λa=>(.op<|f.v a,[]):=
 ⟨λ_ _=>tI,λh Q D k=>SB ok λa h' l=>k a h' tI<|D.le l⟩
theorem Zs(ok:Fd.ok ⟨M,i,j,M.de⟩):l8 d hb B (n+6) 28 [.op<|.a8<|bs M.W,.int i b,.op<|.str j] g ai (λ_=>True) λa=>(.op<|Fd.v ⟨M,i,j,M.de⟩ a,[]):=
 ⟨λ_ _=>tI,λh Q D k=>YL ok λa h' l=>k a h' tI<|D.le l⟩
theorem zR(ok:M.ok)(s0:0 <s)(s1:s<=30100000):Fd.ok ⟨M,1,"fa",s⟩/\Fd.ok ⟨M,2,"fb",s⟩:=
 ⟨⟨ok,(dd:(1:Int)<=1),(dd:(1:Int)<=255),.inl rfl,s0,s1⟩,⟨ok,(dd:(1:Int)<=2),(dd:(2:Int)<=255),.inr rfl,s0,s1⟩⟩
theorem Dp{M:aW}(ok:M.ok)(h0:1<=a)(h1:a<=32768):0 <M.de*a/1000/\M.de*a/1000<=30100000:=
 have d0:(327680)*1<=M.de*a:=GG ok.d0 h0 dd (az dd ok.d0)
 ⟨jF dd<|uQ (dd:(0:Int) <1000) d0,az (uQ (dd:(0:Int) <1000)<|GG ok.d1 h1 (az dd h0) dd) dd⟩
section
variable{M:aW}{s:Int}{Q:V->H->Prop}(ok:M.ok)
include ok
set_option smartUnfolding false in
theorem Y_(s0:0 <s)(s1:s<=30100000)(k: ∀a h',H.le h h'->Q (Fd.v ⟨M,1,"fa",s⟩ a) h'):al I (d+9) 109 [.a8<|bs M.W,.int 1,.int s,.int 0] h Q:=
 cf [28] [hF ⟨M,1,"fa",s⟩] (Hd.of Fa.nl) (bE<|bU<|cD s0 s1<|bU aY) (.c (DM (zR ok s0 s1).1)<|.d λa _ h' D=>k a h'<|a9 D.f)
set_option smartUnfolding false in
theorem ab7(s0:0 <s)(s1:s<=30100000)(k: ∀a h',H.le h h'->Q (Fd.v ⟨M,2,"fb",s⟩ a) h'):al I (d+9) 109 [.a8<|bs M.W,.int 2,.int s,.int 0] h Q:=
 cf [28] [hF ⟨M,2,"fb",s⟩] (Hd.of Fa.nl) (bE<|bU<|cD s0 s1<|bU aY) (.c (DM (zR ok s0 s1).2)<|.d λa _ h' D=>k a h'<|a9 D.f)
set_option smartUnfolding false in
theorem VS(s0:1<=s)(s1:s<=32768)(k: ∀a h',H.le h h'->Q (Fd.v ⟨M,2,"fb",M.de*s/1000⟩ a) h'):al I (d+9) 109 [.a8<|bs M.W,.int 2,.int 0,.int s] h Q:=
 cf [28] [hF ⟨M,2,"fb",M.de⟩,hF ⟨M,2,"fb",M.de*s/1000⟩] (Hd.of Fa.nl) (bE<|bU<|bU<|cD s0 s1 aY) (.c (Zs (zR ok (jF dd ok.d0)<|az ok.d1 dd).2)<|.c (λ_ _=>⟨az dd ok.d0,az ok.d1 dd⟩)<|.c (λ_ _=>DM (zR ok (Dp ok s0 s1).1 (Dp ok s0 s1).2).2)<|.d λ_ _ a _ h' D=>k a h'<|a9 D.f)
end
noncomputable def iY(f:Fd)(c:Int):Int×Int×Int:=match ah f.M.ls (c -65).toNat with
 |U l=>(a7 l.1 f.sz,a7 l.2.1 f.sz,a7 l.2.2 f.sz)
 |Y=>(0,0,0)
noncomputable def pw(f:Fd):Pt->Int×Int×Int
 |.lt c=>iY f c
 |.kn w=>(w,0,0)
def nf(f:Fd):Pt->Prop
 |.lt c=>f.dE c
 |.kn w=> -2100000<=w/\w<=60000000
structure Pp where
 f:Fd
 a:ai
 p:Pt
abbrev Pp.wd(q:Pp):Int:=(pw q.f q.p).1
abbrev Pp.ht(q:Pp):Int:=(pw q.f q.p).2.1
abbrev Pp.dp(q:Pp):Int:=(pw q.f q.p).2.2
structure Pp.ok(q:Pp):Prop where
 f:q.f.ok
 p:nf q.f q.p
inductive d8:List V->List Pp->Prop
 |nil:d8 [] []
 |cons {v:V} {vs:List V} {q:Pp} {qs:List Pp}:fu (q.f.v q.a) v q.p->q.ok->d8 vs qs->d8 (v::vs) (q::qs)
theorem d8.len(h:d8 vs a):vs.length=a.length:=by
 induction h with
 |nil=>rfl
 |cons _ _ _ ih=>exact aA (· +1) ih
theorem d8.Cu(h:d8 vs a): ∀q∈a,q.ok:=by
 induction h with
 |nil=>exact λ_ m=>dB m
 |cons _ o _ ih=>exact λq m=>(bC.mp m).elim (λe=>e▸o) (ih q)
theorem d8.gW(h:d8 vs a)(k:d8 us j):d8 (vs++us)<|a++j:=by
 induction h with
 |nil=>exact k
 |cons x o _ ih=>exact .cons x o ih
theorem wq{G:Prop}(p:f.dE c)(k: ∀b l,(∀a,(bw (fy f.sz f.M.b 0 f.M.ls) c).getD a=den (gv f.sz b l))->iY f c=(a7 l.1 f.sz,a7 l.2.1 f.sz,a7 l.2.2 f.sz)->l∈f.M.ls->G):G:=
 (Gk p).elim λl e=>k _ l (λ_=>re e.2.2) (by unfold iY;rw[e.1]) e.2.1
theorem ah0:aN g<|gv s b l:=dW (bM tI<|bM tI<|bM tI<|bU<|bU<|bU aY)
theorem nj{o:Option V}(e: ∀a,o.getD a=den (gv s b l)):o.getD a=den (gv s b l)/\aN g (gv s b l):=⟨e a,ah0⟩
theorem xV{q:Pp}(o:q.ok):(-2100000<=q.wd/\q.wd<=60000000)/\(-2100000<=q.ht/\q.ht<=60000000)/\(-2100000<=q.dp/\q.dp<=60000000):=by
 obtain⟨f,a,p⟩:=q
 obtain⟨of,g⟩:=o
 cases p with
 |lt c=>
  refine wq g λb l _ e m=> ?_
  have w:=of.M.l l m
  have e:pw f (.lt c)=_:=e
  unfold Pp.wd Pp.ht Pp.dp
  rw[e]
  exact⟨vC of.s0 of.s1 w.1,vC of.s0 of.s1 w.2.1,vC of.s0 of.s1 w.2.2⟩
 |kn w=>exact⟨g,(dd:(-2100000)<=0/\(0:Int)<=60000000),(dd:(-2100000)<=0/\(0:Int)<=60000000)⟩
def fD(a:Int)(qs:List Pp):Int:=dM a (qs.map Pp.ht)
def hV(a:Int)(qs:List Pp):Int:=dM a (qs.map Pp.dp)
def fM(qs:List Pp):Int:=(qs.map Pp.wd).sum
noncomputable abbrev z4:V:= .fl [.int 0,.int 0,.int 0,.int 0]
abbrev xS(n:Int):List<|Nat×SV:=[(0,.int n .no),(1,.op z4),(2,.op z4)]
noncomputable abbrev rL(vs:List V)(t:ai)(a b:Int)(x:Option V):SL:=[U<|.op<|.fl vs,U<|.ref 0 t,U<|.int a .no,U<|.int b .no,x.map .op]
theorem Cg{g:G}(e: ∃o,ah g 0=U (t,o)):a6 g<|rL vs t a b x:=aB (aT e<|aT tI<|aT tI<|bI bk)
section
abbrev Do(t:ai)(n:Int):G:=[(t,.aK 0<|xS n)]
theorem fu.by{C:V->Prop}(i:fu (f.v j) v p)(a:nf f p)(ew:pw f p=w)(o: ∀b c y l,(∀g,(bw (fy f.sz f.M.b 0 f.M.ls) c).getD g=den (gv f.sz y l))->w=(a7 l.1 f.sz,a7 l.2.1 f.sz,a7 l.2.2 f.sz)->C (.fz b 2 [(16,f.v j),(17,.int c)]))
  (k2: ∀b c ps l1 r1 y l,(∀g,(bw (fy f.sz f.M.b 0 f.M.ls) c).getD g=den (gv f.sz y l))->w=(a7 l.1 f.sz,a7 l.2.1 f.sz,a7 l.2.2 f.sz)->C (.fz b 3 [(16,f.v j),(17,.int c),(18,.aj ps),(19,.bool l1),(20,.bool r1)])) (q: ∀b i,w=(i,0,0)->C (.fz b 5 [(22,.int i),(30,.int 0)])):C v:=
 fu.casesOn i (λb c a ew=>wq a λy l e h _=>o b c y l e<|ew.symm.trans h) (λb c ps l1 r1 a ew=>wq a λy l e h _=>k2 b c ps l1 r1 y l e<|ew.symm.trans h) (λb i _ ew=>q b i ew.symm) a ew
set_option smartUnfolding false in
theorem Zr{R}(q:nf f p)(i:fu (f.v o) v p)(ew:pw f p=w)(ht:h t=U (.aK 0<|b8<|xS n))
  (k: ∀y,w=y-> ∀v h',Hd h [t] (Do t<|n+y.1) h'->a6 (Do t<|n+y.1) (rL j t (dM a [y.2.1]) (dM b [y.2.2])<|U v)->R .next (aq<|rL j t (dM a [y.2.1]) (dM b [y.2.2])<|U v) h'):cq (al I<|d+3) (Tg.x 4) vD v (aq<|rL j t a b x) h R:=
 have D:=Hd.of (g:=Do t n) (Fa.is ht bj (c7 tI<|dK<|dK d2) Fa.nl)
 i.by (C:=λv=>cq (al I<|d+3) (Tg.x 4) vD v (aq<|rL j t a b x) h R) q ew (λb c y l e w=>dA [] [.v<|gv f.sz y l,.v<|gv f.sz y l,.v<|gv f.sz y l] D (Cg ⟨_,rfl⟩) (v:= .op<|.fz b 2 [(16,f.v o),(17,.int c)]) tI<|.c (nj e)<|.c (nj e)<|.c (nj e)<|.d<|k _ w _)
  (λb c ps l1 r1 y l e w=>dA [] [.v<|gv f.sz y l,.v<|gv f.sz y l,.v<|gv f.sz y l] D (Cg ⟨_,rfl⟩) (v:= .op<|.fz b 3 [(16,f.v o),(17,.int c),(18,.aj ps),(19,.bool l1),(20,.bool r1)]) tI<|.c (nj e)<|.c (nj e)<|.c (nj e)<|.d<|k _ w _)
  λb i w=>dA [] [] D (Cg ⟨_,rfl⟩) (v:= .op<|.fz b 5 [(22,.int i),(30,.int 0)]) tI (.d<|k _ w _)
theorem aq8(i:d8 vs j): ∀n a b x h,h t=U (.aK 0<|b8<|xS n)->(∀x h',h' t=U (.aK 0<|b8<|xS<|n+fM j)->Fr h h' [t]->P .next (aq<|rL l t (fD a j) (hV b j) x) h')->
  du (cq (al I<|d+3) (Tg.x 4) vD) bP vs (aq<|rL l t a b x) h P:=by
 induction i with
 |nil=>exact λn a b x h e k=>⟨tI,k x h (e.trans<|by rw[show n+fM []=n from e7 n]) λ_ _ e _=>e⟩
 |cons i o _ ih=>exact λn a b x h e k=>⟨tI,Zr o.p i rfl e λy w=>w▸λv h' D _=>⟨h',H.le_refl _,ih _ _ _ _ h' (D.am 0 t _ rfl) λx h2 e2 f2=>k x h2 (e2.trans<|by rw[gq];rfl)<|Fr.tr D.f f2⟩⟩
end
theorem HK(h:d8 vs a): -2100000*(a.length:Int)<=fM a/\fM a<=60000000*(a.length:Int):=by
 induction h with
 |nil=>exact⟨aU _,aU _⟩
 |cons _ o _ ih=>
  have h1:=(xV o).1
  unfold fM at ih⊢
  rw[kO,aT2,eU,qY,qX,qX,iy<|Pp.wd _]
  exact⟨fU ih.1 h1.1,fU ih.2 h1.2⟩
theorem w_: ∀{l:List Int} {a:Int},a<=m->0<=a->(∀x∈l,x<=m)->0<=dM a l/\dM a l<=m
 |[],_,h1,h2,_=>⟨h2,h1⟩
 |x::r,a,h1,h2,h3=>by
  show 0<=dM (if a <x then x else a) r/\dM (if a <x then x else a) r<=m
  by_cases c:a <x
  ·rw[aM c];exact w_ (h3 x<|.head _) (az h2<|eT c) λy m=>h3 y (.tail _ m)
  ·rw[aE c];exact w_ h1 h2 λy m=>h3 y (.tail _ m)
theorem wZ(h:d8 vs a):0<=fD 0 a/\fD 0 a<=60000000:=w_ dd dd λ_ m=>(AX.mp m).elim λq e=>e.2▸(xV<|h.Cu q e.1).2.1.2
theorem BH(h:d8 vs a):0<=hV 0 a/\hV 0 a<=60000000:=w_ dd dd λ_ m=>(AX.mp m).elim λq e=>e.2▸(xV<|h.Cu q e.1).2.2.2
noncomputable abbrev f_(w t b:Int)(vs:List V):List<|Nat×V:=[(21,.int 2),(22,.int w),(23,.int t),(24,.int b),(25,.fl vs),(26,.int 0),(27,.int 0),(28,.int 0),(29,.aj [.int 0,.int 1])]
abbrev zv(n:Int):SO:= .aK 0 [(0,.int n<|.b (-33600000) 960000000),(1,.op z4),(2,.op z4)]
abbrev QT(vs:List V)(qs:List Pp)(t:ai)(x:Option V):SL:=[U<|.op<|.fl vs,U<|.ref 0 t,U<|.int (fD 0 qs)<|.b 0 60000000,U<|.int (hV 0 qs)<|.b 0 60000000,x.map .op]
theorem EM(i:d8 vs a)(l:a.length<=16): -33600000<=fM a/\fM a<=960000000:=
 have l:=bT.mpr l
 ⟨az (aT5 dd l) (HK i).1,az (HK i).2<|pE l dd⟩
theorem ZX(i:d8 vs a)(l:a.length<=16):ui d hb B 3 (.for (.x 4) (.x 0) vD) [U<|.op<|.fl vs,U<|.ref 0 t,U<|aL 0,U<|aL 0,Y] [(t,.aK 0 [(0,aL 0),(1,.fl [aL 0,aL 0,aL 0,aL 0]),(2,.fl [aL 0,aL 0,aL 0,aL 0])])] (Option V) (λ_=>True) λx=>(.next,QT vs a t x,[(t,zv<|fM a)]):=
 have w:=EM i l
 ⟨λx _=>⟨tI,aB<|bG rfl<|je (wZ i).1 (wZ i).2<|je (BH i).1 (BH i).2<|bI bk,iW [(0,zv<|fM a)] _⟩,
  λh P D k=>ku<|jQ<|ap rfl<|.fN<|aq8 i 0 0 0 Y h (D.am 0 t _ rfl) λx h' e f=>k x h' tI<|D.go (u:=[(0,zv<|fM a)]) f<|dg rfl tI (e.trans<|by rw[qU];rfl) (mm<|OL w.1 w.2<|dK<|dK d2) d7⟩
set_option smartUnfolding false in
theorem au2(i:d8 vs j)(l:j.length<=16)(k: ∀a r h',H.le h h'->Q (.aj [.fz a 4<|f_ (fM j) (fD 0 j) (hV 0 j) vs,r]) h'):al I (d+5) 49 [.fl vs] h Q:=by
 have w:=EM i l
 rw[<-e7<|fM j] at k
 refine cf [] [.s (Option V) (λ_=>True) λg x=>(.next,QT vs j (gH g 0) x,[(gH g 0,zv<|fM j)])] (Hd.of Fa.nl) (bE aY) (.c ?_<|.b (.b (.b (.c ?_<|.d ?_)<|.c ?_<|.d ?_)<|.d ?_)<|.d ?_)
 ·exact λt=>ZX i l
 ·exact λt x _ a _ _ _ _ h' D=>k a _ h' (a9 D.f)
 ·exact λt x _ a _ _ _ _ h' D=>k a _ h' (a9 D.f)
 ·exact λt x _ a _ _ c _=>c (by rw[e7,aU0])
 ·exact λt x _ a _ _ c _=>c (by rw[e7,aU0])
 ·exact λt x _ a _ c=>c (az (g9 w.2 0) dd)
 ·exact λt x _ a c=>c (az dd<|g9 w.1 0)
noncomputable def pU(n:Int):List Pp->List Int
 |[]=>[]
 |q::qs=>(n+q.wd)::pU (n+q.wd) qs
noncomputable def ql:Int->List V->List Pp->List V
 |n,v::vs,q::qs=> .aj [v,.int n,.int<|n+q.wd]::ql (n+q.wd) vs qs
 |_,_,_=>[]
abbrev gT(a:ai)(w t b:Int)(vs:List V):SV:= .op (.fz a 4<|f_ w t b vs)
abbrev qG(a:SV)(fo:ai)(n:Int)(x:Option V):SL:=[U a,U<|.ref 0 fo,U<|.int n .no,U<|aL 0,x.map .op]
theorem ya{g:G}(e: ∃o,ah g 0=U (a,o)):a6 g<|qG (.op h) a n x:=aB (aT e<|aT tI<|gx<|bI bk)
section
set_option smartUnfolding false in
theorem ad8(k: ∀h',H.le h h'->Q (.int 0) h'):al I (d+2) 44 [.fz a 4<|f_ p j l o,.int 0] h Q:=
 cf [] [.f,.f] (Hd.of Fa.nl) (bE<|bU aY) (.c (dd:(-9223372036854775808)<=0/\(0:Int)<=9223372036854775808)<|.c (dd: ¬(1:Int)<=0)<|.c (dd: ¬(0*0:Int) <0)<|.c (dd:(1:Int)<=2*1/\(2*1:Int)<=1073741823)<|.d λh' D=>k h'<|a9 D.f)
theorem EJ:ia d hb B (n+2) 44 [gT a p j l o,aL 0] g (aL 0) []:=cJ (oH _) λh Q k=>ad8 k
variable{R:Fl->L->H->Prop}
set_option smartUnfolding false in
theorem Ui{L}(q:nf f p)(i:fu (f.v A) v p)(ew:pw f p=w)(ht:h j=U (.list L))(hl:L.length<=90)
  (k: ∀y,w=y-> ∀v h',Hd h [j] [(j,.list<|L++[.int<|n+y.1+0])] h'->a6 [(j,.list<|L++[.int<|n+y.1+0])] (qG (gT a z o t u) j (n+y.1)<|U v)->R .next (aq<|qG (gT a z o t u) j (n+y.1)<|U v) h'):cq (al I<|d+3) (Tg.x 4) yW v (aq<|qG (gT a z o t u) j n x) h R:=
 have D:=Hd.of (g:=[(j,.list L)]) (Fa.ls ht bj Fa.nl)
 have l:=cC (ak (cg hl) dd)
 i.by (C:=λv=>cq (al I<|d+3) (Tg.x 4) yW v (aq<|qG (gT a z o t u) j n x) h R) q ew (λb c y l' e w=>dA [44] [.t,.v<|gv f.sz y l',.d (aL 0) []] D (ya ⟨_,rfl⟩) (v:= .op<|.fz b 2 [(16,f.v A),(17,.int c)]) tI<|.c rfl<|.c (nj e)<|.c EJ<|.c l<|.d<|k _ w _)
  (λb c ps l1 r1 y l' e w=>dA [44] [.t,.v<|gv f.sz y l',.d (aL 0) []] D (ya ⟨_,rfl⟩) (v:= .op<|.fz b 3 [(16,f.v A),(17,.int c),(18,.aj ps),(19,.bool l1),(20,.bool r1)]) tI<|.c rfl<|.c (nj e)<|.c EJ<|.c l<|.d<|k _ w _)
  λb i w=>dA [44] [.t,.d (aL 0) []] D (ya ⟨_,rfl⟩) (v:= .op<|.fz b 5 [(22,.int i),(30,.int 0)]) tI (.c rfl<|.c EJ<|.c l<|.d<|k _ w _)
theorem aC4(i:d8 vs l): ∀n L x h,L.length+l.length<=90->h j=U (.list L)->(∀b x h',h' j=U (.list<|L++vi (pU n l))->Fr h h' [j]->R .next (aq<|qG (gT a z p t u) j b x) h')->
  du (cq (al I<|d+3) (Tg.x 4) yW) bP vs (aq<|qG (gT a z p t u) j n x) h R:=by
 induction i with
 |nil=>exact λn L x h _ e k=>⟨tI,k n x h (e.trans<|by rw[show vi (pU n [])=[] from rfl,c9]) λ_ _ e _=>e⟩
 |cons i o _ ih=>exact λn L x h hl e k=>⟨tI,Ui o.p i rfl e (ak (cm _ _) hl) λy w=>w▸λv h' D _=>⟨h',H.le_refl _,ih _ _ _ h' (by rw[aC,cH,c5 [_].length];exact hl) (D.am 0 j _ rfl) λb x h2 e2 f2=>k b x h2 (e2.trans<|by rw[aX,e7];rfl)<|Fr.tr D.f f2⟩⟩
end
noncomputable abbrev qC(a:SV)(os:List V)(fo:ai)(x3 x4 x5 x6 x7:Option V)(k:Nat:=0):SL:=[U a,U<|.op<|.fl os,U<|.ref k fo,x3.map .op,x4.map .op,x5.map .op,x6.map .op,x7.map .op]
theorem AA{g:G}{a}(e: ∃o,ah g k=U (h,o)):a6 g<|qC (.op l) a h j x4 x5 x6 x7 k:=aB (aB<|aT e<|bI<|bI<|bI<|bI<|bI bk)
theorem EQ(e:o=U v):o=U (den<|.op v)/\aN g (.op v):=⟨e,tI⟩
theorem sJ(e:o=U (.int i)):o=U (den<|.int i .no)/\aN g (.int i .no):=⟨e,tI⟩
section
variable{a:ai}{wb tb bb:Int}{R:Fl->L->H->Prop}{os:List V}
noncomputable abbrev zg(v:V)(n n2:Int):List V:=[.aj [v,.int n,.int n2]]
noncomputable abbrev Gn(v:V)(n n2:Int):List bJ:=[.v<|.op v,.v<|.int n .no,.v<|.int n2 .no]
set_option smartUnfolding false in
theorem ap6{L}(q:nf f p)(j:fu (f.v y) v p)(ht:h o=U (.list L))(hl:L.length<=90)(i0:0<=i)(e:i<=90)(e1:ah u i.toNat=U v)(e2:ah os i.toNat=U (.int n))(e3:ah os (i+1).toNat=U (.int t))
  (k: ∀x4 x5 h',Hd h [o] [(o,.list<|L++zg v n t)] h'->R .next (aq<|qC (gT a wb tb bb u) os o (U<|.int i) x4 x5 x6 x7) h'):cq (al I<|d+4) (Tg.x 3) zZ (.int i) (aq<|qC (gT a wb tb bb u) os o z x4 x5 x6 x7) h R:=
 have D:=Hd.of (g:=[(o,.list L)]) (Fa.ls ht bj Fa.nl)
 have l:=cC (ak (cg hl) dd)
 fu.by (C:=λv=>ah u i.toNat=U v->(∀h',Hd h [o] [(o,.list<|L++zg v n t)] h'->R .next (aq<|qC (gT a wb tb bb u) os o (U<|.int i) (U v) (U<|.int n) x6 x7) h')->cq (al I<|d+4) (Tg.x 3) zZ (.int i) (aq<|qC (gT a wb tb bb u) os o z x4 x5 x6 x7) h R) j q rfl
  (λb c _ _ _ _ e1 k=>dA [] (Gn (.fz b 2 [(16,f.v y),(17,.int c)]) n t) D (AA ⟨_,rfl⟩) (v:= .int i<|.b 0 90) ⟨i0,e⟩<|.c (EQ e1)<|.c (sJ e2)<|.c (sJ e3)<|.c l<|.d λh' D _=>k h' D)
  (λb c ps l1 r1 _ _ _ _ e1 k=>dA [] (Gn (.fz b 3 [(16,f.v y),(17,.int c),(18,.aj ps),(19,.bool l1),(20,.bool r1)]) n t) D (AA ⟨_,rfl⟩) (v:= .int i<|.b 0 90) ⟨i0,e⟩<|.c (EQ e1)<|.c (sJ e2)<|.c (sJ e3)<|.c l<|.d λh' D _=>k h' D)
  (λb w _ e1 k=>dA [] (Gn (.fz b 5 [(22,.int w),(30,.int 0)]) n t) D (AA ⟨_,rfl⟩) (v:= .int i<|.b 0 90) ⟨i0,e⟩<|.c (EQ e1)<|.c (sJ e2)<|.c (sJ e3)<|.c l<|.d λh' D _=>k h' D)
  e1 (k _ _)
theorem PD x y B: ∀A:List α,ah (A++x::y::B) (A.length+1)=U y
 |[]=>rfl
 |_::A=>PD x y B A
theorem aO0(i:d8 vs l): ∀A B n x3 x4 x5 L h,p=A++vs->os=B++vi (n::pU n l)->B.length=A.length->L.length+vs.length<=90->A.length+vs.length<=90->h j=U (.list L)->
  (∀x3 x4 x5 h',h' j=U (.list<|L++ql n vs l)->Fr h h' [j]->R .next (aq<|qC (gT a wb tb bb p) os j x3 x4 x5 Y Y) h')->
  du (cq (al I<|d+4) (Tg.x 3) zZ) bP (ez A.length 1 vs.length) (aq<|qC (gT a wb tb bb p) os j x3 x4 x5 Y Y) h R:=by
 induction i with
 |nil=>exact λA B n x3 x4 x5 L h _ _ _ _ _ e k=>⟨tI,k x3 x4 x5 h (e.trans<|by rw[show ql n [] []=[] from rfl,c9]) λ_ _ e _=>e⟩
 | @cons v _ q _ i o _ ih=>exact λA B n x3 x4 x5 L h e1 e2 b hl hA e k=>⟨tI,ap6 o.p i e (ak (cm _ _) hl) (dx _) (bT.mpr<|Nat.le_trans (cm _ _) hA) (by rw[e1];exact qA _ _ A) (by rw[e2,<-b];exact qA _ _ B) (by rw[e2,<-b];exact PD (.int n) (.int<|n+q.wd) _ B)
   λx4 x5 h' D=>⟨h',H.le_refl _,by
    have z:=ih (A++[v]) (B++[.int n]) (n+q.wd) (U<|.int<|A.length) x4 x5 (L++zg v n (n+q.wd)) h' (by rw[e1,aX];rfl) (by rw[e2,aX];rfl) (by rw[aC,aC,b];rfl) (by rw[aC,cH,c5 (zg _ _ _).length];exact hl) (by rw[aC,cH,c5 [_].length];exact hA) (D.am 0 j _ rfl) λy3 y4 y5 h2 e2 f2=>k y3 y4 y5 h2 (e2.trans<|by rw[aX];rfl) (Fr.tr D.f f2)
    rw[aC] at z
    exact z⟩⟩
abbrev h68(vs:List V)(qs:List Pp):List bJ:=[.f,.s (Int×Option V) (λ_=>True) λg x=>(.next,qG (gT a wb tb bb vs) (gH g 0) x.1 x.2,[(gH g 0,.list<|vi<|0::pU 0 qs)]),
 .s (Option V×Option V×Option V) (λ_=>True) λg x=>(.next,qC (gT a wb tb bb vs) (vi<|0::pU 0 qs) (gH g 1) x.1 x.2.1 x.2.2 Y Y 1,[(gH g 0,.fV),(gH g 1,.list<|ql 0 vs qs)])]
set_option smartUnfolding false in
theorem aR2{Q:V->H->Prop}(i:d8 vs j)(hl:j.length<=16)(k: ∀h',H.le h h'->Q (.fl<|ql 0 vs j) h'):al I (d+5) 68 [.fz a 4<|f_ wb tb bb vs] h Q:=
 have hv:=i.len▸hl
 cf [] (h68 vs j) (Hd.of Fa.nl) (bE aY) (.c (dd: ¬(2:Int)=3) (.c (λfo=>⟨λx _=>⟨tI,ya ⟨_,rfl⟩,iW [(0,.list<|vi<|0::pU 0 j)] _⟩,λh P D q=>ku<|zM<|cI<|ap rfl<|.iG rfl<|.fN<|aC4 i 0 [.int 0] Y h (by rw[c5];exact ak (cg hl) dd) (D.am 0 fo _ rfl) λn x h' e f=>q (n,x) h' tI<|D.go (u:=[(0,.list<|vi<|0::pU 0 j)]) f<|dg rfl tI e tI d7⟩)
  (.c (λfo x _ b=>⟨λx _=>⟨tI,AA ⟨_,rfl⟩,iW [(1,.list<|ql 0 vs j)] _⟩,λh P D q=>ku<|i7<|ay<|eP<|ay<|cI<|ap rfl<|.iG rfl<|bg<|.zN (cC<|ak hv dd)<|bg<|.lN ⟨az dd<|dx _,az (bT.mpr hv) dd⟩<|aO0 i [] [] 0 Y Y Y [] h rfl rfl rfl (ak (jG<|gM _)<|ak hv dd) (ak (jG<|gM _)<|ak hv dd) (D.am 1 b _ rfl) λx3 x4 x5 h' e f=>q (x3,x4,x5) h' tI<|D.go (u:=[(1,.list<|ql 0 vs j)]) f<|dg rfl tI e tI d7⟩)<|.d λfo x _ b y _ h' D=>k h'<|a9 D.f)))
end
theorem gJ stop hs(D:Hd hb B g h)(o:a6 g ρ)(k:dH (lf d hb B (FP hb B P) (rS (rC stop n) n s ρ g .done) hs) []):ex I (al I<|d+n) s (aq ρ) h P:=
 uG (nB stop n) s _ _ _ _ _ D o (sL _ hs (λ_ x=>x) k) λ_ h' _ _ _ D' o' _ t=>t h' D' o'
def StK(hb:H)(B:List ai){α:Type}(p:α->Prop)(r:α->SF×SL×G)(P:Fl->L->H->Prop):Prop:= ∀x h',p x->Hd hb B (r x).2.2 h'->P (wB (r x).1) (aq (r x).2.1) h'
theorem oO{d n:Nat}{hb:H}{B:List ai}{s:S}{ρ:SL}{g:G}{α:Type}{p:α->Prop}{r:α->SF×SL×G}(o: ∀x,p x->a6 (r x).2.2 (r x).2.1)(l: ∀x,p x->G.le g (r x).2.2)(k: ∀h P,Hd hb B g h->StK hb B p r P->ex I (al I<|d+n) s (aq ρ) h P)(f: ∀x,p x->z7 (r x).2.2 (r x).1:=by exact λ_ _=>tI):ui d hb B n s ρ g α p r:=
 ⟨λx y=>⟨f x y,o x y,l x y⟩,k⟩
noncomputable def aO(n:Int):Nat->List Int
 |0=>[]
 |r+1=>n/256^r% 256::aO n r
theorem cK n: ∀r,(aO n r).length=r
 |0=>rfl
 |r+1=>aA (· +1) (cK n r)
theorem XM(n:Nat):sp ((n:Int) -1) (-1) (-1)=n:=by
 cases n with
 |zero=>rfl
 |succ n=>
  rw[show((n+1:Nat):Int) -1=n from mq n 1]
  show(if(-1:Int) >0 then _ else(if(n:Int) > -1 then((n:Int) - -1 -1)/(- -1)+1 else 0)).toNat=n+1
  rw[aE dd,aM<|Int.lt_of_lt_of_le dd<|Int.natCast_nonneg n,show((n:Int) - -1 -1)=n from mq n 1,show(- -1:Int)=1 by decide,GK];rfl
noncomputable abbrev itD(n:E):E:= .bi .range (.cons (.dT .sub n<|.c<|.int 1)<|.cons (.neg<|.c<|.int 1)<|.cons (.neg<|.c<|.int 1) .nil)
theorem DK{n:Nat}(l:n<=1000000)(he: ∀{Q},Q (.int n) h->(ao I C e ρ).v h Q)(k:K (ez ((n:Int) -1) (-1) n) bP h):(ao I C (itD e) ρ).i h K:=
 i7 (ay<|eC<|he<|bl<|.vF<|ay<|v2<|bl<|.rT<|ay<|v2<|bl<|.rT<|bg<|.FF ⟨az dd<|Ri (dx n) 1,az (aT4 _ dd)<|az (bT.mpr l) dd⟩ ⟨dd,dd⟩ dd dd<|by rw[XM];exact k)
theorem c3(h:n<=9000):a_ n:=ak h dd
section
variable{o:ai}{n:Int}
noncomputable abbrev yX(o:ai)(n r:Int)(x:Option V):SL:=[U<|.ref 0 o,U<|.int n .no,U<|.int r<|.b 0 4,x.map .op]
theorem Jq(r0:0<=r)(r1:r<=4):a6 [(o,y)]<|yX o n r x:=bG rfl (aT tI<|je r0 r1<|bI bk)
theorem VX(h:r<=3):(1:Int)<=256^r/\(256:Int) ^r<=1073741823:=by
 rcases show r=0\/r=1\/r=2\/r=3 by lia with rfl|rfl|rfl|rfl <;>decide
set_option smartUnfolding false in
theorem aK5{R}(r0:0<=R)(a:R<=4): ∀r (L:List V) x h,r<=4->L.length+r<=9000->h o=U (.list L)->(∀x h',h' o=U (.list<|L++vi (aO n r))->Fr h h' [o]->P .next (aq<|yX o n R x) h')->
  du (cq (al I d) (Tg.x 3) H4) bP (ez ((r:Int) -1) (-1) r) (aq<|yX o n R x) h P:=λr=>by
 induction r with
 |zero=>exact λL x h _ _ e k=>⟨tI,k x h (e.trans<|by rw[show vi (aO n 0)=[] from rfl,c9]) λ_ _ e _=>e⟩
 |succ r ih=>
  intro L x h hr hl e k
  rw[show((r+1:Nat):Int) -1=r from mq r 1]
  exact⟨tI,dA (n:=0) [] [] (Hd.of (g:=[(o,.list L)])<|Fa.ls e bj Fa.nl) (Jq r0 a) (v:= .int r<|.b 0 3) ⟨dx r,bT.mpr<|Nat.le_of_succ_le_succ hr⟩<|.c (VX<|Nat.le_of_succ_le_succ hr)<|.c (c3<|Nat.le_trans (eH (cg<|Nat.zero_le r) _) hl)<|.d λh' D _=>⟨h',H.le_refl _,ih _ (U<|.int r) h' (mr hr) (by rw[aC,cH,c5 [_].length];exact hl) (D.am 0 o _ rfl) λx h2 e2 f2=>k x h2 (e2.trans<|by rw[aX];rfl)<|Fr.tr D.f f2⟩⟩
set_option smartUnfolding false in
theorem yj{L}(ho:h o=U (.list L))(hl:L.length<=8000)(hr:r<=4)(k: ∀h',h' o=U (.list<|L++vi (aO n r))->Fr h h' [o]->Q .none h'):al I (d+1) 50 [.ref o,.int n,.int r] h Q:=
 cf (n:=1) (vs:=[.ref 0 o,.int n .no,.int r<|.b 0 4]) [] [.s (Option V) (λ_=>True) λ_ x=>(.next,yX o n r x,[(o,.list<|L++vi (aO n r))])] (Hd.of (g:=[(o,.list L)])<|Fa.ls ho bj Fa.nl) (ij rfl<|bM tI<|cD (dx r) (bT.mpr hr) aY)
  (.c (oO (λx _=>Jq (dx r)<|bT.mpr hr) (λx _=>iW [(0,.list<|L++vi (aO n r))] _) λh P D q=>ku<|DK (n:=r) (ak hr dd) (ap rfl)<|aK5 (d:=d) (dx r) (bT.mpr hr) r L Y h hr (ak (gQ hl hr) dd) (D.am 0 o _ rfl) λx h' e f=>q x h' tI<|D.go (u:=[(0,.list<|L++vi (aO n r))]) f<|dg rfl tI e tI d7)
  (.d λx _ h' D=>k h' (D.am 0 o _ rfl) D.f))
theorem r8{m i r:Nat}{g:G}{L}(e:ah g i=U (o,.list L))(hl:L.length<=8000)(hr:r<=4):ia d hb B (m+1) 50 [.ref i o,.int n b,.int r a] g (.op .none) [(i,.list<|L++vi (aO n r))]:=
 ⟨tI,λh Q D k=>yj (d:=d+m) (D.am i o _ e) hl hr λh' e' f=>k h'<|D.go (u:=[(i,.list<|L++vi (aO n r))]) (by unfold jq;rw[kO,e];exact f)<|dg e tI e' tI d7⟩
noncomputable def bN(s:Int):Nat:=if 128<=(s.natAbs:Int) then if 32768<=(s.natAbs:Int) then if 8388608<=(s.natAbs:Int) then 4 else 3 else 2 else 1
theorem lD s:1<=bN s/\bN s<=4:=by
 unfold bN;split;split;split;all_goals decide
noncomputable abbrev s51(o:ai)(a n r:Int):SL:=[U<|.ref 0 o,U<|.int a .no,U<|.int n .no,U<|.int r<|.b 1 4]
set_option smartUnfolding false in
theorem MM{o}{L}{n a}(ho:h o=U (.list L))(hl:L.length<=7000)(k: ∀h',h' o=U (.list<|L++[V.int<|a+bN n -1]++vi (aO n<|bN n))->Fr h h' [o]->Q .none h'):
  al I (d+2) 51 [.ref o,.int a,.int n] h Q:=
 have r1:=(lD n).2
 have l:(L++[V.int<|a+bN n -1]).length<=8000:=by rw[aC];exact ak (cL hl 1) dd
 cf (n:=2) (vs:=[.ref 0 o,.int a .no,.int n .no]) [50] [.s Unit (λ_=>True) λ_ _=>(.next,s51 o a n<|bN n,[(o,.list L)]),.d (.op .none) [(0,.list<|L++[V.int<|a+bN n -1]++vi (aO n<|bN n))]] (Hd.of (g:=[(o,.list L)])<|Fa.ls ho bj Fa.nl) (ij rfl<|bM tI<|bM tI aY)
  (.c (oO (λ_ _=>bG rfl<|aT tI<|aT tI<|je (bT.mpr<|(lD n).1) (bT.mpr r1) bk) (λ_ _=>G.le_refl _) λh P D q=>gJ (n:=1) [] [.u] D (bG rfl<|aT tI<|aT tI<|gx bk) (.b (.b (.c (λc1 b c h' D _=>by
   have q:=q () h' tI D
   rw[show bN n=4 from(aM c1).trans<|(aM b).trans<|aM c] at q;exact q) (.d λc1 b c h' D _=>by
   have q:=q () h' tI D
   rw[show bN n=3 from(aM c1).trans<|(aM b).trans<|aE c] at q;exact q)) (.d λc1 b h' D _=>by
   have q:=q () h' tI D
   rw[show bN n=2 from(aM c1).trans<|aE b] at q;exact q)) (.d λc1 h' D _=>by
   have q:=q () h' tI D
   rw[show bN n=1 from aE c1] at q;exact q)))<|.c (λ_ _=>c3<|ak (cg hl) dd)<|.c (λ_ _=>r8 rfl l r1)<|.d λ_ _ h' D=>k h' (D.am 0 o _ rfl) D.f)
end
theorem cQ l:(vi l).length=l.length:=bO ..
theorem eE a b:vi (a++b)=vi a++vi b:=qZ
theorem ln(h:A.length<=m):(A++vi (aO n r)).length<=m+r:=by rw[aC,cQ,cK];exact cL h r
theorem zn{x:V}(h:A.length<=m):(A++[x]).length<=m+1:=by rw[aC];exact cL h 1
theorem FD:Fr h (h.cr o x) [o]:=λb y e n=>(H.jN λq=>n<|b_.mpr q).trans e
theorem P6{R}(e0:ah (cY ρ 2<|.str ⟨#[c]⟩) 0=U (U<|.ref o))(e2:ah (cY ρ 2<|.str ⟨#[c]⟩) 2=U (U<|.str ⟨#[c]⟩))(ho:h o=U (.list l))(hl:l.length<=8000)
  (k: ∀h',h' o=U (.list<|l++[V.int c])->Fr h h' [o]->R .next (cY ρ 2<|.str ⟨#[c]⟩) h'):cq C (.x 2) Ph (.str ⟨#[c]⟩) ρ h R:=
 eI (bA<|h_<|gD<|ap e0<|.qj ho rfl<|ay<|eP<|ay<|ap e2<|.vU<|bg<|.wn ho (c3<|ak (cg hl) dd)<|k _ (H.kM ..) FD)
theorem ap8{ρ:L}(e:ah ρ 1=U (U<|.fz a 1 j))(en:bc j 4=U (.str ⟨#[o,p]⟩))(h1:(o:Int)<=255)(h2:(p:Int)<=255)(k:Q (.fl []) h):
  (ao I C (.comp aa [] (.at (.x 1) 4) (.eY .gt (.bi .pd<|.cons (.x 0) .nil)<|.c<|.int 255)<|.x 0) ρ).v h Q:=
 have t: ∀{c:Nat} {T F:H->Prop},(c:Int)<=255->F h->(ao I C (.eY .gt (.bi .pd<|.cons (.x 0) .nil)<|.c<|.int 255) [U<|.str ⟨#[c]⟩]).t h T F:=λl k=>iV (eP<|ay<|ap rfl<|.vU<|bl<|.qe<|gm (fH.mpr l) k)
 km (zM<|cI<|ap e<|.iG en<|.zX ⟨(dd:2<=1000000),jC ⟨tI,t h1 ⟨tI,t h2 ⟨tI,k⟩⟩⟩⟩)
def n3(f:Fd)(b:Nat):List Int:=243::(aO f.n 1++(aO f.M.ck 4++(aO f.sz 4++(aO f.M.de 4++[0,2,102,(b:Int)]))))
theorem ae1{L}{b:Nat}:L++[V.int<|243+1 -1]++vi (aO f.n 1)++vi (aO f.M.ck 4)++vi (aO f.sz 4)++vi (aO f.M.de 4)++[V.int 0]++[V.int 2]++[V.int (102:Nat)]++[V.int b]=L++vi (n3 f b):=by
 unfold n3
 rw[show∀x r,vi (x::r)=[V.int x]++vi r from λ_ _=>rfl,eE,eE,eE,eE]
 simp only[aX]
 rfl
noncomputable abbrev OS(o:ai)(l:List V):G:=[(o,.list l)]
abbrev s54(o a:ai)(f:Fd)(x:Option V):SL:=[U<|.ref 0 o,U<|.op<|f.v a,x.map .op]
set_option smartUnfolding false in
theorem ON{b:Nat}(n1:n<=255)(hb:(b:Int)<=255)(ho:h o=U (.list l))(hl:l.length<=5000)(k: ∀h',h' o=U (.list<|l++vi (n3 ⟨M,n,⟨#[102,b]⟩,s⟩ b))->Fr h h' [o]->Q .none h'):
  al I (d+3) 54 [.ref o,Fd.v ⟨M,n,⟨#[102,b]⟩,s⟩ a] h Q:=by
 rw[<-ae1] at k
 have l1:=zn (x:=V.int<|243+1 -1) hl
 have l2:=ln (n:=n) (r:=1) l1
 have l3:=ln (n:=M.ck) (r:=4) l2
 have l4:=ln (n:=s) (r:=4) l3
 have l5:=ln (n:=M.de) (r:=4) l4
 have c:=zn (x:=V.int 0) l5
 have e:=zn (x:=V.int 2) c
 have w: ∀{x y:Nat},x<=y->y<=8000->x<=8000:=ak
 refine cf (vs:=[.ref 0 o,.op<|Fd.v ⟨M,n,⟨#[102,b]⟩,s⟩ a]) [50] [.u,.d (.op<|.fl []) [],.f,.u,.f,.d (.op .none) [(0,.list<|l++[V.int<|243+1 -1]++vi (aO n 1))],.d (.op .none) [(0,.list<|l++[V.int<|243+1 -1]++vi (aO n 1)++vi (aO M.ck 4))],.d (.op .none) [(0,.list<|l++[V.int<|243+1 -1]++vi (aO n 1)++vi (aO M.ck 4)++vi (aO s 4))],
   .d (.op .none) [(0,.list<|l++[V.int<|243+1 -1]++vi (aO n 1)++vi (aO M.ck 4)++vi (aO s 4)++vi (aO M.de 4))],.n,.u,.n,.s Unit (λ_=>True) λg x=>(.next,s54 o a ⟨M,n,⟨#[102,b]⟩,s⟩<|U<|.str ⟨#[b]⟩,OS o<|l++[V.int<|243+1 -1]++vi (aO n 1)++vi (aO M.ck 4)++vi (aO s 4)++vi (aO M.de 4)++[V.int 0]++[V.int 2]++[V.int<|102]++[V.int b])] (Hd.of (g:=OS o l)<|Fa.ls ho bj Fa.nl) (ij rfl<|bE aY)
  (.c ⟨tI,λh Q D k=>ap8 rfl rfl dd hb<|k h D⟩ (.c (λq=>q rfl) (.c (n6.mpr<|g8 n1 dd) (.c (c3<|ak (cg hl) dd) (.c (r8 rfl (w l1 dd) dd) (.c (r8 rfl (w l2 dd) dd) (.c (r8 rfl (w l3 dd) dd) (.c (r8 rfl (w l4 dd) dd)
   (.c (c3<|ak (cg l5) dd) (.c (c3<|ak (cg c) dd) (.c (oO (λ_ _=>bG rfl<|aB<|aB bk) (λ_ _=>iW [(0,.list _)] _) λh P D q=>ku<|zM<|cI<|ap rfl<|.iG rfl<|.zX ⟨tI,P6 rfl rfl (D.am 0 o _ rfl) (w e dd) λh1 e1 f1=>⟨h1,H.le_refl _,tI,P6 rfl rfl e1 (w (zn e) dd) λh2 e2 f2=>⟨h2,H.le_refl _,tI,q () h2 tI<|D.go (u:=[(0,.list _)]) (Fr.tr f1 f2)<|dg rfl tI e2 tI d7⟩⟩⟩)
    (.d λ_ _ h' D=>k h' (D.am 0 o _ rfl) D.f))))))))))))
structure Wt where
 M:aW
 s:Int->Int
 a:Int->ai
def Wt.f(W:Wt)(n:Int):Fd:=⟨W.M,n,⟨#[102,96+n.toNat]⟩,W.s n⟩
def Wt.v(W:Wt)(n:Int):V:=(W.f n).v (W.a n)
inductive Kd where
 |p
 |r (tx again:Bool)
inductive bm where
 |mv (s:Int) (k:Kd)
 |dn (s:Int)
 |fd (n:Int)
 |fn (n:Int)
 |ch (c:Int)
noncomputable def dl(a:Bool):Int:=cond a 10 5
noncomputable def Kd.dk:Kd->Int
 |.p=>0
 |.r tx _=>dl tx
noncomputable def Kd.rm(s:Int):Kd->Nat
 |.r _ aa=>0
 |_=>bN s
noncomputable def ib(W:Wt):bm->List Int
 |.mv s k=>(143+k.rm s+k.dk -1)::aO s (k.rm s)
 |.dn s=>(157+bN s -1)::aO s (bN s)
 |.fd n=>n3 (W.f n) (96+n.toNat)
 |.fn n=>[171+n]
 |.ch c=>[c]
noncomputable def aH(W:Wt):List bm->List Int
 |[]=>[]
 |c::R=>aH W R++ib W c
theorem pb(W c R):aH W (c::R)=aH W R++ib W c:=rfl
noncomputable def rr(a:Bool):bm->Prop
 |.mv _ (.r t _)=>t=a
 |_=>False
noncomputable def dO(a:Bool):List bm->Int
 |[]=>0
 |.mv s (.r t ae)::R=>if t=a then s else dO a R
 |_::R=>dO a R
noncomputable def fj:List bm->Prop
 |[]=>True
 |.mv s k::R=>(-2147483648<=s/\s <2147483648)/\(match k with|.r t aa=>dO t R=s|_=>True)/\fj R
 |.dn s::R=>(-2147483648<=s/\s <2147483648)/\fj R
 |_::R=>fj R
noncomputable def er:bm->bm
 |.mv s _=> .mv s .p
 |c=>c
theorem aO3{R j}(h:dO a R=dO a j): ∀c,dO a (c::R)=dO a (c::j)
 |.mv _ (.r t ae)=>by show(if t=a then _ else _)=(if t=a then _ else _);rw[h]
 |.mv _ (.r _ aa)|.mv _ .p|.dn _|.fd _|.fn _|.ch _=>h
theorem XT{R}(h: ¬rr a c):dO a (c::R)=dO a R:=match c,h with
 |.mv _ (.r _ ae),h=>aE h
 |.mv _ (.r _ aa),_|.mv _ .p,_|.dn _,_|.fd _,_|.fn _,_|.ch _,_=>rfl
theorem CU{R}(g:fj<|c::R):fj R:=match c,g with
 |.mv _ _,g=>g.2.2
 |.dn _,g=>g.2
 |.fd _,g|.fn _,g|.ch _,g=>g
theorem Y3{R a}(g:fj<|c::R)(g1:fj a)(h: ∀t,rr t c->dO t a=dO t R):fj<|c::a:=by
 rcases c with⟨_,_|⟨t,_|_⟩⟩|_|_|_|_
 ·exact⟨g.1,tI,g1⟩
 ·exact⟨g.1,tI,g1⟩
 ·exact⟨g.1,(h t rfl).trans g.2.1,g1⟩
 ·exact⟨g.1,g1⟩
 all_goals exact g1
theorem GA: ∀{S:List bm},fj (S++ .mv s (.r a j)::l)->(∀c∈S,¬rr a c)->dO a (S++ .mv s (.r a j)::l)=s
 |[],g,_=>match j,g with
  |ae,_=>aM rfl
  |aa,g=>g.2.1
 |c::S,g,h=>(XT<|h c<|.head _).trans (GA (CU g) λc m=>h c<|.tail _ m)
theorem conv: ∀{S:List bm},fj (S++ .mv s .p::j)->(∀c∈S,¬rr a c)->fj (S++ .mv s (.r a ae)::j)/\(∀t,t≠a->dO t (S++ .mv s (.r a ae)::j)=dO t (S++ .mv s .p::j))
 |[],g,_=>⟨⟨g.1,tI,g.2.2⟩,λ_ n=>aE<|AY n⟩
 |c::S,g,h=>have ih:=conv (CU g) λc m=>h c (.tail _ m)
  ⟨Y3 g ih.1 λt i=>ih.2 t λe=>h c (.head _)<|e▸i,λt n=>aO3 (ih.2 t n) c⟩
theorem zc W: ∀A B,aH W (A++B)=aH W B++aH W A
 |[],B=>(c9 _).symm
 |c::A,B=>by show aH W (A++B)++_=_++(aH W A++_);rw[zc W A B,aX]
theorem Ho{R}:(aH W<|.mv s (.r a ae)::R).length=(aH W<|.mv s .p::R).length:=by
 rw[pb,pb,aC,aC];rfl
theorem I0 a x m: ∀l:List α,ef (l++a::m) l.length x=l++x::m
 |[]=>rfl
 |b::l=>aA (b:: ·) (I0 a x m l)
theorem J4: ∀l i x,ef (vi l) i (.int x)=vi (ef l i x)
 |[],_,_=>rfl
 |_::_,0,_=>rfl
 |_::r,i+1,x=>aA (_) (J4 r i x)
theorem yR{S h}:a++aH W (S++ .mv s k::h)=(a++aH W h)++(143+k.rm s+k.dk -1)::(aO s (k.rm s)++aH W S):=by
 rw[zc]
 show a++(aH W h++_++_)=_
 simp only[aX];rfl
theorem aB5{S j}:ef (h++aH W (S++ .mv s .p::j)) (h.length+(aH W j).length) (143+bN s+0 -1+dl l)=h++aH W (S++ .mv s (.r l ae)::j):=by
 rw[yR,yR,<-aC]
 refine(I0 _ _ _ _).trans ?_
 rw[e7,show∀a b:Int,a -1+b=a+b -1 from λa b=>Int.add_right_comm a (-1) b];rfl
noncomputable def SO.dt(o:SO):Bool:=SO.casesOn o (λ_ _=>aa) (λ_=>aa) (λ_=>aa) (λ_=>aa) (λ_=>ae) ae
theorem SO.eq{o:SO}:o.dt=aa->o.at x->o.at y->x=y:=
 SO.casesOn o (λ_ _ _ p q=>p.trans q.symm) (λ_ _ p q=>p.trans q.symm) (λ_ _ p q=>p.trans q.symm) (λ_ _ p q=>p.trans q.symm) (λ_=>nofun) nofun
theorem xR{α β:Type}{f}{b:β}: ∀{l:List α},b∈l.map f-> ∃i x,ah l i=U x/\f x=b
 |x::l,m=>(bC.mp m).elim (λe=>⟨0,x,rfl,e.symm⟩) λm=>(xR m).elim λi w=>⟨i+1,w⟩
theorem LY: ∀{l:List α} {i:Nat} {x:α},l.all p=aa->ah l i=U x->p x=aa
 |y::l,0,_,a,e=>by exact iK e ((fG.mp a).1)
 |y::l,i+1,_,a,e=>LY (fG.mp a).2 e
theorem Hd.fT(f:Fa h g g)(a:g.all (λx=>x.2.dt)=aa)(D:Hd h (g.map (·.1)) g h'):H.le h h':=λb y e=>by
 by_cases m:b∈g.map (·.1)
 ·obtain⟨i,x,ei,rfl⟩:=xR m
  exact(SO.eq (LY (p:=λx=>x.2.dt) a ei) (f.am ei).1<|D.am i _ _ ei).symm.trans e
 ·exact D.f b y e m
noncomputable abbrev row(s p t:Int):O:= .list [.int s,.int p,.int t]
noncomputable def tv(a:Bool):Int:=cond a 5 4
noncomputable def cls:Kd->Int->Prop
 |.p,t=>t=0\/t=1\/t=2\/t=3
 |.r tx _,t=>t=tv tx
noncomputable def Ix(c:bm):Bool:=bm.casesOn c (λ_ _=>aa) (λ_=>ae) (λ_=>ae) (λ_=>ae) λ_=>ae
inductive eR (W:Wt) (h0 h:H) (P:Nat):List bm->List V->Prop
 |nil:eR W h0 h P [] []
 |skip {c:bm} {R:List bm} {as:List V}:Ix c=ae->eR W h0 h P R as->eR W h0 h P (c::R) as
 |mv {R:List bm} {as:List V} {s:Int} {k:Kd} {a:ai} {t:Int}:eR W h0 h P R as->h0 a=Y->h a=U (row s (P+(aH W R).length:Nat) t)->cls k t->eR W h0 h P (.mv s k::R) (as++[.ref a])
theorem j_{R}:(aH W<|c::R).length=(aH W R).length+(ib W c).length:=aC
theorem eR.fr{R}(r:eR W a h P R as)(k: ∀b s t p,p <P+(aH W R).length->h b=U (row s p t)->h' b=U (row s p t)):eR W a h' P R as:=by
 induction r with
 |nil=>exact .nil
 |skip e _ ih=>exact .skip e (ih λb s t p l=>k b s t p<|Nat.lt_of_lt_of_le l<|by rw[j_,<-cH];exact cm _ _)
 |mv _ n e c ih=>exact .mv (ih λb s t p l=>k b s t p<|Nat.lt_of_lt_of_le l<|by rw[j_,<-cH];exact cm _ _) n (k _ _ _ _ (by rw[j_,<-cH];exact Rj<|Nat.succ_pos _) e) c
theorem Uy{s j p a t h}(e:U (row s p t)=U (row j a h)):s=j/\p=a/\t=h:=by
 injection e with q;injection q with q;injection q with q1 q;injection q with q2 q;injection q with q3;injection q1 with q1;injection q2 with q2;injection q3 with q3
 exact⟨q1,q2,q3⟩
theorem eR.bar{R}(r:eR W l h P R as)(f:Fr h h' [b])(e:h b=U (row s p t))(e':h' b=U (row s p j))(c: ∀k,cls k t->cls k j):eR W l h' P R as:=by
 induction r with
 |nil=>exact .nil
 |skip i _ ih=>exact .skip i ih
 | @mv _ _ _ _ a _ _ n w k ih=>
  by_cases z:a=b
  ·subst z
   have q:=Uy (e.symm.trans w)
   exact .mv ih n (q.1▸q.2.1▸e') (c _<|q.2.2▸k)
  ·exact .mv ih n (f _ _ w λm=>z<|List.mem_singleton.mp m) k
theorem eR.mem{R}(r:eR W a h P R as): ∀v∈as,∃b s p t k,v= .ref b/\h b=U (row s p t)/\cls k t/\a b=Y:=by
 induction r with
 |nil=>exact λ_ m=>dB m
 |skip _ _ ih=>exact ih
 |mv _ n e c ih=>exact λv m=>(pG.mp m).elim (ih v) λm=>⟨_,_,_,_,_,b_.mp m,e,c,n⟩
abbrev uu(ar:ai):List<|Nat×SV:=[(34,aL 143),(35,.ref 1 ar)]
abbrev pN(ac ar o a:ai)(rl os:List V)(s p t:Int):G:=[(ac,.aK 6<|uu ar),(ar,.list rl),(o,.list os),(a,.ls [.int s .no,.int p<|.b 0 5000,aL t])]
noncomputable abbrev vp(ac o:ai)(z a:Int)(x4 x5 x6 x7:Option V):SL:=[U<|.ref 0 ac,U<|.ref 2 o,U<|.int z .no,U<|.int a<|.b 0 2,x4.map .op,x5.map .op,x6.map .op,x7.map .op]
noncomputable def sv(a:Bool):Int:=cond a 2 1
theorem Fr.cB{h h'}{b}{A}(f:Fr h h'<|b::A)(e:h' b=h b):Fr h h' A:=λc y m n=>by
 by_cases q:c=b
 ·rw[q] at m⊢;exact e.trans m
 ·exact f c y m λm=>(bC.mp m).elim q n
theorem Bv{g:G}{x}{k}{a}{o}(e:x=U (.ref a))(w:ah g k=U (a,o)):x=U (den<|.ref k a)/\aN g (.ref k a):=⟨e,o,w⟩
section
variable{rl os:List V}
theorem P_{g:G}{x4 x5 x6 x7}(e: ∃x,ah g 0=U (h,x))(e': ∃x,ah g 2=U (o,x))(s0:0<=a/\a<=2):a6 g<|vp h o z a x4 x5 x6 x7:=aT e (aT e'<|aT tI<|je s0.1 s0.2<|bI<|bI<|bI<|bI bk)
structure su(h:H)(ac ar o a:ai)(rl os:List V)(s p sn i t:Int):Prop where
 f:Fa h (pN ac ar o a rl os s p t) (pN ac ar o a rl os s p t)
 s0:0<=sn/\sn<=2
 i0:0<=i/\i<=100
 e:ah rl i.toNat=U (.ref a)
theorem su.fr{h'}{t y}{u}(T:su h j l o a rl os s p z i t)(D:Hd h [j,l,o,a] (pN j l o a rl u s p y) h'):Fr h h' [o,a]:=
 Fr.cB (Fr.cB D.f<|(D.am 0 j _ rfl).trans (T.f.am (k:=0) rfl).1.symm) ((D.am 1 l _ rfl).trans (T.f.am (k:=1) rfl).1.symm)
abbrev MO(d:Nat)(h:H)(Q:Fl->L->H->Prop)(ac o:ai)(z a i:Int)(x4 x5 x6 x7:Option V):Prop:=cq (al I d) (Tg.x 4) wC (.int i) (aq<|vp ac o z a x4 x5 x6 x7) h Q
abbrev wx(h:H)(Q:Fl->L->H->Prop)(ac o:ai)(z a i:Int):Prop:= ∀x5 x6 x7 h',H.le h h'->Q .next (aq<|vp ac o z a (U<|.int i) (U x5) (U x6)<|U x7) h'
theorem su.nx{t}(T:su h l u o a rl os s p y i t){j}(k:wx h Q l o z j i){h'}(D:Hd h [l,u,o,a] (pN l u o a rl os s p t) h'):Q .next (aq<|vp l o z j (U<|.int i) (U<|.int s) (U<|.int p)<|U<|.int t) h':=k _ _ _ h' (Hd.fT T.f rfl D)
abbrev WZ(h:H)(Q:Fl->L->H->Prop)(o a:ai)(os:List V)(s p z e b i:Int):Prop:= ∀c h' ρ,s=z-> ¬e=sv c->h' o=U (.list<|ef os p.toNat<|.int<|b+dl c)->h' a=U (row s p<|tv c)->Fr h h' [o,a]->Q (.ret<|.int i) ρ h'
set_option smartUnfolding false in
theorem an0{t}(T:su h j u o a rl os s p l i t)(c:cls .p t)(hb:ah os p.toNat=U (.int b))(hp:(0<=p/\p <(os.length:Int))/\a_ os.length)(kc:WZ h Q o a os s p z l b i)(kn:wx h Q j o z l i):MO d h Q j o z l i x4 x5 x6 x7:=by
 have D:=Hd.of T.f
 have f:=P_ (z:=z) (x4:=x4) (x5:=x5) (x6:=x6) (x7:=x7) (g:=pN j u o a rl os s p t) ⟨_,rfl⟩ ⟨_,rfl⟩ T.s0
 have p1: ∀{g y},ah g 3=U (a,y)->ah rl i.toNat=U (den<|.ref 3 a)/\aN g (.ref 3 a):=Bv T.e
 have p2: ∀{g},ah os p.toNat=U (den<|.int b .no)/\aN g (.int b .no):=sJ hb
 have k4:=λe n ρ h' D=>kc ae h' ρ e n (D.am 2 o _ rfl) (D.am 3 a _ rfl) (T.fr D)
 have q:=λe n ρ h' D=>kc aa h' ρ e n (D.am 2 o _ rfl) (D.am 3 a _ rfl) (T.fr D)
 rcases c with rfl|rfl|rfl|rfl
 ·exact dA (n:=0) (v:= .int i<|.b 0 100) [] [.v<|.ref 3 a,.v<|.int b .no,.v<|.ref 3 a] D f T.i0 (.c (p1 rfl)<|.b (.b (.c (λ_ _=>p2)<|.c (λ_ _=>hp)<|.c (λ_ _=>p1 rfl)<|.d λe n h' D _=>k4 e n _ h' D)<|.b (.c (λ_ _ _=>p2)<|.c (λ_ _ _=>hp)<|.c (λ_ _ _=>p1 rfl)<|.d λe _ n h' D _=>q e n _ h' D)<|.d λ_ _ _ h' D _=>T.nx kn D)<|.d λ_ h' D _=>T.nx kn D)
 ·exact dA (n:=0) (v:= .int i<|.b 0 100) [] [.v<|.ref 3 a,.v<|.int b .no,.v<|.ref 3 a] D f T.i0 (.c (p1 rfl)<|.b (.b (.c (λ_ _=>p2)<|.c (λ_ _=>hp)<|.c (λ_ _=>p1 rfl)<|.d λe n h' D _=>k4 e n _ h' D)<|.d λ_ _ h' D _=>T.nx kn D)<|.d λ_ h' D _=>T.nx kn D)
 ·exact dA (n:=0) (v:= .int i<|.b 0 100) [] [.v<|.ref 3 a,.v<|.int b .no,.v<|.ref 3 a] D f T.i0 (.c (p1 rfl)<|.b (.b (.c (λ_ _=>p2)<|.c (λ_ _=>hp)<|.c (λ_ _=>p1 rfl)<|.d λe n h' D _=>q e n _ h' D)<|.d λ_ _ h' D _=>T.nx kn D)<|.d λ_ h' D _=>T.nx kn D)
 ·exact dA (n:=0) (v:= .int i<|.b 0 100) [] [.v<|.ref 3 a] D f T.i0 (.c (p1 rfl)<|.c (λ_ h' D _=>T.nx kn D)<|.d λ_ h' D _=>T.nx kn D)
abbrev OF(h:H)(Q:Fl->L->H->Prop)(x:Int):Prop:= ∀ρ h',H.le h h'->Q (.ret<|.int x) ρ h'
set_option smartUnfolding false in
theorem aw5{j}(T:su h t u o a rl os s p l i<|tv j)(f:s=z-> ¬l=sv j->OF h Q i)(b:OF h Q (-1))(kn:s=z-> ¬¬l=sv j->wx h Q t o z l i)(c: ¬s=z-> ¬l=sv (!j)->wx h Q t o z (sv j) i):MO d h Q t o z l i x4 x5 x6 x7:=by
 have D:=Hd.of T.f
 have q:=P_ (z:=z) (x4:=x4) (x5:=x5) (x6:=x6) (x7:=x7) (g:=pN t u o a rl os s p<|tv j) ⟨_,rfl⟩ ⟨_,rfl⟩ T.s0
 cases j
 ·exact dA (n:=0) (v:= .int i<|.b 0 100) [] [.v<|.ref 3 a] D q T.i0 (.c (Bv T.e rfl)<|.b (.c (λe n h' D _=>f e n _ h'<|Hd.fT T.f rfl D)<|.d λe n h' D _=>T.nx (kn e n) D)<|.c (λ_ _ h' D _=>b _ h'<|Hd.fT T.f rfl D)<|.d λe n h' D _=>T.nx (c e n) D)
 ·exact dA (n:=0) (v:= .int i<|.b 0 100) [] [.v<|.ref 3 a] D q T.i0 (.c (Bv T.e rfl)<|.b (.c (λe n h' D _=>f e n _ h'<|Hd.fT T.f rfl D)<|.d λe n h' D _=>T.nx (kn e n) D)<|.c (λ_ _ h' D _=>b _ h'<|Hd.fT T.f rfl D)<|.d λe n h' D _=>T.nx (c e n) D)
end
structure Ax(W:Wt)(h0 h:H)(ac ar o:ai)(pre:List Int)(R:List bm)(rl:List V):Prop where
 ha:h ac=U (.aK 6<|b8<|uu ar)
 hr:h ar=U (.list rl)
 ho:h o=U (.list<|vi<|pre++aH W R)
 rw:eR W h0 h pre.length R rl
 p4:4<=pre.length
 ol:(pre++aH W R).length<=3000
 ll:rl.length<=60
 gd:fj R
theorem bS{h:H}(e:h a=U x)(e':h b=U y)(n:x=y->False):a≠b:=λq=>by rw[q,e'] at e;exact n (bL e).symm
theorem DG(h:4<=l.length)(e:O.list (vi l)=row s p t):False:=by
 injection e with e
 have e:=aA aU1 e
 rw[cQ] at e
 exact absurd (ak h<|jG e) (dd: ¬4<=3)
theorem az7(n:p≠a)(e:row s p t=row j a h):False:=by
 injection e with e;injection e with _ e;injection e with e;injection e with e;exact n e
theorem Ax.Bw{R}(A:Ax W u h y z o a R j)(e:O.list j=O.list (.int i::l)):False:=by
 injection e with e
 obtain⟨b,s,p,t,k,e,_⟩:=(A.rw.mem (.int i)<|e▸ .head _)
 cases e
theorem Ax.qp{R}(A:Ax W p h t j o a R l):4<=(a++aH W R).length:=by rw[aC];exact ak A.p4 (cm _ _)
theorem Ax.uw{R}(A:Ax W t h u j o a R p):j≠o:=bS A.hr A.ho λe=>by
 have q:=A.qp
 cases z:a++aH W R with
 |nil=>rw[z] at q;cases q
 |cons i l=>rw[z] at e;exact A.Bw e
theorem Ax.fa{R}(A:Ax W z h y l o j R u)(e:h a=U (row s p t))(p0:0<=p)(p1:p<=5000):Fa h (pN y l o a u (vi<|j++aH W R) s p t)<|pN y l o a u (vi<|j++aH W R) s p t:=
 Fa.is A.ha (b9 (bS A.ha A.hr nofun)<|b9 (bS A.ha A.ho nofun)<|b9 (bS A.ha e nofun) bj) (dN<|kD rfl d2) (Fa.ls A.hr (b9 A.uw<|b9 (bS A.hr e A.Bw) bj)<|Fa.ls A.ho (b9 (bS A.ho e<|DG A.qp) bj)<|Fa.ss e bj (bM tI<|cD p0 p1<|bU aY) Fa.nl)
structure zq(W:Wt)(h0 h h':H)(o a:ai)(pre:List Int)(R R1:List bm)(rl:List V)(z:Int)(i:Int)(tx:Bool)(p:Nat):Prop where
 rw:eR W h0 h' pre.length R1 rl
 ho:h' o=U (.list<|vi<|pre++aH W R1)
 gd:fj R1
 er:R1.map er=R.map er
 rg:dO tx R1=z
 ea:ah rl i.toNat=U (.ref a)
 ha:h' a=U (row z p<|tv tx)
 fr:Fr h h' [o,a]
 ln:(aH W R1).length=(aH W R).length
 na:h0 a=Y
 p1:p<=3000
 i0:0<=i/\i<=100
def Sn(a:Int)(S:List bm):Prop:= ∀t,¬a=sv t-> ∀c∈S,¬rr t c
theorem Sn.nx{S}(h:Sn a S)(k: ∀t,¬a=sv t-> ¬rr t c):Sn a<|S++[c]:=λt n x m=>(pG.mp m).elim (h t n x) λm=>b_.mp m▸k t n
theorem az8:Ix c=ae-> ¬rr t c:=bm.casesOn c (λ_ _=>nofun) (λ_ _=>id) (λ_ _=>id) (λ_ _=>id) λ_ _=>id
theorem Vi{α:Type}{A B}{x:α}:A.length <(A++x::B).length:=by rw[aC];exact Rj (sV _)
theorem Vr(h: ¬sv a=sv t):t= !a:=by cases t <;>cases a <;>first|rfl|exact absurd rfl h
section
def ZE(W:Wt)(h0 h:H)(P:Nat)(R:List bm)(as:List V)(S:List bm)(rl:List V):Prop:= ∀h' X,(aH W X).length=(aH W R).length->(∀b s t (p:Nat),P+(aH W R).length<=p->h b=U (row s p t)->h' b=U (row s p t))->eR W h0 h' P X as->eR W h0 h' P (S++X) rl
noncomputable def L59(d n:Nat)(P:Fl->L->H->Prop):Fl->L->H->Prop:=λf ρ h'=>match f with|.next=> ∃a,H.le a h'/\du (cq (al I d) (Tg.x 4) wC) bP (ez ((n:Int) -1) (-1) n) ρ a P|.cont=> ∃a,H.le a h'/\du (cq (al I d) (Tg.x 4) wC) bP (ez ((n:Int) -1) (-1) n) ρ a P|.brk=>P .next ρ h'|.ret v=>P (.ret v) ρ h'
theorem Uv(A:Ax W h0 h ac ar o j D Q)(k1: ∀h' ρ i u a p R1,zq W h0 h h' o a j D R1 Q z i u p->P (.ret<|.int i) ρ h')(k0: ∀h' ρ,H.le h h'->P (.ret<|.int (-1)) ρ h')(kn: ∀ρ,P .next ρ h){R}(r:eR W h0 h j.length R as): ∀S rest g x4 x5 x6 x7,D=S++R->Q=as++rest->Sn g S->0<=g/\g<=2->j.length+(aH W R).length<=3000->
  ZE W h0 h j.length R as S Q->
  du (cq (al I d) (Tg.x 4) wC) bP (ez ((as.length:Int) -1) (-1) as.length) (aq<|vp ac o z g x4 x5 x6 x7) h P:=by
 induction r with
 |nil=>exact λ_ _ _ _ _ _ _ _ _ _ _ _ _=>⟨tI,kn _⟩
 | @skip c R as ic r ih=>
  intro S rest g x4 x5 x6 x7 e el hs hn hl F
  have l:j.length+(aH W R).length<=j.length+(aH W<|c::R).length:=by rw[j_,<-cH];exact cm _ _
  exact ih (S++[c]) rest g x4 x5 x6 x7 (by rw[aX];exact e) el (hs.nx λt _=>az8 ic) hn (ak l hl) λh' X lx fr Z=>by
   rw[aX]
   exact F h' (c::X) (by rw[j_,j_,lx]) (λb s t p q=>fr b s t p<|Nat.le_trans l q) (.skip ic Z)
 | @mv R as s k a t r n w c ih=>
  intro S rest g x4 x5 x6 x7 e el hs hn hl F
  have l1:j.length+(aH W R).length <j.length+(aH W<|.mv s k::R).length:=by rw[j_,<-cH];exact Rj (sV _)
  have p3:=ak (uV l1) hl
  rw[show(as++[V.ref a]).length=as.length+1 from aC,show((as.length+1:Nat):Int) -1=as.length from mq as.length 1]
  have ih:=λg x4 x5 x6 x7 hs hn=>ih (S++[.mv s k]) ([.ref a]++rest) g x4 x5 x6 x7 (by rw[aX];exact e) (by rw[<-aX];exact el) hs hn p3 λh' X lx fr Z=>by
   rw[aX]
   exact F h' (.mv s k::X) (by rw[j_,j_,lx]) (λb s t p q=>fr b s t p<|Nat.le_trans (uV l1) q) (.mv Z n (lx▸fr a s t _ (dP _) w) c)
  have ea:ah Q as.length=U (.ref a):=by rw[el,aX];exact qA _ _ as
  have i1:=bT.mpr (ak (by have:=A.ll;rw[el,aC,aC,cH] at this;exact ak (cm _ _) this) (dd:60<=100))
  have T:su h ac ar o a Q (vi<|j++aH W D) s (j.length+(aH W R).length:Nat) g as.length t:=⟨A.fa w (dx _)<|Int.le_trans (bT.mpr p3) dd,hn,⟨dx _,i1⟩,ea⟩
  have nx: ∀f,Sn f (S++[.mv s k])->0<=f/\f<=2->wx h (L59 d as.length P) ac o z f as.length:=λf hs' N x5 x6 x7 h' l=>⟨h,l,ih f _ _ _ _ hs' N⟩
  refine⟨tI,?_⟩
  cases k with
  |p=>
   have eo:ah (vi<|j++aH W D) (j.length+(aH W R).length)=U (.int<|143+bN s+0 -1):=by
    rw[e,yR,<-aC,eE,<-cQ];exact qA _ _ _
   have lo:j.length+(aH W R).length <(vi<|j++aH W D).length:=by rw[e,yR,cQ,<-aC];exact Vi
   refine an0 T c eo ⟨⟨dx _,mo.mpr lo⟩,c3<|by rw[cQ];exact ak A.ol dd⟩ (λu h' ρ es ns eo K fr=>k1 h' ρ as.length u a (j.length+(aH W R).length) (S++ .mv s (.r u ae)::R) ?_) (nx g (hs.nx λ_ _=>id) hn)
   have cv:=conv (e▸A.gd) (hs u ns)
   have fz: ∀b s' y (p),p≠j.length+(aH W R).length->h b=U (row s' p y)->h' b=U (row s' p y):=λb s' y p np w'=>fr b _ w' λm=>(bC.mp m).elim (bS w' A.ho λe=>DG A.qp e.symm) λm=>bS w' w (az7 λq=>np<|Int.ofNat.inj q) (b_.mp m)
   have gR:=e▸A.gd
   subst es
   exact⟨F h' _ Ho (λb s' y p q=>fz b s' y p<|Nat.ne_of_gt<|Nat.lt_of_lt_of_le l1 q)<|.mv (r.fr λb s' y p q=>fz b s' y p<|Nat.ne_of_lt q) n K rfl,by rw[eo,show((j.length+(aH W R).length:Nat):Int).toNat=j.length+(aH W R).length from rfl,J4,e,aB5],cv.1,by rw[e,qZ,qZ];rfl,GA cv.1<|hs u ns,ea,K,fr,by rw[e,zc,zc,aC,aC,Ho],n,p3,T.i0⟩
  |r u ag=>
   subst c
   refine aw5 T (λes ns ρ h' l=>k1 h' ρ as.length u a (j.length+(aH W R).length) D ?_) (λρ h' l=>k0 h' ρ l) (λ_ ns=>nx g (hs.nx λt n i=>ns λ_=>n<|i▸ ‹_›) hn) λ_ ns=>nx (sv u) ?_ (by cases u <;>decide)
   ·subst es
    exact⟨A.rw.fr λb _ _ _ _ e=>l b _ e,l _ _ A.ho,A.gd,rfl,(e▸GA (e▸A.gd) (hs u ns)),ea,l _ _ w,λb _ e _=>l b _ e,rfl,n,p3,T.i0⟩
   ·exact λt n c m=>(pG.mp m).elim (λm=>hs t (Vr n▸ns) c m) λm i=>by
     rw[b_.mp m] at i
     exact n (aA sv i)
end
theorem aq6{R}(A:Ax W t h u D o j R y)(e: ∀h' i b a p R1,zq W t h h' o a j R R1 y z i b p->Q (.int i) h')(c: ∀h',H.le h h'->Q (.int (-1)) h'):al I (d+1) 59 [.ref u,.ref o,.int z] h Q:=by
 refine e9 (fn:=Gp) rfl rfl (jO<|oA rfl<|bA<|iC<|DK (ak A.ll dd) (λk=>eP<|ay<|cI<|ap rfl<|.eQ A.ha rfl<|bg<|.vY A.hr (ak A.ll dd) k) ?_)
 exact Uv (rest:=[]) A (λh' ρ i b a p R1 H1=>⟨h',H.le_refl _,e h' i b a p R1 H1⟩) (λh' ρ l=>⟨h',H.le_refl _,c h' l⟩) (λρ=>bA<|mL<|v2<|bl<|.rT ⟨h,H.le_refl _,c h<|H.le_refl _⟩) A.rw [] 0 Y Y Y Y rfl (c9 _).symm (λ_ _ _ m=>dB m) dd (by have:=A.ol;rw[aC] at this;exact this) λh' X _ _ r=>r
def kI(y:O):Prop:= ∃s p t,y=row s p t
structure Fx(h0 h h':H)(X:List ai):Prop where
 le: ∀b y,h0 b=U y->h b=U y->h' b=U y
 fx: ∀b y,h b=U y->b∉X->h' b=U y\/(kI y/\ ∃y',h' b=U y'/\kI y')
theorem Fx.tr(f:Fx a h j X)(g:Fx a j l X):Fx a h l X:=
 ⟨λb y e e'=>g.le b y e<|f.le b y e e',λb y e n=>(f.fx b y e n).elim (λe=>g.fx b y e n) λw=> .inr ⟨w.1,w.2.elim λc w=>(g.fx b c w.1 n).elim (λe=>⟨c,e,w.2⟩) λw=>w.2⟩⟩
theorem Fx.of(f:Fr h h' A)(k: ∀a∈A,j a=Y/\(a∈X\/ ∃y c,h a=U y/\kI y/\h' a=U c/\kI c)):Fx j h h' X where
 le b y e e':=by
  by_cases m:b∈A
  ·rw[(k b m).1] at e;cases e
  ·exact f b y e' m
 fx b y e n:=by
  by_cases m:b∈A
  ·exact(k b m).2.elim (λm=>absurd m n) λw=>w.elim λz w=>w.elim λg w=> .inr ⟨bL (w.1.symm.trans e)▸w.2.1,g,w.2.2⟩
  ·exact .inl (f b y e m)
theorem v0:kI<|row s p t:=⟨s,p,t,rfl⟩
theorem OQ u(h:t=0)(c:cls k t):cls k<|cond u 1 2:=match k,c with
 |.p,_=>by cases u;exact .inr (.inr<|.inl rfl);exact .inr (.inl rfl)
 |.r tx _,c=>by cases tx <;>cases(c) <;>cases h
theorem Jl(h:t=1\/t=2)(c:cls k t):cls k 3:=match k,c with
 |.p,_=> .inr (.inr<|.inr rfl)
 |.r tx _,c=>by cases tx <;>cases(c) <;>exact h.elim nofun nofun
section
variable{d:Nat}{b:ai}{s p t:Int}{h:H}{R:Fl->L->H->Prop}
abbrev t_(ac o:ai)(z i t:Int)(x:Option V):SL:=[U<|.op<|.ref ac,U<|.op<|.ref o,U<|.int z .no,U<|.int i .no,U<|aL t,x.map .op]
theorem LA:a6 g<|t_ a o z i t x:=aB (aB<|aT tI<|aT tI<|gx<|bI bk)
set_option smartUnfolding false in
theorem aF7(e:h b=U (row s p t))(k: ∀a h',(∀k,cls k t->cls k a)->h' b=U (row s p a)->Fr h h' [b]->R .next (aq<|t_ l o z i (tv j)<|U<|.ref b) h'):cq (al I<|d+1) (Tg.x 5) FI (.ref b) (aq<|t_ l o z i (tv j) x) h R:=by
 have D:=Hd.of (g:=[(b,.ls [.int s .no,.int p .no,.int t .no])]) (Fa.ss e bj (bM tI<|bM tI<|bM tI aY) Fa.nl)
 cases j
 ·exact dA [] [] D LA (v:= .ref 0 b) ⟨_,rfl⟩ (.c (λc h' D _=>k 2 h' (λk=>OQ ae c) (D.am 0 b _ rfl) D.f)<|.c (λ_ c h' D _=>k 3 h' (λk=>Jl<|.inl c) (D.am 0 b _ rfl) D.f)<|.d λ_ _ h' D _=>k t h' (λk=>id) (D.am 0 b _ rfl) D.f)
 ·exact dA [] [] D LA (v:= .ref 0 b) ⟨_,rfl⟩ (.c (λc h' D _=>k 1 h' (λk=>OQ aa c) (D.am 0 b _ rfl) D.f)<|.c (λ_ c h' D _=>k 3 h' (λk=>Jl<|.inr c) (D.am 0 b _ rfl) D.f)<|.d λ_ _ h' D _=>k t h' (λk=>id) (D.am 0 b _ rfl) D.f)
theorem HU: ∀vs x h,(∀v∈vs,v∈l)->eR W j h P A l->(∀x h',eR W j h' P A l->Fx j h h' X->R .next (aq<|t_ u o z i (tv y) x) h')->
  du (cq (al I<|d+1) (Tg.x 5) FI) bP vs (aq<|t_ u o z i (tv y) x) h R
 |[],x,h,_,r,k=>⟨tI,k x h r ⟨λ_ _ _ e=>e,λ_ _ e _=> .inl e⟩⟩
 |v::vs,x,h,m,r,k=>⟨tI,(r.mem v<|m v<|.head _).elim λb w=>w.elim λs w=>w.elim λp w=>w.elim λt w=>w.elim λ_ w=>by
   exact w.1▸aF7 w.2.1 λq h' c e f=>⟨h',H.le_refl _,HU vs _ h' (λv g=>m v<|.tail _ g) (r.bar f w.2.1 e c) λx h2 r2 f2=>k x h2 r2<|(Fx.of f λa m=>b_.mp m▸⟨w.2.2.2,.inr ⟨_,_,w.2.1,v0,e,v0⟩⟩).tr f2⟩⟩
end
theorem Fx.kp(f:Fx a h h' X)(e:h b=U y)(n:b∉X)(k:kI y->False):h' b=U y:=(f.fx b y e n).elim id λw=>(k w.1).elim
theorem oB: ∀{l:List α} {i:Nat},ah l i=U x->x∈l
 |_::_,0,e=>by exact iK e (.head _)
 |_::l,i+1,e=> .tail _ (oB e)
theorem hI{a b:ai}(h:a≠b):a∉[b]:=λm=>h (b_.mp m)
section
variable{h0 h h':H}{R R1:List bm}
theorem Ax.nr(A:Ax W h0 h u l o j R a):kI (.list a)->False:=λw=>w.elim λs w=>w.elim λp w=>w.elim λt w=>A.Bw w
theorem Ax.no(A:Ax W h0 h u j o a R l):kI (.list<|vi<|a++aH W R)->False:=λw=>w.elim λs w=>w.elim λp w=>w.elim λt w=>DG A.qp w
theorem Ax.mv(A:Ax W h0 h l p o a R j)(f:Fx h0 h h' [o])(ho:h' o=U (.list<|vi<|a++aH W R1))(r:eR W h0 h' a.length R1 j)(g:fj R1)(ln:(aH W R1).length=(aH W R).length):Ax W h0 h' l p o a R1 j:=
 ⟨f.kp A.ha (hI<|bS A.ha A.ho nofun) λw=>w.elim λ_ w=>w.elim λ_ w=>w.elim nofun,f.kp A.hr (hI A.uw) A.nr,ho,r,A.p4,by rw[aC,ln,<-aC];exact A.ol,A.ll,g⟩
theorem zq.fx(A:Ax W h0 h u y o j R l)(T:zq W h0 h h' o a j R R1 l z i D p)(n0:h0 o=Y):Fx h0 h h' [o]:=
 (A.rw.mem _<|oB T.ea).elim λc w=>w.elim λs w=>w.elim λf w=>w.elim λt w=>w.elim λk w=>Fx.of T.fr λb m=>(bC.mp m).elim (λe=>by rw[e];exact⟨n0,.inl<|.head _⟩) λm=>by
  rw[b_.mp m]
  exact⟨T.na,.inr ⟨_,_,(aA h (show a=c by injection w.1)).trans w.2.1,v0,T.ha,v0⟩⟩
abbrev JE(ac ar o:ai)(rl os:List V):G:=[(ac,.aK 6<|uu ar),(ar,.list rl),(o,.list os)]
theorem Ax.fb(A:Ax W h0 h p j o a R l):Fa h (JE p j o l<|vi<|a++aH W R)<|JE p j o l<|vi<|a++aH W R:=
 Fa.is A.ha (b9 (bS A.ha A.hr nofun)<|b9 (bS A.ha A.ho nofun) bj) (dN<|kD rfl d2) (Fa.ls A.hr (b9 A.uw bj)<|Fa.ls A.ho bj Fa.nl)
theorem Ax.push{le:H.le h0 h}(A:Ax W h0 h D l o j R u)(na:h a=Y)(n0:h0 l=Y/\h0 o=Y)(e0:h' D=U (.aK 6<|b8<|uu l))(e1:h' l=U (.list<|u++[.ref a]))(e2:h' o=U (.list<|vi<|j++aH W (.mv z k::R)))(e3:h' a=U (row z (vi<|j++aH W R).length t))(c:cls k t)
  (f: ∀b y,h b=U y->b≠l->b≠o->h' b=U y) (ol:(j++aH W R).length<=2900) (ll:u.length<=50) (gd:fj<|.mv z k::R) (lo:(ib W<|.mv z k).length<=5):Ax W h0 h' D l o j (.mv z k::R) (u++[.ref a])/\Fx h0 h h' [l,o]:=
 have nr: ∀{b s p t},h b=U (row s p t)->h' b=U (row s p t):=λe=>f _ _ e (bS e A.hr λe=>A.nr ⟨_,_,_,e.symm⟩) (bS e A.ho λe=>A.no ⟨_,_,_,e.symm⟩)
 have g:=by
  cases q:h0 a with
  |none=>rfl
  |some y=>exact bR <|na.symm.trans (le a y q)
 ⟨⟨e0,e1,e2,.mv (A.rw.fr λb s t p _=>nr) g (e3.trans<|by rw[cQ,aC]) c,A.p4,by rw[pb,<-aX,aC];exact ak (gQ ol lo) dd,by rw[aC];exact ak (cL ll 1) dd,gd⟩,
  ⟨λb y e e'=>f b y e' (λq=>by rw[q,n0.1] at e;cases e) (λq=>by rw[q,n0.2] at e;cases e),λb y e n=> .inl<|f b y e (λq=>n<|q▸ .head _) λq=>n<|q▸ .tail _ (.head _)⟩⟩
end
theorem am0{W}{a}{R}{z}:vi (a++aH W R)++[V.int<|143+bN z -1]++vi (aO z<|bN z)=vi (a++aH W (.mv z .p::R)):=by
 rw[pb,<-aX,eE<|a++aH W R,aX]
 show _++(V.int (143+(bN z) -1)::vi (aO z<|bN z))=_++(V.int (143+(bN z)+0 -1)::vi (aO z<|bN z))
 rw[e7]
theorem ac5{W}{a}{R}{z}{h}:vi (a++aH W R)++[V.int<|143+(dl h -1)]=vi (a++aH W (.mv z (.r h aa)::R)):=by
 rw[pb,<-aX,eE<|a++aH W R]
 cases h <;>rfl
def rQ(W:Wt)(h0 h:H)(ac ar o:ai)(pre:List Int)(R:List bm)(rl:List V)(z:Int)(Q:V->H->Prop):Prop:= ∀h' R' rl',Ax W h0 h' ac ar o pre R' rl'->Fx h0 h h' [ar,o]->R'.map er= .mv z .p::R.map er->rl'.length=rl.length+1->(aH W R').length<=(aH W R).length+5->Q .none h'
section
variable{R:List bm}
theorem Pr{g}{a}{x}{h'}(D:Hd h [l,p,o] g h')(e:ah g 3=U (a,x))(lx:x.lv){j x1 x2}(e0:ah g 0=U (l,j))(e1:ah g 1=U (p,x1))(e2:ah g 2=U (o,x2))(l0:j.lv)(l1:x1.lv)(l2:x2.lv):h a=Y:=
 D.im e λm=>(bC.mp m).elim (D.ne e e0 lx l0 dd) λm=>(bC.mp m).elim (D.ne e e1 lx l1 dd) λm=>D.ne e e2 lx l2 dd (b_.mp m)
theorem IT{g}{h'}(A:Ax W p h a j o l R t)(D:Hd h [a,j,o] g h')(e:ah g 0=U (a,.aK 6<|uu j)): ∀b y,h b=U y->b≠j->b≠o->h' b=U y:=λb y w n1 n2=>
 Fr.cB D.f ((D.am 0 a _ e).trans A.ha.symm) b y w λm=>(bC.mp m).elim n1 λm=>n2 (b_.mp m)
theorem Ko{z}:(ib W<|.mv z .p).length<=5:=by
 show(aO z<|bN z).length+1<=5
 rw[cK];exact cg (lD z).2
set_option smartUnfolding false in
theorem aA9(A:Ax W l h p t o j R u)(le:H.le l h)(n0:l t=Y/\l o=Y)(ol:(j++aH W R).length<=2900)(ll:u.length<=50)(b: -2147483648<=z/\z <2147483648)(k:rQ W l h p t o j R u z Q):
  aZ I (al I<|d+2) Cs (aq [U<|.ref 0 p,U<|.ref 2 o,U<|.int z .no,U<|aL (-1),Y,Y]) h<|ie Q:=
 have lo:=by rw[cQ];exact ak ol dd
 gG [51] [.d (.op .none) [(2,.list<|vi<|j++aH W (.mv z .p::R))]] (Hd.of A.fb) (bG rfl<|bG rfl<|aT tI<|gx<|aD<|aD bk)
  (.c (c3<|ak lo dd) (.c (λa=>c3<|ak (cg ll) dd) (.c (λa=>⟨tI,λh Q D k=>MM (D.am 2 o _ rfl) lo λh' e f=>k h'<|D.go f<|dg rfl tI (e.trans<|by rw[am0]) tI d7⟩)
   (.d λa h' D _=>⟨h',H.le_refl _,have P:=A.push (le:=le) (Pr D rfl tI rfl rfl rfl tI tI tI) n0 (D.am 0 p _ rfl) (D.am 1 t _ rfl) (D.am 2 o _ rfl) (D.am 3 a _ rfl) (.inl rfl) (IT A D rfl) ol ll ⟨b,tI,A.gd⟩ Ko
    k h' _ _ P.1 P.2 rfl aC<|by rw[j_];exact eH Ko _⟩))))
set_option smartUnfolding false in
theorem aP2{t}{i}{x}(A:Ax W u h l p o j R y)(le:H.le u h)(n0:u p=Y/\u o=Y)(ol:(j++aH W R).length<=2900)(ll:y.length<=50)(b: -2147483648<=z/\z <2147483648)(rg:dO t R=z)(k:rQ W u h l p o j R y z Q):
  aZ I (al I<|d+2) O2 (aq<|t_ l o z i (tv t) x) h<|ie Q:=by
 have lo:(vi<|j++aH W R).length<=7000:=by rw[cQ];exact ak ol dd
 have l1:=c3 (ak lo dd)
 have l2:=c3 (ak (cg ll) dd)
 have l3:=c3 (ak (cg lo) dd)
 have kl:=(dd:1<=5)
 have gA: ∀a h',Hd h [l,p,o] [(l,.aK 6<|uu p),(p,.list<|y++[.ref a]),(o,.list<|vi (j++aH W R)++[V.int<|143+(dl t -1)]),(a,.list [.int z,.int (vi<|j++aH W R).length,.int<|tv t])] h'->ie Q .next [] h':=λa h' D=>⟨h',H.le_refl _,have P:=A.push (le:=le) (Pr D rfl tI rfl rfl rfl tI tI tI) n0 (D.am 0 l _ rfl) (D.am 1 p _ rfl) ((D.am 2 o _ rfl).trans<|by rw[ac5]) (D.am 3 a _ rfl) (k:= .r t aa) rfl (IT A D rfl) ol ll ⟨b,rg,A.gd⟩ kl
    k h' _ _ P.1 P.2 rfl aC<|by rw[j_];exact eH kl _⟩
 cases t
 ·exact gG (ρ:=[U<|.ref 0 l,U<|.ref 2 o,U<|.int z .no,U<|.int i .no,U<|aL 4,x.map .op]) [] [] (Hd.of A.fb) (bG rfl<|bG rfl<|aT tI<|aT tI<|gx<|bI bk) (.c l1<|.c (λ_=>l2)<|.c (λ_=>l3)<|.d λa h' D _=>gA a h' D)
 ·exact gG (ρ:=[U<|.ref 0 l,U<|.ref 2 o,U<|.int z .no,U<|.int i .no,U<|aL 5,x.map .op]) [] [] (Hd.of A.fb) (bG rfl<|bG rfl<|aT tI<|aT tI<|gx<|bI bk) (.c l1<|.c (λ_=>l2)<|.c (λ_=>l3)<|.d λa h' D _=>gA a h' D)
theorem rQ.mv{u}{j}(f:Fx p h u [t,o])(e:j.map er=R.map er)(l:(aH W j).length=(aH W R).length)(k:rQ W p h y t o a R D z Q):rQ W p u y t o a j D z Q:=λh' R' rl' A F e1 e2 e3=>k h' R' rl' A (f.tr F) (e1.trans<|aA _ e) e2 (l▸e3)
theorem Fx.sub{X Yqv}{j}(f:Fx l h j X)(s: ∀a∈X,a∈Yqv):Fx l h j Yqv:=⟨f.le,λb y e n=>f.fx b y e λm=>n<|s b m⟩
theorem Fx.pO{j}{X}(le:H.le a h)(f:Fx a h j X):H.le a j:=λb y e=>f.le b y e (le b y e)
theorem Fx.zb{a}{X}(l:H.le h a):Fx j h a X:=⟨λb y _ e=>l b y e,λb y e _=> .inl<|l b y e⟩
theorem VG{α}{x}{l:List α}{a b}(m:x∈cB l a b):x∈l:=aU2 (aU3 m)
theorem no0{a}:a∉([]:List ai):=λm=>dB m
theorem ak0{i}{D}{a}{p:Nat}(A:Ax W l h u y o j R t)(le:H.le l h)(n0:l y=Y/\l o=Y)(ol:(j++aH W R).length<=2900)(ll:t.length<=50)(b: -2147483648<=z/\z <2147483648)(rg:dO D R=z)(i0:0<=i/\i<=100)(ea:ah t i.toNat=U (.ref a))(ha:h a=U (row z p<|tv D))(k:rQ W l h u y o j R t z Q):
  aZ I (al I<|d+2) Cs [U<|.ref u,U<|.ref o,U<|.int z,U<|.int i,Y,Y] h<|ie Q:=
 have c:=az i0.2 dd
 iE (iV (ap rfl (bl (.L5 (gm (fH.mpr i0.1) (gg (jO (iL (iL (cI (ap rfl (.eQ A.ha rfl (ap rfl (.om A.hr i0.1 c ea (bl (.om ha dd dd rfl
  (bA (iC (W3 (qO (cI (ap rfl (.eQ A.ha rfl (eC (ap rfl (bl (.jg (bl (.HV A.hr (c3<|ak ll dd) (GO i0.1 dd) (.fN (HU (X:=[]) _ Y h (λv m=>VG m) A.rw λx h2 r2 f2=>
   aP2 (A.mv (f2.sub λ_ m=>dB m) (f2.kp A.ho no0 A.no) r2 A.gd rfl) (f2.pO le) n0 ol ll b rg<|k.mv (f2.sub λ_ m=>dB m) rfl rfl)))))))))))))))))))))))))))))))
theorem Vf(A:Ax W t h u y o j R D)(le:H.le t h)(n0:t y=Y/\t o=Y)(ol:(j++aH W R).length<=2900)(ll:D.length<=50)(c: -2147483648<=z/\z <2147483648)(k:rQ W t h u y o j R D z Q):al I (d+3) 58 [.ref u,.ref o,.int z] h Q:=
 e9 (fn:=QN) rfl rfl (jO (gD (ap rfl (.jA A.ha rfl rfl (ay (ap rfl (ay (ap rfl (aq6 A (λh1 i g a p R1 T=>
  have f1:=T.fx A n0.2
  have f:=A.mv f1 T.ho T.rw T.gd T.ln
  ak0 f (f1.pO le) n0 (by rw[aC,T.ln,<-aC];exact ol) ll c T.rg T.i0 T.ea T.ha<|k.mv (f1.sub λa m=> .tail _ m) T.er T.ln) λh1 l=>
  have f1:=Fx.zb l
  aA9 (A.mv f1 (l _ _ A.ho) (A.rw.fr λb _ _ _ _ e=>l b _ e) A.gd rfl) (f1.pO le) n0 ol ll c<|k.mv (Fx.zb l) rfl rfl)))))))))
end
structure Ad where
 pg:ai
 o:ai
 fd:ai
 ac:ai
 dn:ai
 ar:ai
 dr:ai
def Ad.l(x:Ad):List ai:=[x.pg,x.o,x.fd,x.ac,x.dn,x.ar,x.dr]
abbrev vW(x:Ad)(so a:SV)(hh vv fn:Int):List<|Nat×SV:=[(36,so),(37,a),(24,aL 2),(38,.int hh .no),(39,.int vv .no),(16,.int fn .no),(40,.op<|.ref x.ac),(41,.op<|.ref x.dn),(42,aL 0)]
abbrev mD(x:Ad)(hh vv fn:Int):List<|Nat×SV:=vW x (.op<|.ref x.o) (.op<|.ref x.fd) hh vv fn
theorem Av(a:aN g h)(b:aN g j):il g<|vW x h j o l fn:=c7 a (c7 b<|dN<|c7 tI<|c7 tI<|c7 tI<|dK<|dK<|dN d2)
abbrev dnO(x:Ad):List<|Nat×SV:=[(34,aL 157),(35,.op<|.ref x.dr)]
def ky(h:H)(rd:List V):Prop:=rd=[]\/ ∃a y,rd=[.ref a]/\h a=U y/\kI y
structure Pg(W:Wt)(h0 h:H)(x:Ad)(pre:List Int)(R:List bm)(rl rd:List V)(D:List Int)(hh vv fn:Int):Prop where
 hp:h x.pg=U (.aK 7<|b8<|mD x hh vv fn)
 hf:h x.fd=U (.dict<|D.map λn=>(n,W.v n))
 A:Ax W h0 h x.ac x.ar x.o pre R rl
 hd:h x.dn=U (.aK 6<|b8<|dnO x)
 hr:h x.dr=U (.list rd)
 rd:ky h rd
 nd:x.ar≠x.dr
 le:H.le h0 h
 n0: ∀a∈x.l,h0 a=Y
section
variable{W:Wt}{h0 h h':H}{x:Ad}{pre:List Int}{R R':List bm}{rl rl' rd:List V}{D:List Int}{hh vv fn:Int}
theorem ky.nr(r:ky h rd):kI (.list rd)->False:=λw=>w.elim λs w=>w.elim λp w=>w.elim λt w=>by
 injection w with w
 rcases r with e|⟨a,y,e,_⟩ <;>rw[e] at w <;>cases w
theorem ky.no(r:ky h rd){j}(l:4<=j.length)(e:O.list rd= .list (vi j)):False:=by
 injection e with e
 cases j with
 |nil=>cases l
 |cons i j=>rcases r with z|⟨a,y,z,_⟩ <;>rw[z] at e <;>cases e
theorem ky.mv(r:ky h rd)(f:Fx h0 h h' X)(n: ∀b∈X,∀y,h b=U y->kI y->False):ky h' rd:=r.elim .inl λw=> .inr (w.elim λa w=>w.elim λy w=>(f.fx a y w.2.1 λm=>n a m y w.2.1 w.2.2).elim (λe=>⟨a,y,w.1,e,w.2.2⟩) λe=>e.2.elim λc e=>⟨a,c,w.1,e⟩)
theorem AJ:kI (.aK c a)->False:=λw=>w.elim λ_ w=>w.elim λ_ w=>w.elim nofun
theorem Lg:kI (.dict a)->False:=λw=>w.elim λ_ w=>w.elim λ_ w=>w.elim nofun
theorem kE{a b c:ai}(h:a≠b)(k:a≠c):a∉[b,c]:=λm=>(bC.mp m).elim h λm=>k (b_.mp m)
theorem Pg.mv(P:Pg W h0 h x pre R rl rd D hh vv fn)(f:Fx h0 h h' [x.ar,x.o])(A:Ax W h0 h' x.ac x.ar x.o pre R' rl'):Pg W h0 h' x pre R' rl' rd D hh vv fn where
 hp:=f.kp P.hp (kE (bS P.hp P.A.hr nofun)<|bS P.hp P.A.ho nofun) AJ
 hf:=f.kp P.hf (kE (bS P.hf P.A.hr nofun)<|bS P.hf P.A.ho nofun) Lg
 A:=A
 hd:=f.kp P.hd (kE (bS P.hd P.A.hr nofun)<|bS P.hd P.A.ho nofun) AJ
 hr:=f.kp P.hr (kE (AY P.nd)<|bS P.hr P.A.ho<|P.rd.no P.A.qp) P.rd.nr
 rd:=P.rd.mv f λb m y e i=>(bC.mp m).elim (λq=>P.A.nr<|bL (e.symm.trans<|q▸P.A.hr)▸i) λm=>P.A.no (bL (e.symm.trans<|b_.mp m▸P.A.ho)▸i)
 nd:=P.nd
 le:=f.pO P.le
 n0:=P.n0
theorem Pg.na(P:Pg W h0 h x pre R rl rd D hh vv fn):h0 x.ar=Y/\h0 x.o=Y:=⟨P.n0 _<|.tail _<|.tail _<|.tail _<|.tail _<|.tail _<|.head _,P.n0 _<|.tail _<|.head _⟩
theorem Pg.set(P:Pg W h0 h x pre R rl rd D hh vv fn)(f:Fr h h' [x.pg])(e:h' x.pg=U (.aK 7<|b8<|mD x a b c)):Pg W h0 h' x pre R rl rd D a b c:=
 have k: ∀{b y},h b=U y->(y= .aK 7 (b8<|mD x hh vv fn)->False)->h' b=U y:=λe n=>f _ _ e (hI<|bS e P.hp n)
 have fx:=Fx.of f λa m=>⟨b_.mp m▸P.n0 _ (.head _),.inl m⟩
 have A:=P.A
 ⟨e,k P.hf nofun,⟨k A.ha nofun,k A.hr nofun,k A.ho nofun,A.rw.fr λb _ _ _ _ e=>k e nofun,A.p4,A.ol,A.ll,A.gd⟩,k P.hd nofun,k P.hr nofun,P.rd.mv fx λb m y e i=>AJ<|bL (e.symm.trans<|b_.mp m▸P.hp)▸i,P.nd,fx.pO P.le,P.n0⟩
end
def cR(a:Int):Prop:= -1073741823<=a/\a<=1073741823
theorem Mv(x:cR a)(y:cR b): -2147483648<=a -b/\a -b <2147483648:=⟨az dd<|xl x.1 y.2,g8 (xl x.2 y.1) dd⟩
theorem Nl(x:cR a)(k:Q (.int a) h):al I (d+1) 55 [.int a] h Q:=
 e9 (fn:=Ke) rfl rfl (iE<|iV<|eP<|ay<|ap rfl<|.Jj<|oA rfl<|.qe<|gm (λc=>absurd c<|fH.mpr<|by have:=x.1;have:=x.2;lia)<|gg<|bA<|mL<|ap rfl ⟨h,H.le_refl h,k⟩)
noncomputable def xL(a b:Int)(E:List bm):List bm:=if a=b then E else .mv (a -b) .p::E
noncomputable def qo(a b:Int)(E:List bm):List bm:=if a=b then E else .dn (a -b)::E
section
variable{R:List bm}{rl rd:List V}
theorem Pg.fa(P:Pg W o h x l R rl rd D j a fn):Hd h [x.pg] [(x.pg,.aK 7<|mD x j a fn)] h:=Hd.of (g:=[(x.pg,.aK 7<|mD x j a fn)]) (Fa.is P.hp bj (Av tI tI) Fa.nl)
set_option smartUnfolding false in
theorem ZS{S:Fl->L->H->Prop}(P:Pg W o h x j R rl rd D p l fn)(k: ∀ρ h',Pg W o h' x j R rl rd D a l fn->S .next ρ h'):aZ I (al I d) Ij [U<|.ref x.pg,U<|.int a] h S:=
 gG (n:=0) (ρ:=[U<|.ref 0 x.pg,U<|.int a .no]) [] [] P.fa (bG rfl<|aT tI bk) (.d λh' D _=>k _ h'<|P.set D.f<|D.am 0 x.pg _ rfl)
set_option smartUnfolding false in
theorem TU{S:Fl->L->H->Prop}(P:Pg W l h x j R rl rd D o p fn)(k: ∀ρ h',Pg W l h' x j R rl rd D o a fn->S .next ρ h'):aZ I (al I d) Px [U<|.ref x.pg,U<|.int a] h S:=
 gG (n:=0) (ρ:=[U<|.ref 0 x.pg,U<|.int a .no]) [] [] P.fa (bG rfl<|aT tI bk) (.d λh' D _=>k _ h'<|P.set D.f<|D.am 0 x.pg _ rfl)
theorem YX(P:Pg W p h x j R rl rd D l o fn)(ha:cR a)(hc:cR l)(ol:(j++aH W R).length<=2900)(ll:rl.length<=50)
  (k: ∀h' R' rl',Pg W p h' x j R' rl' rd D a o fn->R'.map er=xL a l (R.map er)->rl'.length<=rl.length+1->(aH W R').length<=(aH W R).length+5->Q .none h'):al I (d+4) 64 [.ref x.pg,.int a] h Q:=
 e9 (fn:=Ja) rfl rfl (bA (h_ (eN (ay (ap rfl (Nl ha (iE (iV (ap rfl (cI (ap rfl (.eQ P.hp rfl (.zE ⟨λn=>bA (h_ (gD (cI (ap rfl (.eQ P.hp rfl (.jA P.A.ha rfl rfl (ay (cI (ap rfl (.eQ P.hp rfl (ay (eC (ap rfl (cI (ap rfl (.eQ P.hp rfl (.vF (Vf P.A P.le P.na ol ll (Mv ha hc) λh2 R' rl' b F e l1 l2=>
  ZS (P.mv F b) λρ h3 P3=>⟨h3,H.le_refl _,k h3 R' rl' P3 (e.trans (aE n).symm) (jG l1) l2⟩)))))))))))))))))),
  λn=>have e:=GP.mp n
   gg ⟨h,H.le_refl h,k h R rl (e▸P) (aM e).symm (jm _)<|cm _ _⟩⟩)))))))))))))
end
section
variable{Q:V->H->Prop}
theorem Xv(e:h a=U (.aK 6 l))(e1:bc l 35=U (.ref j))(e2:h j=U (.list []))(k:Q (.int (-1)) h):al I (d+1) 59 [.ref a,v,z] h Q:=
 e9 (fn:=Gp) rfl rfl (jO<|oA rfl<|bA<|iC<|DK dd (λk=>eP<|ay<|cI<|ap rfl<|.eQ e e1<|bg<|.vY e2 (j7 _) k) ⟨tI,bA<|mL<|v2<|bl<|.rT ⟨h,H.le_refl h,k⟩⟩)
variable{h0 h':H}{R:List bm}
abbrev K5(x:Ad)(a b:SO):G:=[(x.dn,.aK 6 [(34,aL 157),(35,.ref 1 x.dr)]),(x.dr,a),(x.o,b)]
theorem Hz:(ib W<|.dn z).length<=5:=by
 show(aO z<|bN z).length+1<=5
 rw[cK];exact cg (lD z).2
theorem Pg.down(P:Pg W h0 h x j R u [] D o l fn)(f: ∀b y,h b=U y->b≠x.dr->b≠x.o->h' b=U y)(e1:h' x.dr=U (.list [.ref a]))(e2:h' x.o=U (.list<|vi<|j++aH W (.dn z::R)))(e3:h' a=U (row z p t))(ol:(j++aH W R).length<=2900)(c: -2147483648<=z/\z <2147483648):Pg W h0 h' x j (.dn z::R) u [.ref a] D o l fn:=
 have A:=P.A
 have k: ∀{b y},h b=U y->(y= .list []->False)->(y= .list (vi<|j++aH W R)->False)->h' b=U y:=λe n m=>f _ _ e (bS e P.hr n) (bS e A.ho m)
 have n1:=P.n0 x.dr (.tail _<|.tail _<|.tail _<|.tail _<|.tail _<|.tail _<|.head _)
 ⟨k P.hp nofun nofun,k P.hf nofun nofun,⟨k A.ha nofun nofun,f _ _ A.hr P.nd A.uw,e2,.skip rfl<|A.rw.fr λb s t p _ e=>k e nofun λe=>A.no ⟨_,_,_,e.symm⟩,A.p4,by rw[pb,<-aX,aC];exact ak (gQ ol Hz) dd,A.ll,⟨c,A.gd⟩⟩,k P.hd nofun nofun,e1,.inr ⟨a,_,rfl,e3,v0⟩,P.nd,
  λb y e=>f b y (P.le b y e) (λq=>by rw[q,n1] at e;cases e) (λq=>by rw[q,P.na.2] at e;cases e),P.n0⟩
set_option smartUnfolding false in
theorem SE(P:Pg W h0 h x j R p [] D o l fn)(ol:(j++aH W R).length<=2900)(c: -2147483648<=z/\z <2147483648)(k: ∀h' a,Pg W h0 h' x j (.dn z::R) p [.ref a] D o l fn->Q .none h'):al I (d+3) 58 [.ref x.dn,.ref x.o,.int z] h Q:=by
 have lo:(vi<|j++aH W R).length<=7000:=by rw[cQ];exact ak ol dd
 have f:Fa h (K5 x (.ls [])<|.list<|vi<|j++aH W R)<|K5 x (.ls [])<|.list<|vi<|j++aH W R:=Fa.is P.hd (b9 (bS P.hd P.hr nofun)<|b9 (bS P.hd P.A.ho nofun) bj) (dN<|kD rfl d2) (Fa.ss P.hr (b9 (bS P.hr P.A.ho<|P.rd.no P.A.qp) bj) aY<|Fa.ls P.A.ho bj Fa.nl)
 refine cf (vs:=[.ref 0 x.dn,.ref 2 x.o,.int z .no]) [51,59] [.d (aL (-1)) [],.d (.op .none) [(2,.list<|vi<|j++aH W (.dn z::R))]] (Hd.of f) (ij rfl<|ij rfl<|bM tI aY)
  (.c ⟨oH _,λh Q D k=>Xv (D.am 0 x.dn _ rfl) rfl (D.am 1 x.dr _ rfl)<|k h D⟩ (.c (c3<|ak lo dd) (.c (λa=>(dd:1<=1000000)) (.c (λa=>⟨tI,λh Q D k=>MM (D.am 2 x.o _ rfl) lo λh' e f=>k h'<|D.go f<|dg rfl tI (e.trans ?_) tI d7⟩)
   (.d λa h' D=>k h' a<|P.down (λb y w n1 n2=>Fr.cB D.f ((D.am 0 x.dn _ rfl).trans P.hd.symm) b y w<|kE n1 n2) (D.am 1 x.dr _ rfl) (D.am 2 x.o _ rfl) (D.am 3 a _ rfl) ol c)))))
 rw[pb,<-aX,eE<|j++aH W R,aX];rfl
theorem al1(P:Pg W h0 h x j R p rd D o l fn)(ha:cR a)(hc:cR l)(ol:(j++aH W R).length<=2900)(rk:rd=[]\/a=l)
  (k: ∀h' c,Pg W h0 h' x j (qo a l R) p c D o a fn->Q .none h'):al I (d+4) 65 [.ref x.pg,.int a] h Q:=by
 have z:a=l->Pg W h0 h x j (qo a l R) p rd D o a fn:=λe=>by unfold qo;rw[aM e,e];exact P
 refine e9 (fn:=IL) rfl rfl (bA<|h_<|eN<|ay<|ap rfl<|Nl ha<|iE<|iV<|ap rfl<|cI<|ap rfl<|.eQ P.hp rfl<|.zE ⟨λn=> ?_,λn=>gg ⟨h,H.le_refl h,k h _<|z<|GP.mp n⟩⟩)
 exact rk.elim (λe=>by
  subst e
  exact(bA (h_ (gD (cI (ap rfl (.eQ P.hp rfl (.jA P.hd rfl rfl (ay (cI (ap rfl (.eQ P.hp rfl (ay (eC (ap rfl (cI (ap rfl (.eQ P.hp rfl (.vF (SE (d:=d) P ol (Mv ha hc) λh2 b f=>
   TU f λρ h3 P3=>⟨h3,H.le_refl _,k h3 _ (show Pg W h0 h3 x j (if a=l then R else .dn (a -l)::R) p _ D o a fn by rw[aE n];exact P3)⟩)))))))))))))))))))) λe=>absurd e n
end
noncomputable def qD(n:Int)(D:List Int)(R:List bm):List bm:=if n∈D then R else .fd n::R
noncomputable def kt(n:Int)(D:List Int):List Int:=if n∈D then D else D++[n]
noncomputable def qq(n fn:Int)(R:List bm):List bm:=if n=fn then R else .fn n::R
section
variable{W:Wt}{R R':List bm}{rl rd:List V}
theorem Cp c:vi (a++aH W R)++vi (ib W c)=vi (a++aH W (c::R)):=by rw[pb,<-aX,eE<|a++aH W R]
theorem Dj{c}(l:(a++aH W R).length<=m)(e:(ib W c).length=k):(a++aH W (c::R)).length<=m+k:=by rw[pb,<-aX,aC,e];exact cL l k
theorem Pg.up(P:Pg W o h x j R rl rd D z u fn)(f:Fr h h' [x.pg,x.o,x.fd])(e0:h' x.pg=U (.aK 7<|b8<|mD x a b c))(e1:h' x.o=U (.list<|vi<|j++aH W R'))(e2:h' x.fd=U (.dict<|Q.map λn=>(n,W.v n)))(s: ∀{h},eR W o h j.length R rl->eR W o h j.length R' rl)(g:fj R')(ol:(j++aH W R').length<=3000):Pg W o h' x j R' rl rd Q a b c:=
 have A:=P.A
 have k: ∀{b y},h b=U y->(y= .aK 7 (b8<|mD x z u fn)->False)->(y= .list (vi<|j++aH W R)->False)->(y= .dict (D.map λn=>(n,W.v n))->False)->h' b=U y:=λe n m l=>f _ _ e λq=>(bC.mp q).elim (bS e P.hp n) (kE (bS e A.ho m)<|bS e P.hf l)
 have fx:=Fx.of f λa m=>⟨(bC.mp m).elim (λe=>e▸P.n0 _ (.head _)) λm=>(bC.mp m).elim (λe=>e▸P.na.2) λm=>b_.mp m▸P.n0 _ (.tail _<|.tail _<|.head _),.inl m⟩
 ⟨e0,e2,⟨k A.ha nofun nofun nofun,f _ _ A.hr λq=>(bC.mp q).elim (bS A.hr P.hp nofun)<|kE A.uw<|bS A.hr P.hf nofun,e1,s<|A.rw.fr λb s t p _ e=>k e nofun (λe=>A.no ⟨_,_,_,e.symm⟩) nofun,A.p4,ol,A.ll,g⟩,k P.hd nofun nofun nofun,f _ _ P.hr λq=>(bC.mp q).elim (bS P.hr P.hp nofun)<|kE (bS P.hr A.ho<|P.rd.no A.qp)<|bS P.hr P.hf nofun,
  P.rd.mv fx λb m y e i=>(bC.mp m).elim (λq=>AJ<|bL (e.symm.trans<|q▸P.hp)▸i) λm=>(bC.mp m).elim (λq=>A.no<|bL (e.symm.trans<|q▸A.ho)▸i) λm=>Lg<|bL (e.symm.trans<|b_.mp m▸P.hf)▸i,P.nd,fx.pO P.le,P.n0⟩
abbrev gP(x:Ad)(hh vv fn:Int)(os:List V)(ds:List<|Int×V):G:=[(x.pg,.aK 7<|vW x (.ref 1 x.o) (.ref 2 x.fd) hh vv fn),(x.o,.list os),(x.fd,.dict ds)]
theorem Pg.fp(P:Pg W o h x a R rl rd D l j fn):Fa h (gP x l j fn (vi<|a++aH W R)<|D.map λn=>(n,W.v n))<|gP x l j fn (vi<|a++aH W R)<|D.map λn=>(n,W.v n):=
 Fa.is P.hp (b9 (bS P.hp P.A.ho nofun)<|b9 (bS P.hp P.hf nofun) bj) (Av ⟨_,rfl⟩ ⟨_,rfl⟩) (Fa.ls P.A.ho (b9 (bS P.A.ho P.hf nofun) bj)<|Fa.di P.hf bj Fa.nl)
theorem BV: ∀{D:List Int} {m:Int},(m∈D->bw (D.map λn=>(n,W.v n)) m=U (W.v m))/\(m∉D->bw (D.map λn=>(n,W.v n)) m=Y):=λ{D}=>by
 induction D with
 |nil=>exact⟨nofun,λ_=>rfl⟩
 |cons n D ih=>
  intro m
  show(m∈n::D->(if n=m then U (W.v n) else _)=_)/\(m∉n::D->(if n=m then U (W.v n) else _)=_)
  by_cases e:n=m
  ·rw[aM e,e];exact⟨λ_=>rfl,λh=>absurd (.head _) h⟩
  ·rw[aE e];exact⟨λh=>ih.1<|(bC.mp h).elim (λq=>absurd q.symm e) id,λh=>ih.2 λm=>h<|.tail _ m⟩
theorem L2: ∀{D:List Int},n∉D->eX (D.map λn=>(n,W.v n)) n (W.v n)=(D++[n]).map λn=>(n,W.v n):=λ{D}=>by
 induction D with
 |nil=>exact λ_=>rfl
 |cons m D ih=>
  intro h
  show(if m=n then _ else(m,W.v m)::eX (D.map λn=>(n,W.v n)) n (W.v n))=_
  rw[aE λe:m=n=>h<|e▸ .head _,ih λm=>h<|.tail _ m];rfl
end
theorem ZT{v:V}(e:o=Y):o.getD v=v:=by rw[e];rfl
section
variable{R R':List bm}
theorem Oi:(ib W<|.fd n).length=18:=rfl
abbrev Ez(W:Wt)(n:Int):SV:= .op (W.v n)
abbrev wX(W:Wt)(h0:H)(x:Ad)(pre:List Int)(R:List bm)(rl rd:List V)(D:List Int)(hh vv fn n:Int)(Q:V->H->Prop):Prop:= ∀h',Pg W h0 h' x pre (qq n fn<|qD n D R) rl rd (kt n D) hh vv n->Q .none h'
theorem II(o:(a++aH W R).length<=2950)(P:Pg W j h x a R' l rd u t p fn)(f:Fr h h' [x.pg,x.o,x.fd])(e0:h' x.pg=U (.aK 7<|b8<|mD x t p n))(e1:h' x.o=U (.list<|vi (a++aH W R)++[V.int<|171+n]))(e2:h' x.fd=U (.dict<|D.map λn=>(n,W.v n)))(s: ∀{h},eR W j h a.length R' l->eR W j h a.length R l)(g:fj R):Pg W j h' x a (.fn n::R) l rd D t p n:=
 P.up f e0 (e1.trans<|by rw[<-Cp];rfl) e2 (λr=> .skip rfl<|s r) g (ak (Dj (k:=1) o rfl) dd)
set_option smartUnfolding false in
theorem aQ4(P:Pg W l h x a R p rd D o j fn)(b:n <64)(ol:(a++aH W R).length<=2900)(m:n∈D)(k:wX W l x a R p rd D o j fn n Q):al I (d+4) 66 [.ref x.pg,W.v n] h Q:=by
 unfold wX qD kt qq at k
 rw[aM m,aM m] at k
 refine cf (vs:=[.ref 0 x.pg,Ez W n]) [54] [.v<|Ez W n] (Hd.of P.fp) (ij rfl<|bE aY) (.c ⟨re<|BV.1 m,tI⟩<|.c (λc=>c rfl)<|.b (.b (.c (λ_ _ _=>c3<|by rw[cQ];exact ak (cg ol) dd)<|.d λ_ c _ h' D=> ?_)<|.d λ_ _ c=>(c b))<|.d λ_ c h' D=> ?_)
 ·have c: ¬n=fn:=c
  rw[aE c] at k
  exact k h' (II (ak ol dd) P D.f (D.am 0 x.pg _ rfl) (D.am 1 x.o _ rfl) (D.am 2 x.fd _ rfl) id P.A.gd)
 ·have e:n=fn:=GP.mp c
  rw[aM e] at k
  exact k h' (P.up D.f ((D.am 0 x.pg _ rfl).trans<|by rw[e];rfl) (D.am 1 x.o _ rfl) (D.am 2 x.fd _ rfl) id P.A.gd P.A.ol)
set_option smartUnfolding false in
theorem aH0(P:Pg W o h x a R t rd D p j fn)(b:n <64)(ol:(a++aH W R).length<=2900)(dl:D.length<=100)(n0:n.toNat<=100)(m:n∉D)(k:wX W o x a R t rd D p j fn n Q):al I (d+4) 66 [.ref x.pg,W.v n] h Q:=by
 have lo:(vi<|a++aH W R).length<=5000:=by rw[cQ];exact ak ol dd
 have o1:=Dj (c:= .fd n) ol Oi
 unfold wX qD kt qq at k
 rw[aE m,aE m] at k
 refine cf (vs:=[.ref 0 x.pg,Ez W n]) [54] [.v<|.op .none,.d (.op .none) [(1,.list<|vi<|a++aH W (.fd n::R))],.n] (Hd.of P.fp) (ij rfl<|bE aY) (.c ⟨ZT<|BV.2 m,tI⟩<|.c ⟨tI,λh Q D k=> ?_⟩<|.c (c3<|by rw[bO];exact ak dl dd)<|.b (.b (.c (λ_ _=>c3<|by rw[cQ];exact ak (cg o1) dd)<|.d λc _ h' D=> ?_)<|.d λ_ c=>(c b))<|.d λc h' D=> ?_)
 ·exact ON (az (eT b) dd) (az (bT.mpr<|eH n0 96) dd) (D.am 1 x.o _ rfl) lo λh' e f=>k h' (D.go f<|dg rfl tI (e.trans<|by rw[<-Cp];rfl) tI d7)
 ·have c: ¬n=fn:=c
  rw[aE c] at k
  exact k h' (II (ak o1 dd) P D.f (D.am 0 x.pg _ rfl) (D.am 1 x.o _ rfl) ((D.am 2 x.fd _ rfl).trans<|aA (λl=>U<|O.dict l)<|L2 m) (λr=> .skip rfl r) P.A.gd)
 ·have e:n=fn:=GP.mp c
  rw[aM e] at k
  exact k h' (P.up D.f ((D.am 0 x.pg _ rfl).trans<|by rw[e];rfl) (D.am 1 x.o _ rfl) ((D.am 2 x.fd _ rfl).trans<|aA (λl=>U<|O.dict l)<|L2 m) (λr=> .skip rfl r) P.A.gd<|ak o1 dd)
end
def Gb(n c a b hh vv fn:Int)(D:List Int)(E:List bm):List bm:= .ch c::qq n fn (qD n D<|qo b vv<|xL a hh E)
theorem Bo{p}{i:Decidable p}{R}{c}:(if p then R else c::R).map er=if p then R.map er else er c::R.map er:=by split <;>rfl
theorem V8{n fn}{R}:(qq n fn R).map er=qq n fn (R.map er):=Bo
theorem aw9{n}{D}{R}:(qD n D R).map er=qD n D (R.map er):=Bo
theorem ap0{a b}{R}:(qo a b R).map er=qo a b (R.map er):=Bo
theorem Fm{W}{p}{i:Decidable p}{R}{c}{k}(h:(ib W c).length<=k):(aH W (if p then R else c::R)).length<=(aH W R).length+k:=by
 split
 ·exact cm _ _
 ·rw[j_];exact eH h _
theorem vL{a}{W}{R j}{m k}(l:(a++aH W R).length<=m)(h:(aH W j).length<=(aH W R).length+k):(a++aH W j).length<=m+k:=by
 rw[aC] at l⊢
 exact ak (eH h _) (by rw[<-cH];exact cL l k)
theorem Hn{i}(x:cR i): ¬1073741823 <(i.natAbs:Int):=λc=>absurd c (fH.mpr<|by have:=x.1;have:=x.2;lia)
section
variable{W:Wt}{x:Ad}{R R':List bm}{rl rd:List V}{Q:V->H->Prop}
theorem Vc(P:Pg W l h x a R rl rd D o j fn)(b:n <64)(ol:(a++aH W R).length<=2900)(dl:D.length<=100)(n0:n.toNat<=100)(k:wX W l x a R rl rd D o j fn n Q):al I (d+4) 66 [.ref x.pg,W.v n] h Q:=
 if m:n∈D then aQ4 P b ol m k else aH0 P b ol dl n0 m k
abbrev JY(x:Ad)(hh vv fn:Int)(os:List V):G:=[(x.pg,.aK 7<|vW x (.ref 1 x.o) (.op<|.ref x.fd) hh vv fn),(x.o,.list os)]
set_option smartUnfolding false in
theorem Xb{T:Fl->L->H->Prop}(p:(W.f n).dE c)(k: ∀h',H.le h h'->T .next [U<|.ref x.pg,U<|W.v n,U<|.int c,U<|.int a,U<|.int b] h'):ex I (al I<|d+4) (.ite (.nt<|.me (.x 1) 15<|.cons (.x 2) .nil) Iu .nil) [U<|.ref x.pg,U<|W.v n,U<|.int c,U<|.int a,U<|.int b] h T:=
 gJ (ρ:=[U<|.op<|.ref x.pg,U<|.op<|W.v n,U<|.int c .no,U<|.int a .no,U<|.int b .no]) [] [.t] (Hd.of Fa.nl) (aB<|aB<|aT tI<|aT tI<|aT tI bk) (.c (Dl p)<|.d λh' D _=>k h'<|a9 D.f)
set_option smartUnfolding false in
theorem aE1{w}(P:Pg W u h x j R rl rd D t o fn)(ok:(W.f n).ok)(p:(W.f n).dE c)(ew:iY (W.f n) c=w)(dw:cR<|a+w.1)(ol:(j++aH W R).length<=2940)
  (k: ∀h',Pg W u h' x j (.ch c::R) rl rd D (a+w.1) o fn->Q .none h'):aZ I (al I<|d+4) HC [U<|.ref x.pg,U<|W.v n,U<|.int c,U<|.int a,U<|.int b] h<|ie Q:=by
 refine wq p λy l e g _=> ?_
 cases ew.symm.trans g
 have f:Fa h (JY x t o fn<|vi<|j++aH W R)<|JY x t o fn<|vi<|j++aH W R:=Fa.is P.hp (b9 (bS P.hp P.A.ho nofun) bj) (Av ⟨_,rfl⟩ tI) (Fa.ls P.A.ho bj Fa.nl)
 exact gG (ρ:=[U<|.ref 0 x.pg,U<|.op<|W.v n,U<|.int c<|.b 65 68,U<|.int a .no,U<|.int b .no]) [] [.v<|gv (W.f n).sz y l,.f] (Hd.of f) (bG rfl<|aB<|je p.1 (lE ok p)<|aT tI<|aT tI bk)
  (.c (c3<|by rw[cQ];exact ak (cg ol) dd)<|.c (nj e)<|.c (Hn dw)<|.d λh' D _=>⟨h',H.le_refl _,k h'<|P.up (λb y w m=>D.f b y w λq=>m<|(bC.mp q).elim (λe=>e▸ .head _) λq=>b_.mp q▸ .tail _ (.head _)) (D.am 0 x.pg _ rfl) ((D.am 1 x.o _ rfl).trans<|by rw[<-Cp];rfl) (D.f _ _ P.hf<|kE (bS P.hf P.hp nofun)<|bS P.hf P.A.ho nofun) (λr=> .skip rfl r) P.A.gd<|Nat.le_trans (Dj (k:=1) ol rfl) dd⟩)
theorem Ax.aG{p j o}(A:Ax W t h p j o a R rl)(l:H.le h h'):Ax W t h' p j o a R rl:=A.mv (Fx.zb l) (l _ _ A.ho) (A.rw.fr λ_ _ _ _ _ e=>l _ _ e) A.gd rfl
theorem Pg.aG(P:Pg W o h x a R rl rd D p j fn)(l:H.le h h'):Pg W o h' x a R rl rd D p j fn:=P.mv (Fx.zb l) (P.A.aG l)
structure L67(W:Wt)(n c a b hh vv:Int)(w:Int×Int×Int)(D:List Int)(rd:List V)(lo lr:Nat):Prop where
 ok:(W.f n).ok
 p:(W.f n).dE c
 ew:iY (W.f n) c=w
 da:cR a
 db:cR b
 dh:cR hh
 dv:cR vv
 dw:cR (a+w.1)
 n2:n<=2
 dl:D.length<=90
 ol:lo<=2850
 ll:lr<=50
 rk:rd=[]\/b=vv
theorem T1{w}(P:Pg W t h x j R rl rd D o l fn)(q:L67 W n c a b o l w D rd (j++aH W R).length rl.length)
  (k: ∀h' R' rl' e,Pg W t h' x j R' rl' e (kt n D) (a+w.1) b n->R'.map er=Gb n c a b o l fn D (R.map er)->rl'.length<=rl.length+1->(aH W R').length<=(aH W R).length+30->Q .none h'):al I (d+5) 67 [.ref x.pg,W.v n,.int c,.int a,.int b] h Q:=
 e9 (fn:=I7) rfl rfl (bA (Xb q.p λh1 l1=>
  have g:=P.aG l1
  bA (h_ (gD (ap rfl (.jA g.hp rfl rfl (ay (ap rfl (YX g q.da q.dh (ak q.ol dd) q.ll λh2 R1 f i e1 m1 m2=>
  have o1:=vL q.ol m2
  bA (h_ (gD (ap rfl (.jA i.hp rfl rfl (ay (ap rfl (al1 i q.db q.dv (ak o1 dd) q.rk λh3 e P3=>
  have m3:=Fm Hz
  have o2:=vL o1 m3
  bA (h_ (gD (ap rfl (.jA P3.hp rfl rfl (ay (ap rfl (Vc P3 (g8 q.n2 dd) (ak o2 dd) (ak q.dl dd) (ak (uW.mpr q.n2) dd) λh4 p=>
  have m4:=Fm (jG Oi)
  have m5:=Fm (dP 1)
  aE1 p q.ok q.p q.ew q.dw (ak (vL (vL o2 m4) m5) dd) λs u=>k s _ f e u (by rw[kO,V8,aw9,ap0,e1];rfl) m1 (by
   rw[j_]
   exact ak (cL (ak m5<|cL (ak m4<|cL (ak m3<|cL m2 5) 18) 1) 1)<|dP _))))))))))))))))))))))))
end
section
theorem nN{ρ:L}(hx:ah ρ i=U (U<|.int a))(c:I.gF k=U (.int b))(q:(a=b->T h)/\(¬a=b->F h)):(ao I C (.eY .eq (.x i)<|.g k) ρ).t h T F:=iV (ap hx<|oA c<|.Mk q)
theorem TZ{ρ:L}(hx:ah ρ 7=U (U<|.int 5))(k:T (.ret<|.fl []) ρ h):aZ I (al I d) (.cons (.ite (.or (.eY .eq (.x 7)<|.g 21)<|.eY .eq (.x 7)<|.g 22) MQ P8) EF) ρ h T:=
 (iE<|vJ<|nN hx rfl<|gm dd<|nN hx rfl<|gm dd<|iE<|vJ<|nN hx rfl<|gm dd<|nN hx rfl<|gm dd<|iE<|nN hx rfl<|gm dd<|iE<|vJ<|nN hx rfl<|gm dd<|Mn<|nN hx rfl<|gm dd<|iE<|iV<|ap hx<|oA rfl<|.ao0 (l:=[5,6,7,9,10,11,12])<|gm (λq=>q dd)<|gg<|gg<|gg<|gg<|gg<|bA<|mL<|w4<|bg k)
structure k3 where
 hh:Int
 vv:Int
 fn:Int
 D:List Int
 E:List bm
noncomputable def iO(bY a:Int)(q:Pp)(s:k3):k3:=match q.p with
 |.kn _=>s
 |.lt c=>⟨a+q.wd,bY,q.f.n,kt q.f.n s.D,Gb q.f.n c a bY s.hh s.vv s.fn s.D s.E⟩
structure kx(W:Wt)(q:Pp):Prop where
 ok:q.ok
 n1:1<=q.f.n
 n2:q.f.n<=2
 f:q.f=W.f q.f.n
 a:q.a=W.a q.f.n
structure i_(W:Wt)(h0 h:H)(x:Ad)(pre:List Int)(bY:Int)(s:k3)(lo lr:Nat):Prop where
 w: ∃R rl rd,Pg W h0 h x pre R rl rd s.D s.hh s.vv s.fn/\R.map er=s.E/\(rd=[]\/bY=s.vv)/\(pre++aH W R).length<=lo/\rl.length<=lr
theorem i_.aG(P:i_ W p h x j a s t o)(l:H.le h h'):i_ W p h' x j a s t o:=⟨P.w.elim λR w=>w.elim λrl w=>w.elim λrd w=>⟨R,rl,rd,w.1.aG l,w.2⟩⟩
theorem i_.hp(P:i_ W o h x j a s p l):h x.pg=U (.aK 7<|b8<|mD x s.hh s.vv s.fn):=P.w.elim λ_ w=>w.elim λ_ w=>w.elim λ_ w=>w.1.hp
structure wc(bY a:Int)(q:Pp)(s:k3)(lo lr:Nat):Prop where
 da:cR a
 db:cR bY
 dh:cR s.hh
 dv:cR s.vv
 dw:cR (a+q.wd)
 dl:s.D.length<=90
 ol:lo<=2850
 ll:lr<=50
theorem Mb{z A:ai}(P:i_ W X h x u j s D y)(o:kx W q)(ep:q.p= .lt c)(l:wc j a q s D y)(e1:bc t 16=U (W.v q.f.n))(e2:bc t 17=U (.int c))(k: ∀h',i_ W X h' x u j (iO j a q s) (D+30) (y+1)->Q (.fl []) h'):
  aZ I (al I<|d+5) (.cons (.expr<|.me (.x 0) 19<|.cons (.at (.x 5) 16)<|.cons (.at (.x 5) 17)<|.cons (.x 6)<|.cons (.x 4) .nil) .nil) [U<|.ref x.pg,U bv,U<|.aj [.fz A z t,.int n,.int n2],U<|.int left,U<|.int j,U<|.fz A z t,U<|.int a,U<|.int b,Y,Y,Y,Y,Y] h<|oh (al I<|d+5) EF<|ie Q:=
 P.w.elim λR w=>w.elim λrl w=>w.elim λrd w=>
 have p:nf q.f<|.lt c:=ep▸o.ok.p
 have p:=o.f▸p
 have ew:q.wd=(iY (W.f q.f.n) c).1:=(aA (λp=>(pw q.f p).1) ep).trans (aA (λf=>(iY f c).1) o.f)
 (bA (h_ (gD (ap rfl (.jA w.1.hp rfl rfl (ay (cI (ap rfl (.iG e1 (ay (cI (ap rfl (.iG e2 (ay (ap rfl (ay (ap rfl (T1 w.1 ⟨o.f▸o.ok.f,p,rfl,l.da,l.db,l.dh,l.dv,ew▸l.dw,o.n2,l.dl,ak w.2.2.2.1 l.ol,ak w.2.2.2.2 l.ll,w.2.2.1⟩ λh' R' rl' g i e m1 m2=>
  bA (mL (w4 (bg ⟨h',H.le_refl _,k h' (by
   unfold iO
   exact ep▸ew▸⟨R',rl',g,i,e.trans (by rw[w.2.1]),.inr rfl,vL w.2.2.2.1 m2,ak m1<|cL w.2.2.2.2 1⟩)⟩)))))))))))))))))))))
end
section
theorem i_.wk(P:i_ W p h x j a s u l)(l1:u<=o)(l2:l<=t):i_ W p h x j a s o t:=⟨P.w.elim λR w=>w.elim λrl w=>w.elim λrd w=>⟨R,rl,rd,w.1,w.2.1,w.2.2.1,ak w.2.2.2.1 l1,ak w.2.2.2.2 l2⟩⟩
abbrev Im(W:Wt)(h0:H)(x:Ad)(pre:List Int)(bY a:Int)(q:Pp)(s:k3)(lo b:Nat)(Q:V->H->Prop):Prop:= ∀h',i_ W h0 h' x pre bY (iO bY a q s) (lo+30) (b+1)->Q (.fl []) h'
abbrev QO(x:Ad)(b:V)(row:V)(left bY:Int)(v:V)(a:Int):L:=[U<|.ref x.pg,U b,U row,U<|.int left,U<|.int bY,U v,U<|.int a,Y,Y,Y,Y,Y,Y]
theorem ag6(P:i_ W z h x t j s y u)(o:kx W q)(i:fu (q.f.v q.a) v q.p)(l:wc j a q s y u)(k:Im W z x t j a q s y u Q):aZ I (al I<|d+5) Fs (QO x D (.aj [v,.int n,.int A]) left j v a) h<|ie Q:=
 have ev:=(aA (Fd.v q.f) o.a).trans (aA (λf=>Fd.v f<|W.a q.f.n) o.f)
 fu.casesOn (motive:=λv p _=>q.p=p->aZ I (al I<|d+5) Fs (QO x D (.aj [v,.int n,.int A]) left j v a) h (ie Q)) i
  (λb c ep=>jO<|cI<|ap rfl<|.zj rfl rfl<|iE<|vJ<|nN rfl rfl<|EE rfl<|Mb P o ep l (aA U ev) rfl k)
  (λb c ps l1 r1 ep=>jO<|cI<|ap rfl<|.zj rfl rfl<|iE<|vJ<|nN rfl rfl<|gm dd<|nN rfl rfl<|EE rfl<|Mb P o ep l (aA U ev) rfl k)
  (λb w ep=>jO (cI (ap rfl (.zj rfl rfl (TZ rfl ⟨h,H.le_refl h,k h (by
   unfold iO
   exact ep▸P.wk (cm _ _) (cm _ _))⟩))))) rfl
set_option smartUnfolding false in
theorem af8(P:i_ W u h x j a s t p)(o:kx W q)(i:fu (q.f.v q.a) v q.p)(l:wc a (left+n) q s t p)(k:Im W u x j a (left+n) q s t p Q):al I (d+6) 69 [.ref x.pg,z,.aj [v,.int n,.int y],.int left,.int a] h Q:=
 e9 (fn:=K9) rfl rfl (bA (gJ (ρ:=[U<|.op<|.ref x.pg,U<|.op z,U<|.aj [.op v,.int n .no,.int y .no],U<|.int left .no,U<|.int a .no,Y,Y,Y,Y,Y,Y,Y,Y]) [] [] (Hd.of Fa.nl) (aB<|aB<|aT (dW<|bE<|bM tI<|bM tI aY)<|aT tI<|aT tI<|aD<|aD<|aD<|aD<|aD<|aD<|aD<|aD bk)
  (.d λh' D _=>ag6 (P.aG<|a9 D.f) o i l k)))
end
noncomputable def mQ(bY left:Int):Int->List Pp->k3->k3
 |_,[],s=>s
 |n,q::qs,s=>mQ bY left (n+q.wd) qs (iO bY (left+n) q s)
noncomputable def qK(bY left:Int):Int->List Pp->k3->Nat->Nat->Prop
 |_,[],_,_,_=>True
 |n,q::qs,s,lo,lr=>wc bY (left+n) q s lo lr/\qK bY left (n+q.wd) qs (iO bY (left+n) q s) (lo+30) (lr+1)
abbrev KB(x:Ad)(b:V)(left bY a:Int)(x7 x8:Option V):L:=[U<|.ref x.pg,U b,U<|.int left,U<|.int bY,U<|.int 0,U<|.int a,U<|.bool ae,x7,x8,Y,Y,Y,Y,Y,Y]
section
theorem TC(i:d8 vs j): ∀n s lo b x7 x8 h,(∀q∈j,kx W q)->qK a left n j s lo b->i_ W t h x p a s lo b->
  (∀x7 x8 h',i_ W t h' x p a (mQ a left n j s) (lo+30*j.length) (b+j.length)->T .next (KB x u left a l x7 x8) h')->
  du (cq (al I<|d+6) (Tg.x 7) Of) bP (ql n vs j) (KB x u left a l x7 x8) h T:=by
 induction i with
 |nil=>exact λn s lo b x7 x8 h _ _ P k=>⟨tI,k x7 x8 h P⟩
 | @cons v vs q j i o _ ih=>exact λn s lo b x7 x8 h ok r P k=>⟨tI,(eI (iE (t_x (ap rfl (EA (jO (eN (ay (ap rfl (ay (ap rfl (ay (ap rfl (ay (ap rfl (ay (ap rfl (af8 P (ok q<|.head _) i r.1 λh1 e=>
   gg (bA (iC (jQ (ap rfl (.fN ⟨tI,gg ⟨h1,H.le_refl _,ih _ _ _ _ _ _ h1 (λq m=>ok q<|.tail _ m) r.2 e λx7 x8 h2 c=>k x7 x8 h2 (by
    have e1:lo+30+30*j.length=lo+30*(q::j).length:=by rw[eU,pC,cH,c5 30]
    have e2:b+1+j.length=b+(q::j).length:=by rw[eU,cH,c5 1]
    rw[e1,e2] at c;exact c)⟩⟩)))))))))))))))))))))))⟩
end
theorem XR{g:G}{ρ:SL}(e:ah ρ 0=U (U<|.ref i w))(ei:ah g i=U (w,.aK c l))(p:bc (b8 l) f=U (.ref a))(ej:ah g j=U (a,.list<|W++[den x]))(hW:W.length<=100)(ox:aN g x):
  v7 d hb B n (.me (.at (.x 0) f) 1 .nil) ρ g x [(j,.list W)]:=
 ⟨ox,λh Q D k=>gD<|cI<|ap (sq e)<|.eQ (D.am i _ _ ei) p<|.qj (D.am j _ _ ej) rfl<|bg<|.Cd (D.am j _ _ ej) (cC hW)<|k _<|D.go (λb o e n=>(H.jN λq=>n<|by unfold jq;rw[kO];dsimp only;rw[ej,q];exact .head _).trans e)<|dg ej tI (H.kM ..) tI d7⟩
noncomputable abbrev QU(ac ar a:ai)(b:Int)(l:List V)(s p t:Int):G:=[(ac,.aK 6 [(34,.int b .no),(35,.ref 1 ar)]),(ar,.list l),(a,.ls [.int s .no,.int p .no,.int t .no])]
def vA(h:H)(l:List V):Prop:= ∀v∈l,∃a s p t,v= .ref a/\h a=U (row s p t)
theorem JU(r:vA h l)(e:O.list l=row s p t):False:=by
 injection e with e
 obtain⟨_,_,_,_,q,_⟩:=r (.int s) (e▸ .head _)
 cases q
section
abbrev WD(d m:Nat)(ρ:L)(h:H)(P:Fl->L->H->Prop):Prop:=iZ (λρ h a F=>(ao I (al I<|d+1) (.an (.eY .gt (.bi .len<|.cons (.at (.x 0) 35) .nil)<|.c<|.int 0)<|.eY .ge (.ix (.ix (.at (.x 0) 35)<|.neg<|.c<|.int 1)<|.c<|.int 1)<|.x 1) ρ).t h a F) (λρ h Q=>aZ I (al I<|d+1) Mu ρ h Q) m ρ h P
noncomputable abbrev Oy(ac:ai)(a:Int):SL:=[U<|.ref 0 ac,U<|.int a .no]
theorem Fr.XX(f:Fr h h' [a,b,c])(e:h' a=h a)(e':h' c=h c):Fr h h' [b]:=λx y m n=>by
 by_cases q:x=c
 ·rw[q] at m⊢;exact e'.trans m
 ·exact Fr.cB f e x y m λz=>(bC.mp z).elim (λz=>n<|z▸ .head _) λz=>q (b_.mp z)
set_option smartUnfolding false in
theorem XW: ∀m l h,l.length=m->m<=90->vA h l->h o=U (.aK 6 [(34,.int u),(35,.ref j)])->h j=U (.list l)->(∀h' l',Fr h h' [j]->h' j=U (.list l')->P .next (aq<|Oy o y) h')->WD d (m+1) (aq<|Oy o y) h P:=λm=>by
 induction m with
 |zero=>
  intro l h e _ _ ea er k
  cases l with
  |cons _ _=>cases e
  |nil=>
   exact fL [] [.n,.f] (Hd.of (g:=[(o,.aK 6 [(34,.int u .no),(35,.ref 1 j)]),(j,.list [])])<|Fa.is ea (b9 (bS ea er nofun) bj) (c7 tI<|kD rfl d2)<|Fa.ls er bj Fa.nl) (bG rfl<|aT tI bk)
    (.c (j7 _)<|.c (dd: ¬(0:Int) <0)<|.d λh' D _=>k h' [] (Fr.cB D.f<|(D.am 0 o _ rfl).trans ea.symm)<|D.am 1 j _ rfl)
 |succ m ih=>
  intro l h e m9 r ea er k
  rcases List.eq_nil_or_concat l with q|⟨l',v,q⟩
  ·rw[q] at e;cases e
  ·rw[List.concat_eq_append] at q
   subst q
   have el:=e
   rw[aC] at e
   have em:l'.length=m:=pH e
   have pos:(0) <((l'++[v]).length:Int):=by rw[el];exact mo.mpr (sV m)
   obtain⟨a,s,p,t,rfl,ew⟩:=r v (GQ _<|.head _)
   have D:=Hd.of (g:=QU o j a u (l'++[.ref a]) s p t) (Fa.is ea (b9 (bS ea er nofun)<|b9 (bS ea ew nofun) bj) (c7 tI<|kD rfl d2)<|Fa.ls er (b9 (bS er ew<|JU r) bj)<|Fa.ss ew bj (bM tI<|bM tI<|bM tI aY) Fa.nl)
   have f: ∀{h' l2},Hd h [o,j,a] (QU o j a u l2 s p t) h'->Fr h h' [j]:=λD=>Fr.XX D.f ((D.am 0 o _ rfl).trans ea.symm) ((D.am 2 a _ rfl).trans ew.symm)
   have l9:l'.length<=100:=em▸ak (jm m) (ak m9 dd)
   exact fL [] [.n,.t,.v<|.ref 2 a,.d (.ref 2 a) [(1,.list l')]] D (bG rfl<|aT tI bk)
    (.c (cC<|el▸ak m9 dd)<|.c pos<|.c ⟨⟨_,rfl⟩,_,rfl⟩<|.b (.c (λ_=>XR rfl rfl rfl rfl l9 ⟨_,rfl⟩)<|.d λ_ h' D _=>⟨h',H.le_refl _,ih l' h' em (mr m9) (λv m=>(r v<|List.mem_append_left _ m).elim λb w=>w.elim λs w=>w.elim λp w=>w.elim λt w=>⟨b,s,p,t,w.1,f D b _ w.2<|hI<|bS w.2 er λe=>JU r e.symm⟩) (D.am 0 o _ rfl) (D.am 1 j _ rfl) λh2 l2 f2 e2=>k h2 l2 (Fr.tr (f D) f2) e2⟩)<|.d λ_ h' D _=>k h' _ (f D)<|D.am 1 j _ rfl)
theorem Lu{Q:V->H->Prop}(l9:l.length<=90)(r:vA h l)(ea:h j=U (.aK 6 [(34,.int p),(35,.ref a)]))(er:h a=U (.list l))(k: ∀h' l',Fr h h' [a]->h' a=U (.list l')->Q .none h'):al I (d+2) 57 [.ref j,.int o] h Q:=
 e9 (fn:=MD) rfl rfl (bA<|uJ<|XW l.length l h rfl l9 r ea er λh' l' f e=>gg ⟨h',H.le_refl _,k h' l' f e⟩)
end
section
variable{R:List bm}
structure Dy(W:Wt)(h0 h:H)(x:Ad)(pre:List Int)(R:List bm)(D:List Int):Prop where
 hp: ∃hh vv fn,h x.pg=U (.aK 7<|b8<|mD x hh vv fn)
 ho:h x.o=U (.list<|vi<|pre++aH W R)
 hf:h x.fd=U (.dict<|D.map λn=>(n,W.v n))
 le:H.le h0 h
 gd:fj R
theorem ky.cF(r:ky h rd):vA h rd:=λv m=>r.elim (λe=>dB <|e▸m) λw=>w.elim λa w=>w.elim λy w=>w.2.2.elim λs q=>q.elim λp q=>q.elim λt q=>⟨a,s,p,t,b_.mp<|w.1▸m,q▸w.2.1⟩
theorem eR.cF(r:eR W j h P R a):vA h a:=λv m=>(r.mem v m).elim λb w=>w.elim λs w=>w.elim λp w=>w.elim λt w=>w.elim λ_ w=>⟨b,s,p,t,w.1,w.2.1⟩
theorem ky.len(r:ky h rd):rd.length<=90:=r.elim (λe=>e▸j7 _) λw=>w.elim λa w=>w.elim λy w=>w.1▸(dd:1<=90)
theorem ak9(P:Pg W o h x j R l rd D t u fn)(k: ∀h',Dy W o h' x j R D->Q .none h'):al I (d+3) 63 [.ref x.pg,.int p,.int 0] h Q:=
 have A:=P.A
 (e9 (fn:=Kx) rfl rfl (bA (h_ (gD (cI (ap rfl (.eQ P.hp rfl (.jA A.ha rfl rfl (ay (ap rfl (Lu (ak A.ll dd) A.rw.cF A.ha A.hr λh1 l1 f1 e1=>
  have n1: ∀{b y},h b=U y->(y= .list l->False)->h1 b=U y:=λe n=>f1 _ _ e (hI<|bS e A.hr n)
  have c:=n1 P.hp nofun
  have f:=f1 _ _ P.hr (hI<|AY P.nd)
  have rd1:ky h1 rd:=P.rd.elim .inl λw=> .inr (w.elim λa w=>w.elim λy w=>⟨a,y,w.1,n1 w.2.1 λe=>A.nr<|e▸w.2.2,w.2.2⟩)
  bA (h_ (gD (cI (ap rfl (.eQ c rfl (.jA (n1 P.hd nofun) rfl rfl (ay (ap rfl (Lu rd1.len rd1.cF (n1 P.hd nofun) f λh2 l2 f2 e2=>
  have n2: ∀{b y},h1 b=U y->(y= .list rd->False)->h2 b=U y:=λe n=>f2 _ _ e (hI<|bS e f n)
  have ho:=n2 (f1 _ _ A.ho<|hI<|AY A.uw) λe=>P.rd.no A.qp e.symm
  have f0:=Fx.of f1 λa m=>⟨b_.mp m▸P.na.1,.inl m⟩
  iE<|Mn<|iV<|ap rfl<|bl<|.qe<|gm dd<|iE<|iV<|ap rfl<|bl<|.qe<|gm dd<|gg<|gg<|gg ⟨h2,H.le_refl _,k h2 ⟨⟨_,_,_,n2 c nofun⟩,ho,n2 (n1 P.hf nofun) nofun,(Fx.of f2 λa m=>⟨b_.mp m▸P.n0 _ (.tail _<|.tail _<|.tail _<|.tail _<|.tail _<|.tail _<|.head _),.inl m⟩).pO<|f0.pO P.le,A.gd⟩⟩))))))))))))))))))))
theorem aa9(P:Pg W o h x a R l rd D p j fn)(k: ∀i,Q (.int i) h):al I (d+1) 62 [.ref x.pg,.int 0] h Q:=
 (e9 (fn:=NC) rfl rfl<|iE<|iV<|ap rfl<|cI<|ap rfl<|.eQ P.hp rfl<|.qe<|gm dd<|gg<|iE<|iV<|ap rfl<|bl<|.qe<|gm dd<|gg<|bA<|mL<|eP<|ay<|cI<|ap rfl<|.eQ P.hp rfl<|bg<|.vY P.A.ho (c3<|by rw[cQ];exact ak P.A.ol dd) ⟨h,H.le_refl h,k _⟩)
end
section
set_option smartUnfolding false in
theorem ab8{T:Fl->L->H->Prop}(k: ∀h',H.le h h'->T .next [U p,U<|.fz a 4<|f_ z j l vs,U o,U y,U u,U<|.int t,U<|.bool ae,Y,Y,Y,Y,Y,Y,Y,Y] h'):
  ex I (al I<|d+6) (.af (.x 6)<|.eY .eq (.at (.x 1) 21)<|.g 17) [U p,U<|.fz a 4<|f_ z j l vs,U o,U y,U u,U<|.int t,Y,Y,Y,Y,Y,Y,Y,Y,Y] h T:=
 gJ (ρ:=[U<|.op p,U<|gT a z j l vs,U<|.op o,U<|.op y,U<|.op u,U<|.int t .no,Y,Y,Y,Y,Y,Y,Y,Y,Y]) [] [.f] (Hd.of Fa.nl) (aB<|aB<|aB<|aB<|aB<|aT tI<|aD<|aD<|aD<|aD<|aD<|aD<|aD<|aD<|aD bk) (.c (dd: ¬(2:Int)=3)<|.d λh' D _=>k h'<|a9 D.f)
theorem Vd(P:i_ W u h x o j s p t)(i:d8 vs l)(hl:l.length<=16)(ok: ∀q∈l,kx W q)(r:qK j left 0 l s p t)(k: ∀h' R,Dy W u h' x o R (mQ j left 0 l s).D->R.map er=(mQ j left 0 l s).E->(o++aH W R).length<=p+30*l.length->Q .none h'):
  al I (d+7) 70 [.ref x.pg,.fz a 4<|f_ A y z vs,.int left,.int j,.int 0] h Q:=
 P.w.elim λR w=>w.elim λrl w=>w.elim λrd w=>
 (e9 (fn:=JA) rfl rfl (jO (gD (ap rfl (.jA P.hp rfl rfl (ay (ap rfl (aa9 w.1 λc=>bA (ab8 λh1 l1=>
  bA (iC (Ou (eN (ay (ap rfl (aR2 i hl λh2 l2=> .fN (TC i 0 s p t Y Y h2 ok r ((P.aG l1).aG l2) λx7 x8 h3 P3=>
   P3.w.elim λe w3=>w3.elim λb w3=>w3.elim λf w3=>
   bA<|h_<|gD<|ap rfl<|.jA P3.hp rfl rfl<|ay<|ap rfl<|ay<|ap rfl<|ak9 w3.1 λh4 E=>gg ⟨h4,H.le_refl _,k h4 e E w3.2.1 w3.2.2.2.1⟩))))))))))))))))
end
noncomputable def tk:Nat->Ss->Ss
 |n+1,.cons s r=> .cons s (tk n r)
 |_,_=> .nil
noncomputable def dp:Nat->Ss->Ss
 |n+1,.cons _ r=>dp n r
 |_,b=>b
def PO(d:Nat)(hb:H)(B:List ai)(F:SF->SL->G->Prop)(Z:cZ)(r:TS)(q b:Ss):Prop:= ∀ρ g h K P,Hd hb B g h->a6 g ρ->au d hb B F (r ρ g K)->Kf d hb B F g K (oh Z q P)->aZ I Z b (aq ρ) h P
theorem My:PO d hb B F Z (λρ g K=>K .next ρ g) b b:=λρ g h _ _ D o t z=>z g h ρ .next (G.le_refl g) D o tI t
theorem WB(a:jf d hb B F j<|ex I Z x)(b:PO d hb B F Z h q y):PO d hb B F Z (λρ g K=>j ρ g λf ρ g=>match f with|.next=>h ρ g K|f=>K f ρ g) q<|.cons x y:=
 λ_ _ _ _ _ D o t z=>a _ _ _ _ _ D o t λg1 h1 c f l1 D1 o1 of t=>by
  cases f
  ·exact b _ _ _ _ _ D1 o1 t (z.up l1)
  ·exact z g1 h1 c .brk l1 D1 o1 tI t
  ·exact z g1 h1 c .cont l1 D1 o1 tI t
  ·exact z g1 h1 c (.ret v) l1 D1 o1 of t
theorem YD(c:pY d hb B F C<|al I<|d+n) m b:PO d hb B F (al I<|d+n) (rS C n<|.tr<|tk m b) (dp m b) b:=by
 induction m generalizing b with
 |zero=>exact My
 |succ m ih=>
  cases b
  ·exact My
  ·exact(WB (uG c _) (ih _):)
theorem j1 m stop hs(D:Hd hb B g h)(o:a6 g ρ)(k:dH (lf d hb B (FP hb B<|oh (al I<|d+n) (dp m b) P) (rS (rC stop n) n (.tr<|tk m b) ρ g .done) hs) []):aZ I (al I<|d+n) b (aq ρ) h P:=
 YD (nB stop n) m b _ _ _ _ _ D o (sL _ hs (λ_ x=>x) k) λ_ h' _ _ _ D' o' _ t=>t h' D' o'
section
structure Bx(w t b left l7:Int):Prop where
 w0: -33600000<=w
 w1:w<=960000000
 t0:0<=t
 t1:t<=60000000
 b0:0<=b
 b1:b<=60000000
 l0:0<=left
 l1:left<=1000
 p0:0<=l7
 p1:l7<=1000
theorem Dx: ∀{l:List Int} {a:Int},a<=m->(∀x∈l,x<=m)->dM a l<=m
 |[],_,h,_=>h
 |x::r,a,h1,h3=>by
  show dM (if a <x then x else a) r<=m
  by_cases c:a <x
  ·rw[aM c];exact Dx (h3 x<|.head _) λy m=>h3 y (.tail _ m)
  ·rw[aE c];exact Dx h1 λy m=>h3 y (.tail _ m)
theorem aG2(B:Bx w t b left a): ¬1073741823 <dM t [b,t+b+a,w+left]:=
 fH.mpr (Dx (az B.t1 dd) λx m=>(bC.mp m).elim (λe=>e▸az B.b1 dd) λm=>(bC.mp m).elim (λe=>e▸az (fU (fU B.t1 B.b1) B.p1) dd) λm=>b_.mp m▸az (fU B.w1 B.l1) dd)
theorem as2{ρ:L}(e0:ah ρ 0=U (U<|.fz a 4<|f_ w t b vs))(e1:ah ρ 1=U (U<|.int left))(e2:ah ρ 2=U (U<|.int j))(k:Q (.int<|dM t [b,t+b+j,w+left]) h):
  (ao I C (.bi .max<|.cons (.at (.x 0) 23)<|.cons (.at (.x 0) 24)<|.cons (.dT .add (.dT .add (.at (.x 0) 23) (.at (.x 0) 24))<|.x 2)<|.cons (.dT .add (.at (.x 0) 22)<|.x 1) .nil) ρ).v h Q:=
 (eP<|ay<|cI<|ap e0<|.iG rfl<|ay<|cI<|ap e0<|.iG rfl<|ay<|eC<|eC<|cI<|ap e0<|.iG rfl<|cI<|ap e0<|.iG rfl<|.jg<|ap e2<|.jg<|ay<|eC<|cI<|ap e0<|.iG rfl<|ap e1<|.jg<|.aL3 k)
set_option smartUnfolding false in
theorem YO(B:Bx w t b left j)(k: ∀h',H.le h h'->Q .none h'):al I (d+3) 71 [.fz a 4<|f_ w t b vs,.int left,.int j] h Q:=
 cf [] [.f,.d (.int (dM t [b,t+b+j,w+left]) .no) [],.f] (Hd.of Fa.nl) (bE<|cD B.l0 B.l1<|cD B.p0 B.p1 aY)
  (.c (λq=>q rfl)<|.c ⟨tI,λh Q D k=>as2 rfl rfl rfl<|k h D⟩<|.c (aG2 B)<|.d λh' D=>k h'<|a9 D.f)
end
noncomputable def boN(k:Nat):Int:=Nat.casesOn k 3 λ_=>0
def jW(k:Nat):List V:=AL [V.int 139] (λk l=>l++vi (aO (boN k) 4)) k
noncomputable def i9:List Int:=[139,0,0,0,3,0,0,0,0,0,0,0,0,0,0,0,0,0,0,0,0,0,0,0,0,0,0,0,0,0,0,0,0,0,0,0,0,0,0,0,0,255,255,255,255]
theorem UQ:jW 10++vi (aO (-1) 4)=vi i9:=rfl
abbrev jL(so a:SV)(pages nX tall wide:Int):List<|Nat×SV:=[(24,aL 2),(36,so),(37,a),(43,aL pages),(44,aL nX),(45,.int tall .no),(46,.int wide .no),(42,aL 0)]
abbrev r73(w b pg:ai)(c tb bb left a:Int)(vs:List V)(kw kp:Nat)(x:Option V):SL:=[U<|.ref kw w,U<|gT b c tb bb vs,U<|.aj [aL 3],U<|.int left<|.b 0 1000,U<|.int a<|.b 0 1000,U<|.ref kp pg,x.map .op]
abbrev h73(w b:ai)(c tb bb left a:Int)(vs:List V):List bJ:=[.u,.d (.op .none) [],.n,.u,.s (Option V) (λ_=>True) λg x=>(.next,r73 w b (gH g 2) c tb bb left a vs 0 2 x,d_ g [(3,.list<|jW 10)]),.d (.op .none) [(3,.list<|vi i9)]]
abbrev JC(w oc fd:ai):G:=[(w,.aK 8<|jL (.op<|.ref oc) (.ref 1 fd) 0 (-1) 0 0),(fd,.dict [])]
theorem jd{α:Type}{P:α->Prop}{a}{l}(x:P a)(y: ∀b∈l,P b): ∀b∈a::l,P b:=λb m=>(bC.mp m).elim (λe=>e▸x) (y b)
theorem Ff{α:Type}{P:α->Prop}: ∀b∈([]:List α),P b:=λ_ m=>dB m
theorem Qi{h h'}{g}{w l a}{k}{x j x1}(D:Hd h [w,l] g h')(e:ah g (k+2)=U (a,x))(e0:ah g 0=U (w,j))(e1:ah g 1=U (l,x1))(lx:x.lv)(l0:j.lv)(l1:x1.lv):h a=Y:=
 D.im e (kE (D.ne e e0 lx l0<|aU4 _)<|D.ne e e1 lx l1 λq=>aU4 _<|pH q)
section
variable{w oc fd b:ai}{P:Fl->L->H->Prop}
theorem Ct{k}(h:k<=11):(jW k).length<=8000:=by
 have: ∀k,(jW k).length=1+4*k:=λk=>by
  induction k with
  |zero=>rfl
  |succ k ih=>show(jW k++_).length=_;rw[aC,ih,cQ,cK];rfl
 rw[this];exact ak (eH (jl 4 h) 1) dd
noncomputable abbrev gL(pg o:ai)(fs:List<|Nat×SV)(l:List V):G:=[(pg,.aK 7<|(36,.ref 1 o)::fs),(o,.list l)]
abbrev vR(w b pg:ai)(c tb bb left a:Int)(vs:List V)(x:Option V):SL:=[U<|.op<|.ref w,U<|gT b c tb bb vs,U<|.aj [aL 3],U<|.int left .no,U<|.int a .no,U<|.ref 0 pg,x.map .op]
theorem HB{g:G}{a}{x}(e: ∃o,ah g 0=U (a,o)):a6 g<|vR w b a p j l left h vs x:=aB (aB<|aT (dW<|bU aY)<|aT tI<|aT tI<|aT e<|bI bk)
section
set_option smartUnfolding false in
theorem V6(c:k<=9)(D:Hd h [a,o] (gL a o t<|jW k) h)(q: ∀h',Hd h [a,o] (gL a o t<|jW<|k+1) h'->P .next (aq<|vR w b a u l p left j vs<|U<|.int k) h'):cq (al I<|d+5) (Tg.x 6) Dk (.int k) (aq<|vR w b a u l p left j vs x) h P:=by
 cases k with
 |zero=>exact dA [50] [.u,.d (.op .none) [(1,.list<|jW 1)]] D (HB ⟨_,rfl⟩) (v:=aL 0) ⟨aU _,aU _⟩ (.c (r8 rfl (Ct (k:=0) dd) dd)<|.d λh' D _=>q h' D)
 |succ k=>exact dA [50] [.u,.d (.op .none) [(1,.list<|jW<|k+2)]] D (HB ⟨_,rfl⟩) (v:= .int (k+1)<|.b 1 9) ⟨bT.mpr<|Nat.succ_pos k,bT.mpr c⟩ (.c (r8 rfl (Ct<|Nat.le_trans c dd) dd)<|.d λh' D _=>q h' D)
theorem ZW(of: ∀l,il (gL a o p l) p): ∀(m k:Nat) (x:Option V) (h:H),m+k=10->h a=U (.aK 7<|b8<|(36,.ref 1 o)::p)->h o=U (.list<|jW k)->(∀x h',Fr h h' [o]->h' o=U (.list<|jW 10)->P .next (aq<|vR w b a y t u left j vs x) h')->
  du (cq (al I<|d+5) (Tg.x 6) Dk) bP (ez k 1 m) (aq<|vR w b a y t u left j vs x) h P:=λm=>by
 induction m with
 |zero=>exact λk x h e _ eo q=>⟨tI,q x h (λ_ _ e _=>e)<|(gM k).symm.trans e▸eo⟩
 |succ m ih=>
  intro k x h e ep eo q
  have ek:m+(k+1)=10:=by rw[<-e,Q9];rfl
  exact⟨tI,V6 (xp<|Nat.le_trans (uT (k+1) m)<|Nat.le_of_eq ek) (Hd.of (g:=gL a o p<|jW k)<|Fa.is ep (b9 (bS ep eo nofun) bj) (kD rfl<|of _)<|Fa.ls eo bj Fa.nl) λh' D'=>⟨h',H.le_refl _,ih (k+1) _ h' ek (D'.am 0 a _ rfl) (D'.am 1 o _ rfl) λx h2 f e=>q x h2 (Fr.tr (Fr.cB D'.f<|(D'.am 0 a _ rfl).trans ep.symm) f) e⟩⟩
end
set_option smartUnfolding false in
theorem Vk(B:Bx z t y left p)(hw:h w=U (.aK 8<|b8<|jL (.op<|.ref oc) (.op<|.ref fd) 0 (-1) 0 0))(hf:h fd=U (.dict []))
  (k: ∀h' x g,H.le h h'->Pg W h h' x i9 [] [] [] [] 0 0 (-1)->aZ I (al I<|d+5) Jf [U<|.ref w,U<|.fz b 4<|f_ z t y vs,U<|.aj [.int 3],U<|.int left,U<|.int p,U<|.ref x.pg,g] h' P):
  aZ I (al I<|d+5) NS [U<|.ref w,U<|.fz b 4<|f_ z t y vs,U<|.aj [.int 3],U<|.int left,U<|.int p,Y,Y] h P:=by
 have f:Fa h (JC w oc fd)<|JC w oc fd:=Fa.is hw (b9 (bS hw hf nofun) bj) (dN<|dK<|kD rfl<|dN<|dN<|c7 tI<|c7 tI<|dN d2) (Fa.di hf bj Fa.nl)
 refine j1 (ρ:=[U<|.ref 0 w,U<|gT b z t y vs,U<|.aj [aL 3],U<|.int left<|.b 0 1000,U<|.int p<|.b 0 1000,Y,Y]) 6 [50,71] (h73 w b z t y left p vs) (Hd.of f) (bG rfl<|aB<|aT (dW<|bU aY)<|je B.l0 B.l1<|je B.p0 B.p1<|aD<|aD bk)
  (.c ?_<|.c ?_<|.c ?_<|.c ?_<|.d ?_)
 ·exact cJ tI λh Q k=>YO B k
 ·exact λ_ _=>j7 _
 ·intro pg o c ac ar dn dr
  exact oO (λx _=>bG rfl<|aB<|aT (dW<|bU aY)<|je B.l0 B.l1<|je B.p0 B.p1<|bG rfl<|bI bk) (λx _=>iW [(3,.list<|jW 10)] _) λh1 P D q=>ku (i7<|ay<|bl<|bg<|.lN ⟨dd,dd⟩<|ZW (x:=Y) (λl=>dK<|dN<|dN<|dN<|dN<|dK<|dK<|dN d2) 10 0 h1 rfl (D.am 2 pg _ rfl) (D.am 3 o _ rfl) λx h2 f e=>q x h2 tI<|D.go (u:=[(3,.list<|jW 10)]) f<|dg rfl tI e tI d7)
 ·exact λpg o c ac ar dn dr x _=>⟨tI,λh Q D k=>yj (D.am 3 o _ rfl) (Ct dd) dd λh' e f=>k h'<|D.go f<|dg rfl tI (e.trans<|by rw[<-UQ]) tI d7⟩
 ·intro pg o c ac ar dn dr x _ h' D _
  have fr: ∀{a:ai} {k:Nat} {o:SO},ah _ (k+2)=U (a,o)->SO.lv o->h a=Y:=λ{a k x} e l=>Qi D e rfl rfl l tI tI
  exact k h' ⟨pg,o,c,ac,dn,ar,dr⟩ _ (a9<|Fr.cB (Fr.cB D.f<|(D.am 0 w _ rfl).trans hw.symm)<|(D.am 1 fd _ rfl).trans hf.symm)
   ⟨D.am 2 pg _ rfl,D.am 4 c _ rfl,⟨D.am 5 ac _ rfl,D.am 6 ar _ rfl,(D.am 3 o _ rfl).trans (by rw[show aH W []=[] from rfl,c9]),.nil,dd,(dd:(i9++[]).length<=3000),dd,tI⟩,D.am 7 dn _ rfl,D.am 8 dr _ rfl,.inl rfl,D.ne (i:=6) (j:=8) rfl rfl tI tI dd,a9<|Fr.cB (Fr.cB D.f<|(D.am 0 w _ rfl).trans hw.symm)<|(D.am 1 fd _ rfl).trans hf.symm,
    jd (fr (k:=0) rfl tI)<|jd (fr (k:=1) rfl tI)<|jd (fr (k:=2) rfl tI)<|jd (fr (k:=3) rfl tI)<|jd (fr (k:=5) rfl tI)<|jd (fr (k:=4) rfl tI)<|jd (fr (k:=6) rfl tI) Ff⟩
end
noncomputable def eK:List Int:=[247,2,1,131,146,192,28,59,0,0,0,0,3,232,8,103,108,117,101,112,97,103,101]
noncomputable def mP:k3:=⟨0,0,-1,[],[]⟩
def iM(W:Wt)(R:List bm):List Int:=i9++aH W R++[140]
section
variable{w oc fd b:ai}{Q:V->H->Prop}{R:List bm}
abbrev M2(w oc fd:ai)(x:Ad)(hh vv fn:Int)(os:List V):G:=[(w,.aK 8<|jL (.ref 1 oc) (.op<|.ref fd) 0 (-1) 0 0),(oc,.list<|vi eK),(x.pg,.aK 7<|vW x (.ref 3 x.o) (.op<|.ref x.fd) hh vv fn),(x.o,.list os)]
structure Wr(W:Wt)(h h':H)(w oc:ai)(fd:ai)(R:List bm)(D:List Int)(tall wide:Int):Prop where
 hw:h' w=U (.aK 8<|b8<|jL (.op<|.ref oc) (.op<|.ref fd) 1 23 tall wide)
 ho:h' oc=U (.list<|vi<|eK++iM W R)
 hf:h' fd=U (.dict<|D.map λn=>(n,W.v n))
 fr:Fr h h' [w,oc]
 gd:fj R
theorem e6(v:Option V):(v.map SV.op).map den=v:=by cases v <;>rfl
set_option smartUnfolding false in
theorem Ts(E:Dy W h p x i9 R D)(hw:h w=U (.aK 8<|b8<|jL (.op<|.ref oc) (.op<|.ref fd) 0 (-1) 0 0))(ho:h oc=U (.list<|vi eK))(n0:h x.o=Y/\h x.pg=Y)(ol:(i9++aH W R).length<=2900)
  (k: ∀h',Wr W h h' w oc x.fd R D (dM 0 [l+o+j]) (dM 0 [t+left])->Q .none h'):aZ I (al I<|d+7) H3 [U<|.ref w,U<|.fz b 4<|f_ t l o vs,U<|.aj [.int 3],U<|.int left,U<|.int j,U<|.ref x.pg,u] p<|ie Q:=by
 obtain⟨hh,vv,fn,e⟩:=E.hp
 have g:=E.le _ _ hw
 have c:=E.le _ _ ho
 have nn: ∀{a b:ai} {y:O},h a=U y->h b=Y->a≠b:=λe n q=>gI <|(q▸e).symm.trans n
 have f:Fa p (M2 w oc fd x hh vv fn<|vi<|i9++aH W R)<|M2 w oc fd x hh vv fn<|vi<|i9++aH W R:=Fa.is g (b9 (bS g c nofun)<|b9 (nn hw n0.2)<|b9 (nn hw n0.1) bj) (dN<|kD rfl<|dK<|dN<|dN<|c7 tI<|c7 tI<|dN d2) (Fa.ls c (b9 (nn ho n0.2)<|b9 (nn ho n0.1) bj)<|Fa.is e (b9 (bS e E.ho nofun) bj) (Av ⟨_,rfl⟩ tI)<|Fa.ls E.ho bj Fa.nl)
 exact e6 u▸gG (ρ:=[U<|.ref 0 w,U<|gT b t l o vs,U<|.op<|.aj [.int 3],U<|.int left .no,U<|.int j .no,U<|.ref 2 x.pg,u.map .op]) [] [.n,.u] (Hd.of f) (bG rfl<|aB<|aB<|aT tI<|aT tI<|bG rfl<|bI bk)
  (.c (c3<|by rw[cQ];exact ak (cg ol) dd) (.c (c3<|by rw[aC,aC,cQ,cQ];exact ak (eH (cg ol) _) dd)
   (.d λh' D _=>⟨h',H.le_refl _,k h' ⟨D.am 0 w _ rfl,(D.am 1 oc _ rfl).trans (by rw[iM,eE eK,eE<|i9++aH W R];rfl),(D.f _ _ E.hf (jd (bS E.hf g nofun) (jd (bS E.hf c nofun)<|jd (bS E.hf e nofun)<|jd (bS E.hf E.ho nofun) Ff) x.fd · rfl)),λa y m n=>D.f a y (E.le a y m) λq=>(bC.mp q).elim (λq=>n<|q▸ .head _) λq=>(bC.mp q).elim (λq=>n<|q▸ .tail _ (.head _)) λq=>(bC.mp q).elim (nn m n0.2) λq=>nn m n0.1<|List.mem_singleton.mp q,E.gd⟩⟩)))
theorem U2(B:Bx t o p left a)(hw:h w=U (.aK 8<|b8<|jL (.op<|.ref oc) (.op<|.ref fd) 0 (-1) 0 0))(ho:h oc=U (.list<|vi eK))(hf:h fd=U (.dict []))(i:d8 vs j)(hl:j.length<=16)(ok: ∀q∈j,kx W q)(r:qK (a+o) left 0 j mP 45 0)(es:mQ (a+o) left 0 j mP=s)
  (k: ∀h' c R,Wr W h h' w oc c R s.D (dM 0 [o+p+a]) (dM 0 [t+left])->R.map er=s.E->(i9++aH W R).length<=45+30*j.length->Q .none h'):
  al I (d+8) 73 [.ref w,.fz b 4<|f_ t o p vs,.aj [.int 3],.int left,.int a] h Q:=
 e9 (fn:=NN) rfl rfl (Vk B hw hf λh1 x f l P=>
  (bA (h_ (eN (ay (ap rfl (ay (ap rfl (ay (ap rfl (ay (eC (ap rfl (cI (ap rfl (.iG rfl (.jg (ay (bl (Vd ⟨[],[],[],P,rfl,.inl rfl,(dd:(i9++[]).length<=45),dd⟩ i hl ok r λh2 R E e1 e2=>
   Ts (es▸E) hw ho ⟨P.na.2,P.n0 _<|.head _⟩ (ak e2<|ak (eH (jl 30 hl) 45) dd) λh' e=>k h' x.fd R e (es▸e1) e2))))))))))))))))))))
end
theorem UA(a:bc j 36=U (.ref o)): ∀(cs:List Nat) l x h,l.length+cs.length<=9000->h w=U (.aK c j)->h o=U (.list l)->(∀x h',h' o=U (.list (l++cs.map λc:Nat=>V.int c))->Fr h h' [o]->P .next [U<|.ref w,U p,x] h')->
  du (cq C (.x 2) Qw) bP (cs.map λc=>V.str ⟨#[c]⟩) [U<|.ref w,U p,x] h P:=λcs=>by
 induction cs with
 |nil=>exact λl x h _ _ e k=>⟨tI,k x h (e.trans<|by rw[List.map_nil,c9]) λ_ _ e _=>e⟩
 |cons c cs ih=>exact λl x h hl ew eo k=>⟨tI,eI (bA (h_ (gD (cI (ap rfl (.eQ ew a (.qj eo rfl (ay (eP (ay (ap rfl (.vU (bg (.wn eo (c3<|Nat.le_trans (eH (cg<|Nat.zero_le _) _) hl)
   ⟨_,H.le_refl _,ih (l++[.int c]) _ _ (by rw[aC,cH,c5 [_].length];exact hl) ((H.jN<|bS ew eo nofun).trans ew) (H.kM ..) λx h2 e2 f2=>k x h2 (e2.trans<|by rw[aX];rfl)<|Fr.tr FD f2⟩))))))))))))))⟩
theorem EV{g:G}{L M}(e:ah g i=U (o,a))(es: ∀{x},a.at x->x=U (.list L))(lv:a.lv)(hl:L.length<=8000)(em:L++vi (aO n 4)=M):ia d hb B (m+1) 50 [.ref i o,.int n b,.int 4 j] g (.op .none) [(i,.list M)]:=
 ⟨tI,λh Q D k=>yj (es<|D.am i o _ e) hl dd λh' e' f=>k h'<|D.go (by unfold jq;rw[kO,e];exact f)<|dg e lv (e'.trans<|by rw[em]) tI d7⟩
set_option smartUnfolding false in
theorem Xj(hw:h w=U (.aK 8 []))(k: ∀h' oc fd,h' w=U (.aK 8<|b8<|jL (.op<|.ref oc) (.op<|.ref fd) 0 (-1) 0 0)->h' oc=U (.list<|vi eK)->h' fd=U (.dict [])->Fr h h' [w]->h oc=Y->h fd=Y->Q .none h'):al I (d+3) 72 [.ref w,.int 2] h Q:=
 cf (vs:=[.ref 0 w,aL 2]) [50] [.d (.op .none) [(1,.list<|vi [247,2,1,131,146,192])],.d (.op .none) [(1,.list<|vi [247,2,1,131,146,192,28,59,0,0])],.d (.op .none) [(1,.list<|vi [247,2,1,131,146,192,28,59,0,0,0,0,3,232])],.n,.u,.n,.s (Option V) (λ_=>True) λg x=>(.next,[U<|.ref 0 w,U<|aL 2,x.map .op],d_ g [(1,.list<|vi eK)])] (Hd.of (g:=[(w,.aK 8 [])])<|Fa.is hw bj d2 Fa.nl) (ij rfl<|bU aY)
  (.c (λo=>EV rfl (λe=>e) tI dd rfl)<|.c (λo=>EV rfl (λe=>e) tI dd rfl)<|.c (λo=>EV rfl (λe=>e) tI dd rfl)<|.c (λo=>c3 (dd:8<=9000))<|.c (λo=>oO (λx _=>bG rfl<|gx<|bI bk) (λx _=>iW [(1,.list<|vi eK)] _) λh1 P D q=>ku<|UN<|oA rfl<|.zX<|UA rfl [103,108,117,101,112,97,103,101] (vi [247,2,1,131,146,192,28,59,0,0,0,0,3,232,8]) Y h1 dd (D.am 0 w _ rfl) (D.am 1 o _ rfl) λx h2 e f=>(e6 x).subst (motive:=λy=>P .next [U<|.ref w,U<|.int 2,y] h2)<|q x h2 tI<|D.go (u:=[(1,.list<|vi eK)]) f<|dg rfl tI e tI d7)<|.d λo x _ fd h' D=>k h' o fd (D.am 0 w _ rfl) (D.am 1 o _ rfl) (D.am 2 fd _ rfl) D.f (D.im (k:=1) rfl<|hI<|D.ne (i:=1) (j:=0) rfl rfl tI tI dd)<|D.im (k:=2) rfl<|hI<|D.ne (i:=2) (j:=0) rfl rfl tI tI dd)
noncomputable def mB(W:Wt):List Int->List Int
 |[]=>[]
 |n::r=>n3 (W.f n) (96+n.toNat)++mB W r
noncomputable def r_:List Int:=[1,131,146,192,28,59,0,0,0,0,3,232]
noncomputable def mE(n:Nat):Nat:=(4+ -(n:Int)% 4).toNat
def o9(os:List Int)(ta a:Int):List Int:=os++[248]++aO 23 4++r_++aO ta 4++aO a 4++aO 0 2++aO 1 2
def uL(W:Wt)(os:List Int)(ta a:Int)(l:List Int):List Int:=o9 os ta a++mB W l++[249]++aO os.length 4++[2]
def ut(W:Wt)(os:List Int)(ta a:Int)(l:List Int):List Int:=uL W os ta a l++gp (mE (uL W os ta a l).length) 223
theorem oL{g:G}{L}(e:ah g i=U (o,.list L))(el:L=vi X)(hl:X.length<=8000)(hr:r<=4)(em:X++aO n r=Yqv):ia d hb B (m+1) 50 [.ref i o,.int n b,.int r a] g (.op .none) [(i,.list<|vi Yqv)]:=
 ⟨tI,λh Q D k=>yj (D.am i o _ e) (by rw[el,cQ];exact hl) hr λh' e' f=>k h'<|D.go (by unfold jq;rw[kO,e];exact f)<|dg e tI (e'.trans<|by rw[<-em,eE,el]) tI d7⟩
set_option smartUnfolding false in
theorem S3(ho:h o=U (.list<|vi X))(hl:X.length<=7000)(k: ∀h',h' o=U (.list<|vi<|X++r_)->Fr h h' [o]->Q .none h'):al I (d+2) 53 [.ref o] h Q:=
 cf [50] [.d (.op .none) [(0,.list<|vi<|X++aO 25400000 4)],.d (.op .none) [(0,.list<|vi<|X++aO 25400000 4++aO 473628672 4)],.d (.op .none) [(0,.list<|vi<|X++aO 25400000 4++aO 473628672 4++aO 1000 4)]] (Hd.of (g:=[(o,.list<|vi X)])<|Fa.ls ho bj Fa.nl) (ij rfl aY)
  (.c (oL rfl rfl (ak hl dd) dd rfl) (.c (oL rfl rfl (by rw[aC];exact ak (cL hl 4) dd) dd rfl) (.c (oL rfl rfl (by rw[aC,aC];exact ak (cL (cL hl 4) 4) dd) dd rfl)
   (.d λh' D=>k h' ((D.am 0 o _ rfl).trans<|by rw[aX,aX];rfl) D.f))))
section
variable{D:List Int}
theorem OW:(n3 f b).length=18:=rfl
theorem an6(b:bc o 37=U (.ref j))(c:j≠q): ∀l X x h,(∀n∈l,n∈D/\1<=n/\n<=2)->X.length+18*l.length<=4000->h w=U (.aK 8 o)->h j=U (.dict<|D.map λn=>(n,W.v n))->h q=U (.list<|vi X)->(∀x h',h' q=U (.list<|vi<|X++mB W l)->Fr h h' [q]->P .next [U<|.ref w,U<|.ref q,x,Y] h')->
  du (cq (al I<|d+3) (Tg.x 2) OM) bP (vi l) [U<|.ref w,U<|.ref q,x,Y] h P:=λl=>by
 induction l with
 |nil=>exact λX x h _ _ _ _ e k=>⟨tI,k x h (e.trans<|by rw[show mB W []=[] from rfl,c9]) λ_ _ e _=>e⟩
 |cons n l ih=>
  intro X x h hn hl ew ed a k
  have n2:=hn n (.head _)
  exact⟨tI,(eI (bA (h_ (eN (ay (ap rfl (ay (iL (cI (ap rfl (.eQ ew b (ap rfl (.QH ed (BV.1 n2.1) (ON (az n2.2.2 dd) (az (bT.mpr<|Nat.add_le_add_left (uW.mpr n2.2.2) 96) dd) a (by rw[cQ];exact ak (ak (cm _ _) hl) dd) λh1 e1 f1=>
   ⟨h1,H.le_refl _,ih (X++n3 (W.f n) (96+n.toNat)) _ h1 (λm i=>hn m<|.tail _ i) (by rw[aC,OW,cH,c5 18,<-pC];exact hl) (f1 _ _ ew<|hI<|bS ew a nofun) (f1 _ _ ed<|hI c) (e1.trans<|by rw[eE];rfl) λx h2 e2 f2=>k x h2 (e2.trans<|by rw[aX];rfl)<|Fr.tr f1 f2⟩))))))))))))))⟩
set_option smartUnfolding false in
theorem Xr: ∀m s X x h,X.length+m<=8000->h q=U (.list<|vi X)->(∀x h',h' q=U (.list<|vi<|X++gp m 223)->Fr h h' [q]->P .next [U<|.ref w,U<|.ref q,x2,x] h')->
  du (cq (al I<|d+3) (Tg.x 3) OB) bP (ez s 1 m) [U<|.ref w,U<|.ref q,x2,x] h P:=λm=>by
 induction m with
 |zero=>exact λs X x h _ e k=>⟨tI,k x h (e.trans<|by rw[List.replicate_zero,c9]) λ_ _ e _=>e⟩
 |succ m ih=>
  intro s X x h hl e k
  exact⟨tI,(eI<|bA<|h_<|gD<|ap rfl<|.qj e rfl<|ay<|oA rfl<|.wn e (c3<|by rw[cQ];exact ak (eH (cg<|Nat.zero_le m) _)<|Nat.le_trans hl dd) ⟨_,H.le_refl _,ih (s+1) (X++[223]) _ _ (by rw[aC,cH,c5 [_].length];exact hl) ((H.kM ..).trans<|by rw[eE];rfl) λx h2 e2 f2=>k x h2 (e2.trans<|by rw[aX];rfl)<|Fr.tr FD f2⟩)⟩
end
theorem gn(x:eg a)(y:eg b):eg<|a++b:=λi m=>(pG.mp m).elim (x i) (y i)
theorem ai5:eg<|gp n 223:=λi m=>by rw[List.eq_of_mem_replicate m];decide
section
variable{W:Wt}{w oc fd q:ai}{os D l:List Int}
abbrev V_(w oc fd q:ai)(os X:List Int)(ta a:Int):G:=[(w,.aK 8<|jL (.ref 1 oc) (.op<|.ref fd) 1 23 ta a),(oc,.list<|vi os),(q,.list<|vi X)]
theorem pm(n:Nat):0<= -(n:Int)% 4/\ -(n:Int)% 4<=3:=⟨pz _ dd,iR (show -(n:Int)% 4 <3+1 from qT _ dd)⟩
theorem Mx n:mE n<=7:=uW.mpr (fI (pm n).2 4)
theorem aa5(n:Nat):ip<|4+ -(n:Int)% 4:=⟨az dd<|fI (pm n).1 4,az (fI (pm n).2 4) dd⟩
theorem aN4{ρ:L}(e:ah ρ 1=U (U<|.ref q))(ho:h q=U (.list<|vi X))(hl:X.length<=8000)(k:K (ez 0 1<|mE X.length) bP h):(ao I C (.bi .range<|.cons (.dT .add (.c<|.int 4)<|.dT .mN (.neg<|.bi .len<|.cons (.x 1) .nil)<|.c<|.int 4) .nil) ρ).i h K:=
 (i7<|ay<|eC<|bl<|eC<|v2<|eP<|ay<|ap e<|.vY ho (c3<|by rw[cQ];exact ak hl dd)<|.rT<|bl<|.Mw dd<|.jg<|.lN (by rw[cQ];exact aa5 _)<|by rw[cQ];exact k)
set_option smartUnfolding false in
theorem XO{x:Option V}(hX:X.length<=4000)(a:os.length<=3000)(ew:h w=U (.aK 8<|b8<|jL (.op<|.ref oc) (.op<|.ref fd) 1 23 o j))(eo:h oc=U (.list<|vi os))(b:h q=U (.list<|vi X))(c:oc≠q)
  (ok:eg<|X++[249]++aO os.length 4++[2]) (k: ∀h',Fr h h' [q]->Q (.a8<|X++[249]++aO os.length 4++[2]++gp (mE (X++[249]++aO os.length 4++[2]).length) 223) h'):aZ I (al I<|d+3) CJ (aq [U<|.ref 0 w,U<|.ref 2 q,x.map .op,Y]) h<|ie Q:=by
 have l0:(X++[249]++aO os.length 4++[2]).length<=4006:=by rw[aC,aC,aC,cK];exact cL (cL (cL hX 1) 4) 1
 refine gG [50] [.n,.n,.d (.op .none) [(2,.list<|vi<|X++[249]++aO os.length 4)],.n,.s (Option V) (λ_=>True) λg y=>(.next,[U<|.ref 0 w,U<|.ref 2 q,x.map .op,y.map .op],d_ g [(2,.list<|vi<|X++[249]++aO os.length 4++[2]++gp (mE (X++[249]++aO os.length 4++[2]).length) 223)]),
   .d (.op<|.a8<|X++[249]++aO os.length 4++[2]++gp (mE (X++[249]++aO os.length 4++[2]).length) 223) []] (Hd.of (g:=V_ w oc fd q os X o j)<|Fa.is ew (b9 (bS ew eo nofun)<|b9 (bS ew b nofun) bj) (dN<|kD rfl<|dK<|dN<|dN<|c7 tI<|c7 tI<|dN d2)<|Fa.ls eo (b9 c bj)<|Fa.ls b bj Fa.nl) (bG rfl<|bG rfl<|bI<|aD bk)
  (.c ?_<|.c ?_<|.c ?_<|.c ?_<|.c ?_<|.c ?_<|.d ?_)
 ·exact c3 (by rw[cQ];exact ak (cg hX) dd)
 ·exact c3 (by rw[cQ];exact ak a dd)
 ·exact oL rfl (eE X [249]).symm (by rw[aC];exact ak (cL hX 1) dd) dd (by rw[cQ])
 ·exact c3 (by rw[cQ];exact ak (by rw[aC,aC,cK];exact cg<|cL (cL hX 1) 4) (dd:4006<=9000))
 ·exact oO (λy _=>bG rfl<|bG rfl<|bI<|bI bk) (λy _=>iW [(2,.list _)] _) λh1 P D i=>ku (aN4 rfl ((D.am 2 q _ rfl).trans<|by rw[eE<|X++[249]++aO os.length 4];rfl) (ak l0 dd)<|Xr _ 0 _ Y h1 (ak (gQ l0<|Mx _) dd) ((D.am 2 q _ rfl).trans<|by rw[eE<|X++[249]++aO os.length 4];rfl) λy h2 e f=>(e6 y).subst (motive:=λy=>P .next [U<|.ref w,U<|.ref q,(x.map SV.op).map den,y] h2)<|i y h2 tI<|D.go (u:=[(2,.list _)]) f<|dg rfl tI e tI d7)
 ·exact λy _=>⟨tI,λh1 Q D k=>eP<|ay<|ap rfl<|.ah7 (D.am 2 q _ rfl) (gn ok ai5) (c3<|by rw[aC,GR];exact ak (gQ l0<|Mx _) dd)<|k h1 D⟩
 ·exact λy _ h' D _=>⟨h',H.le_refl _,k h'<|Fr.cB (Fr.cB D.f<|(D.am 0 w _ rfl).trans ew.symm)<|(D.am 1 oc _ rfl).trans eo.symm⟩
end
section
variable{w oc fd:ai}{os D:List Int}
theorem jK(hx:0<=x/\x<=255)(ha:eg a):eg<|x::a:=λi m=>(bC.mp m).elim (λe=>e▸hx) (ha i)
theorem n5:eg []:=λ_ m=>dB m
theorem ki n: ∀r,eg (aO n r)
 |0=>n5
 |r+1=>jK ⟨pz _ dd,iR (show _ <255+1 from qT _ dd)⟩ (ki n r)
theorem MW(h:b<=255):eg<|n3 f b:=jK dd (gn (ki _ _)<|gn (ki _ _)<|gn (ki _ _)<|gn (ki _ _)<|jK dd<|jK dd<|jK dd<|jK ⟨dx b,bT.mpr h⟩ n5)
theorem PH: ∀{l:List Int},(∀n∈l,1<=n/\n<=2)->eg (mB W l)
 |[],_=>n5
 |n::l,h=>gn (MW<|ak (eH (uW.mpr (h n<|.head _).2) 96) dd) (PH λm i=>h m<|.tail _ i)
theorem EH: ∀{l:List Int},(mB W l).length=18*l.length
 |[]=>rfl
 |n::l=>by show(n3 _ _++mB W l).length=_;rw[aC,EH,OW,eU,pC,c5]
theorem aE9(o:eg os):eg<|o9 os a h:=gn (gn (gn (gn (gn (gn (gn o<|jK dd n5)<|ki _ _) (show∀i∈r_,0<=i/\i<=255 by decide))<|ki _ _)<|ki _ _)<|ki _ _) (ki _ _)
theorem Qo:(o9 os a h).length=os.length+29:=by
 unfold o9
 simp only[aC,cK];rfl
abbrev aA5(w oc fd:ai)(os:List Int)(ta a:Int):G:=[(w,.aK 8<|jL (.ref 1 oc) (.op<|.ref fd) 1 23 ta a),(oc,.list<|vi os)]
set_option smartUnfolding false in
theorem aM0(ew:h w=U (.aK 8<|b8<|jL (.op<|.ref oc) (.op<|.ref fd) 1 23 a o))(eo:h oc=U (.list<|vi os))(hl:os.length<=3000)(k: ∀h' q,H.le h h'->h q=Y->h' q=U (.list<|vi<|o9 os a o)->oc≠q->aZ I (al I<|d+3) J9 [U<|.ref w,U<|.ref q,Y,Y] h' P):aZ I (al I<|d+3) HT [U<|.ref w,Y,Y,Y] h P:=by
 have w9: ∀{n m},n=os.length+m->m<=40->n<=3040:=λe l=>e▸gQ hl l
 have lo:(vi os).length<=3000:=by rw[cQ];exact hl
 refine j1 (ρ:=[U<|.ref 0 w,Y,Y,Y]) 8 [50,53] [.n,.n,.d (.op .none) [(2,.list<|vi<|os++[248]++aO 23 4)],.d (.op .none) [(2,.list<|vi<|os++[248]++aO 23 4++r_)],.d (.op .none) [(2,.list<|vi<|os++[248]++aO 23 4++r_++aO a 4)],.d (.op .none) [(2,.list<|vi<|os++[248]++aO 23 4++r_++aO a 4++aO o 4)],.d (.op .none) [(2,.list<|vi<|os++[248]++aO 23 4++r_++aO a 4++aO o 4++aO 0 2)],.d (.op .none) [(2,.list<|vi<|o9 os a o)]]
  (Hd.of (g:=aA5 w oc fd os a o)<|Fa.is ew (b9 (bS ew eo nofun) bj) (dN<|kD rfl<|dK<|dN<|dN<|c7 tI<|c7 tI<|dN d2)<|Fa.ls eo bj Fa.nl) (bG rfl<|aD<|aD<|aD bk)
  (.c ?_<|.c ?_<|.c ?_<|.c ?_<|.c ?_<|.c ?_<|.c ?_<|.c ?_<|.d ?_)
 ·exact c3 (ak lo dd)
 ·exact λq=>c3 (ak (cg lo) dd)
 ·exact λq=>oL rfl (eE os [248]).symm (ak (w9 aC dd) dd) dd rfl
 ·exact λq=>⟨tI,λh Q D k=>S3 (D.am 2 q _ rfl) (ak (w9 (m:=5) (by simp only[aC,cK];rfl) dd) dd) λh' e f=>k h'<|D.go f<|dg rfl tI e tI d7⟩
 ·exact λq=>oL rfl rfl (ak (w9 (m:=17) (by simp only[aC,cK];rfl) dd) dd) dd rfl
 ·exact λq=>oL rfl rfl (ak (w9 (m:=21) (by simp only[aC,cK];rfl) dd) dd) dd rfl
 ·exact λq=>oL rfl rfl (ak (w9 (m:=25) (by simp only[aC,cK];rfl) dd) dd) dd rfl
 ·exact λq=>oL rfl rfl (ak (w9 (m:=27) (by simp only[aC,cK];rfl) dd) dd) dd rfl
 ·exact λq h' D _=>k h' q (a9<|Fr.cB (Fr.cB D.f<|(D.am 0 w _ rfl).trans ew.symm)<|(D.am 1 oc _ rfl).trans eo.symm) (Qi (k:=0) D rfl rfl rfl tI tI tI) (D.am 2 q _ rfl) (D.ne (i:=1) (j:=2) rfl rfl tI tI dd)
theorem Zm(ew:h w=U (.aK 8<|b8<|jL (.op<|.ref oc) (.op<|.ref fd) 1 23 t j))(eo:h oc=U (.list<|vi os))(i:h fd=U (.dict<|D.map λn=>(n,W.v n)))(hl:os.length<=1000)(o:eg os)(hD: ∀n∈D,1<=n/\n<=2)(dl:D.length<=60)
  (k: ∀l h',H.le h h'->l.Perm D->l.reverse.Pairwise (· <= ·)->Q (.a8<|ut W os t j l) h'):al I (d+4) 74 [.ref w] h Q:=
 e9 (fn:=NR) rfl rfl (aM0 ew eo (ak hl dd) λh1 q l1 g u ne=>
  have a:=l1 _ _ ew
  have c:=l1 _ _ i
  have em:(D.map λn=>(n,W.v n)).map (·.1)=D:=by rw[AZ];exact List.map_id' D
  have fq:fd≠q:=λe=>gI <|(e▸i).symm.trans g
  (bA (iC (ae5 (Ot (eP (ay (cI (ap rfl (.eQ a rfl (bg (.aP0 c (by rw[bO];exact ms dl dd) λl p s=> .aD2 (c3<|by rw[cQ,p.length_eq,bO,bO];exact ak dl dd) (by
   rw[em] at p
   have hn: ∀n∈l.reverse,n∈D/\1<=n/\n<=2:=λn m=>have m:=p.mem_iff.mp (List.mem_reverse.mp m);⟨m,hD n m⟩
   have f:=λn m=>(hn n m).2
   have ll:l.reverse.length<=60:=by rw[sW,p.length_eq];exact dl
   have lx:(o9 os t j).length+18*l.reverse.length<=4000:=by rw[Qo];exact ak (gQ (cL hl 29)<|jl 18 ll) dd
   exact aT7▸ .fN (an6 rfl fq l.reverse (o9 os t j) Y h1 hn lx a c u λx h2 e2 f2=>(e6 x).subst (motive:=λy=>aZ I (al I<|d+3) CJ [U<|.ref w,U<|.ref q,y,Y] h2<|ie Q) (XO (by rw[aC,EH];exact lx) (ak hl dd) (f2 _ _ a<|hI<|bS a u nofun) (f2 _ _ (l1 _ _ eo)<|hI ne) e2 ne
    (gn (gn (gn (gn (aE9 o)<|PH f)<|jK dd n5)<|ki _ _)<|jK dd n5) λh3 f3=>k l.reverse h3 (λb y e=>Fr.tr f2 f3 b y (l1 b y e)<|hI λz=>gI <|(z▸e).symm.trans g) ((List.reverse_perm l).trans p)<|by rw[aU5];exact s)))))))))))))))
end
def At(T:List Int)(p:Nat)(X:List Int):Prop:= ∃A B,T=A++(X++B)/\A.length=p
noncomputable def Bs(a:Int)(X:List Int):Int:=X.foldl (λa x=>256*a+x) a
abbrev be(X:List Int):Int:=Bs 0 X
noncomputable abbrev kG(T:List Int)(p:Nat):List<|Nat×SV:=[(36,.op<|.a8 T),(47,.int p .no)]
abbrev eO(T:List Int)(p:Nat):SO:= .aK 9 (kG T p)
theorem At.hd(a:At T p<|x::X):ah (vi T) p=U (.int x):=a.elim λA w=>w.elim λB w=>by
 rw[w.1,<-w.2,eE,<-cQ];exact qA _ _ _
theorem At.tl(a:At T p<|x::X):At T (p+1) X:=a.elim λA w=>w.elim λB w=>⟨A++[x],B,by rw[w.1,aX];rfl,by rw[aC,w.2];rfl⟩
theorem At.le(a:At T p X):p+X.length<=T.length:=a.elim λA w=>w.elim λB w=>by
 rw[w.1,aC,aC,w.2,<-cH];exact cm _ _
theorem At.gW(a:At T p<|X++Yqv):At T p X/\At T (p+X.length) Yqv:=a.elim λA w=>w.elim λB w=>
 ⟨⟨A,Yqv++B,by rw[w.1,aX],w.2⟩,⟨A++X,B,by rw[w.1];simp only[aX],by rw[aC,w.2]⟩⟩
section
theorem aH5(hT:T.length<=100000)(ew:h j=U (.aK 9 l))(b:bc l 36=U (.a8 T)): ∀X p a x,At T p X->(∀x,P .next [U<|.ref j,U x1,U e,U<|.int<|Bs a X,x] h)->
  du (cq C (.x 4) LU) bP (ez p 1 X.length) [U<|.ref j,U x1,U e,U<|.int a,x] h P:=λX=>by
 induction X with
 |nil=>exact λp a x _ k=>⟨tI,k x⟩
 |cons y X ih=>
  intro p a x t k
  have p9:(p:Int)<=4611686018427387904:=az (bT.mpr<|Nat.le_trans (ak (cm _ _) t.le) hT) dd
  exact⟨tI,(eI<|jO<|eC<|eC<|bl<|ap rfl<|.z_ ⟨dd,dd⟩<|iL<|cI<|ap rfl<|.eQ ew b<|ap rfl<|.E_ (dx p) p9 t.hd<|.jg ⟨h,H.le_refl h,ih (p+1) _ _ t.tl k⟩)⟩
noncomputable abbrev Vw(st:ai)(r e a:Int)(x:Option V):SL:=[U<|.ref 0 st,U<|.int r .no,U<|.int e .no,U<|.int a .no,x.map .op]
set_option smartUnfolding false in
theorem B6(t:At T p X)(hT:T.length<=100000)(hr:X.length=r)(ew:h a=U (.aK 9<|b8<|kG T p))(k: ∀h',h' a=U (.aK 9<|b8<|kG T<|p+r)->Fr h h' [a]->Q (.int<|be X) h'):al I (d+1) 76 [.ref a,.int r] h Q:=
 have tl:p+r<=T.length:=hr▸t.le
 have rl: ∀{n:Nat},n<=T.length->ip n:=λl=>⟨az dd<|dx _,az (bT.mpr<|ak l hT) dd⟩
 cf (n:=1) (vs:=[.ref 0 a,.int r .no]) [] [.n,.f,.s (Option V) (λ_=>True) λg x=>(.next,Vw a r (p+r:Nat) (be X) x,g)] (Hd.of (g:=[(a,eO T p)])<|Fa.is ew bj (dK<|c7 tI d2) Fa.nl) (ij rfl<|bM tI aY)
  (.c (ak hT dd) (.c (fH.mpr<|bT.mpr tl) (.c (oO (λx _=>bG rfl<|aT tI<|aT tI<|aT tI<|bI bk) (λ_ _=>G.le_refl _) λh1 P D q=>ku (i7 (ay (cI (ap rfl (.eQ (D.am 0 a _ rfl) rfl (ay (ap rfl (bg (.ae8 (rl<|ak (cm _ _) tl) (rl (n:=p+r) tl) (by
   exact show((p:Int)+r -p).toNat=X.length by rw[hr,iy,mq];rfl▸aH5 hT (D.am 0 a _ rfl) rfl X p 0 Y t λx=>(e6 x).subst (motive:=λy=>P .next [U<|.ref a,U<|.int r,U<|.int (p+r:Nat),U<|.int<|be X,y] h1)<|q x h1 tI D)))))))))))<|.d λx _ h' D=>k h' (D.am 0 a _ rfl) D.f)))
def sg(X:List Int):Int:=if 128*256^((X.length:Int) -1).toNat<=be X then be X -2*(128*256^((X.length:Int) -1).toNat) else be X
set_option smartUnfolding false in
theorem IN(t:At T p X)(hT:T.length<=100000)(hr:X.length=r)(r1:1<=r)(b:r<=4)(ew:h a=U (.aK 9<|b8<|kG T p))(k: ∀h',h' a=U (.aK 9<|b8<|kG T<|p+r)->Fr h h' [a]->Q (.int<|sg X) h'):al I (d+2) 77 [.ref a,.int r] h Q:=by
 unfold sg at k
 rw[hr] at k
 refine cf (n:=2) (vs:=[.ref 0 a,.int r<|.b 1 4]) [76] [.d (.int (be X) .no) [(0,eO T<|p+r)]] (Hd.of (g:=[(a,eO T p)])<|Fa.is ew bj (dK<|c7 tI d2) Fa.nl) (ij rfl<|cD (bT.mpr r1) (bT.mpr b) aY)
  (.c ⟨tI,λh Q D k=>B6 (d:=d) t hT hr (D.am 0 a _ rfl) λh' e f=>k h'<|D.go (u:=[(0,eO T<|p+r)]) f<|dg rfl tI e (mm<|dK<|c7 tI d2) d7⟩<|.c (λc h' D=> ?_)<|.d λc h' D=> ?_)
 ·rw[aM c] at k;exact k h' (D.am 0 a _ rfl) D.f
 ·rw[aE c] at k;exact k h' (D.am 0 a _ rfl) D.f
theorem aA3(t:At T p X):cB T p (p+X.length)=X:=t.elim λA w=>w.elim λB w=>by
 unfold cB
 rw[w.1,<-w.2,<-aC,<-aX,aS4,aS5]
set_option smartUnfolding false in
theorem as5(t:At T p X)(hT:T.length<=100000)(hr:X.length=r)(ew:h a=U (.aK 9<|b8<|kG T p))(k: ∀h',h' a=U (.aK 9<|b8<|kG T<|p+r)->Fr h h' [a]->Q (.a8 X) h'):al I (d+1) 78 [.ref a,.int r] h Q:=
 have tl:p+r<=T.length:=hr▸t.le
 cf (n:=1) (vs:=[.ref 0 a,.int r .no]) [] [.n,.f,.n,.d (.op<|.a8 X) []] (Hd.of (g:=[(a,eO T p)])<|Fa.is ew bj (dK<|c7 tI d2) Fa.nl) (ij rfl<|bM tI aY)
  (.c (ak hT dd) (.c (fH.mpr<|bT.mpr tl) (.c ⟨tI,λh1 Q D k=>qO (cI (ap rfl (.eQ (D.am 0 a _ rfl) rfl (cI (ap rfl (.eQ (D.am 0 a _ rfl) rfl (ap rfl (.Qd (ak hT dd) (dx p) (dx<|p+r) (by
   rw[show((p:Int)).toNat=p from rfl,show((p:Int)+(r:Int)).toNat=p+r from rfl,GI<|ak (cm p r) tl,GI tl,<-hr,aA3 t]
   exact k h1 D)))))))))⟩<|.d λh' D=>k h' (D.am 0 a _ rfl) D.f)))
end
theorem aO6(n a b:Int)(ha:0 <a):a*(n/a% b)+n% a=n%(a*b):=by
 have h1:=GM n a
 have h3:=GM n (a*b)
 rw[show n/(a*b)=n/a/b from(sU<|eT ha).symm] at h3
 rw[<-(GM (n/a) b),qX,<-qW] at h1
 exact Int.add_left_cancel ((gq ..).symm.trans<|h1.trans h3.symm)
theorem aJ3 n: ∀r a,Bs a (aO n r)=256^r*a+n% 256^r:=λr=>by
 induction r with
 |zero=>exact λa=>by show a=1*a+n% 1;rw[aU6,Int.emod_one,e7]
 |succ r ih=>exact λa=>(ih _).trans (by
   rw[aU7,<-aO6 n (256^r) 256<|Int.pow_pos dd,qX,<-qW,gq])
theorem LJ n r:be (aO n r)=n% 256^r:=(aJ3 n r 0).trans (by rw[Rd,qU])
theorem vS(h:0<=n)(h1:n <256^r):be (aO n r)=n:=(LJ n r).trans (xo h h1)
theorem yY(h: -(128*256^r)<=n)(h1:n <128*256^r):sg (aO n<|r+1)=n:=by
 unfold sg
 rw[cK,show(((r+1:Nat):Int) -1).toNat=r by rw[show((r+1:Nat):Int) -1=r from mq r 1];rfl,LJ,aU7,show(256:Int) ^r*256=2*(128*256^r) by rw[<-qW,Int.mul_comm];rfl]
 generalize(128:Int)*256^r=m at h h1
 by_cases c:0<=n
 ·rw[xo c<|jF h1<|by rw[Int.two_mul];exact GN<|az c<|eT h1,aE<|n6.mpr h1]
 ·have e:n%(2*m)=n+2*m:=by
   rw[<-Int.add_emod_right]
   exact xo (by lia) (by lia)
  rw[e,aM (by lia),mq]
theorem Ul(h: -2147483648<=s)(h1:s <2147483648): ∃r,bN s=r+1/\r<=3/\ -(128*256^r)<=s/\s <128*256^r:=by
 unfold bN
 split
 ·split
  ·split
   ·exact⟨3,rfl,dd,h,h1⟩
   ·exact⟨2,rfl,dd,(by lia:(-8388608)<=s),(by lia:s <(8388608))⟩
  ·exact⟨1,rfl,dd,(by lia:(-32768)<=s),(by lia:s <(32768))⟩
 ·exact⟨0,rfl,dd,(by lia:(-128)<=s),(by lia:s <(128))⟩
structure Wt.ok(W:Wt):Prop where
 M:W.M.ok
 s0: ∀n,0 <W.s n
 s1: ∀n,W.s n<=30100000
abbrev lj(W:Wt):V:= .fd [(1,W.v 1),(2,W.v 2)]
def kq(W:Wt)(n:Int):V:= .aj [.int W.M.ck,.int<|W.s n,.int W.M.de,.int 0,.a8 [102,(96+n.toNat:Nat)]]
section
variable{g:G}
theorem um(D:Hd hb B g h)(e:ah g i=U (a,eO T p))(f:Fr h h' [a])(w:h' a=U (.aK 9<|b8<|kG T<|p+r)):Hd hb B (d_ g [(i,eO T<|p+r)]) h':=D.go (by unfold jq;rw[kO,e];exact f) (dg e tI w (mm<|dK<|c7 tI d2) d7)
theorem iq(e:ah g i=U (a,eO T p))(t:At T p X)(hT:T.length<=100000)(hr:X.length=r)(ev:be X=v)(ov:aN g<|.int v b):ia d hb B (m+1) 76 [.ref i a,.int r j] g (.int v b) [(i,eO T<|p+r)]:=
 ⟨ov,λh Q D k=>B6 t hT hr (D.am i a _ e) λh' w f=>by rw[ev];exact(k h'<|um D e f w)⟩
theorem l6(e:ah g i=U (a,eO T p))(t:At T p X)(hT:T.length<=100000)(hr:X.length=r)(r1:1<=r)(c:r<=4)(ev:sg X=v)(ov:aN g<|.int v b):ia d hb B (m+2) 77 [.ref i a,.int r j] g (.int v b) [(i,eO T<|p+r)]:=
 ⟨ov,λh Q D k=>IN t hT hr r1 c (D.am i a _ e) λh' w f=>by rw[ev];exact(k h'<|um D e f w)⟩
theorem E4(e:ah g i=U (a,eO T p))(t:At T p X)(hT:T.length<=100000)(hr:X.length=r):ia d hb B (m+1) 78 [.ref i a,.int r j] g (.op<|.a8 X) [(i,eO T<|p+r)]:=
 ⟨tI,λh Q D k=>as5 t hT hr (D.am i a _ e) λh' w f=>k h'<|um D e f w⟩
end
theorem N1{W:Wt}(n1:1<=n)(n2:n<=2):bw [(1,W.v 1),(2,W.v 2)] n=U (W.v n):=by
 rcases show n=1\/n=2 by lia with rfl|rfl <;>rfl
section
abbrev uS(T:List Int)(p:Nat):List<|Nat×SO:=[(0,eO T p)]
theorem ac0{ρ:L}{b:Nat}(b1:b<=255)(g:ah ρ 7=U (U<|.int 0))(f:ah ρ 9=U (U<|.a8 [102,(b:Int)]))(c:ah ρ 10=U (U<|.fz a 1 j))(e:bc j 4=U (.str ⟨#[102,b]⟩))(k:aZ I C MV ρ h P):aZ I C JG ρ h P:=
 (iE<|iV<|eP<|ay<|qO<|ap f<|ap g<|bl<|.aw6 (l:=[102,(b)]) (dd:2<=1000000) dd<|.Tq (l:=[102,(b)]) (dd:2<=1000000)<|km<|zM<|cI<|ap c<|.iG e<|.zX ⟨(dd:2<=1000000),jC ⟨tI,nu<|eP<|ay<|ap rfl<|.vU ⟨tI,nu<|eP<|ay<|ap rfl<|.vU ⟨tI,.JO (l:=[.int<|102,.int b]) rfl<|gm id<|gg k⟩⟩⟩⟩)
end
section
theorem At.dy{G:Prop}(a:At T p<|X++Yqv)(hr:X.length=r)(k:At T p X->At T (p+r) Yqv->G):G:=k a.gW.1 (hr▸a.gW.2)
noncomputable abbrev Ia(n:Int):List Int:=[102,(96+n.toNat:Nat)]
abbrev aB3(W:Wt)(n:Int)(T:List Int)(p:Nat):List bJ:=[.d (.int n<|.b 1 2)<|uS T<|p+1,.d (.int W.M.ck<|.b 0 65535)<|uS T<|p+1+4,.d (.int (W.s n)<|.b 1 30100000)<|uS T<|p+1+4+4,.d (.int W.M.de<|.b 327680 917519)<|uS T<|p+1+4+4+4,.d (aL 0)<|uS T<|p+1+4+4+4+1,.d (aL 2)<|uS T<|p+1+4+4+4+1+1,.d (.op<|.a8<|Ia n)<|uS T<|p+1+4+4+4+1+1+2,.v<|.op<|W.v n,.f,.f]
set_option smartUnfolding false in
theorem LL(ok:W.ok)(n1:1<=n)(n2:n<=2)(t:At T p<|aO n 1++(aO W.M.ck 4++(aO (W.s n) 4++(aO W.M.de 4++([0]++([2]++Ia n))))))(hT:T.length<=100000)(ew:h a=U (.aK 9<|b8<|kG T p))(k: ∀h',h' a=U (.aK 9<|b8<|kG T<|p+17)->Fr h h' [a]->Q (.aj [.int n,kq W n]) h'):al I (d+3) 83 [.ref a,.int 243,lj W] h Q:=by
 have ck1:W.M.ck <256^4:=AW ok.M.c1 dd
 have s1:W.s n <256^4:=g8 (ok.s1 n) dd
 have d1:W.M.de <256^4:=g8 ok.M.d1 dd
 refine t.dy (cK _ 1) λt1 t=>t.dy (cK _ 4) λt2 t=>t.dy (cK _ 4) λt3 t=>t.dy (cK _ 4) λt4 t=>t.dy rfl λe t=>t.dy rfl λb c=> ?_
 refine e9 (fn:=Kc) rfl rfl (j1 (ρ:=[U<|.ref 0 a,U<|aL 243,U<|.op<|lj W,Y,Y,Y,Y,Y,Y,Y,Y]) 10 [76,78] (aB3 W n T p) (Hd.of (g:=[(a,eO T p)])<|Fa.is ew bj (dK<|c7 tI d2) Fa.nl) (bG rfl<|gx<|aB<|aD<|aD<|aD<|aD<|aD<|aD<|aD<|aD bk)
  (.c ?_<|.c ?_<|.c ?_<|.c ?_<|.c ?_<|.c ?_<|.c ?_<|.c ?_<|.c ?_<|.c ?_<|.d ?_))
 ·exact iq rfl t1 hT (cK _ 1) (vS (az dd n1)<|g8 n2 dd) ⟨n1,n2⟩
 ·exact iq rfl t2 hT (cK _ 4) (vS ok.M.c0 ck1) ⟨ok.M.c0,iR ok.M.c1⟩
 ·exact iq rfl t3 hT (cK _ 4) (vS (eT<|ok.s0 n) s1) ⟨ok.s0 n,ok.s1 n⟩
 ·exact iq rfl t4 hT (cK _ 4) (vS (az dd ok.M.d0) d1) ⟨ok.M.d0,ok.M.d1⟩
 ·exact iq rfl e hT rfl rfl ⟨aU _,aU _⟩
 ·exact iq rfl b hT rfl rfl ⟨aU _,aU _⟩
 ·exact E4 rfl c hT rfl
 ·exact⟨re<|N1 n1 n2,tI⟩
 ·exact λq=>q rfl
 ·exact λq=>q rfl
 ·exact λh' D _=>ac0 (ak (eH (uW.mpr n2) 96) dd) rfl rfl rfl rfl (bA<|mL<|nZ<|ay<|ap rfl<|ay<|nZ<|ay<|ap rfl<|ay<|ap rfl<|ay<|ap rfl<|ay<|ap rfl<|ay<|ap rfl ⟨h',H.le_refl _,k h' (D.am 0 a _ rfl) D.f⟩)
end
structure oS where
 h:Int
 v:Int
 fn:Int
 cF:List V
def cw(W:Wt)(fn c:Int):Int:=(iY (W.f fn) c).1
noncomputable def pp(W:Wt)(S:oS):bm->oS
 |.mv s _=>⟨S.h+s,S.v+0,S.fn,S.cF⟩
 |.dn s=>⟨S.h+0,S.v+s,S.fn,S.cF⟩
 |.fd _=>S
 |.fn n=>⟨S.h,S.v,n,S.cF⟩
 |.ch c=>⟨S.h+cw W S.fn c,S.v+0,S.fn,S.cF++[.aj [.int 0,.int S.h,.int S.v,.int S.fn,.int c]]⟩
noncomputable def bV(W:Wt):List bm->oS
 |[]=>⟨0,0,-1,[]⟩
 |c::R=>pp W (bV W R) c
noncomputable def eA:List bm->List Int
 |[]=>[]
 |.fd n::R=>eA R++[n]
 |_::R=>eA R
def nb(i:Int):Prop:= ¬2147483647 <(i.natAbs:Int)
def hO(W:Wt)(R:List bm):bm->Prop
 |.mv s _=>nb ((bV W R).h+s)/\nb ((bV W R).v+0)
 |.dn s=>nb ((bV W R).h+0)/\nb ((bV W R).v+s)
 |.fd n=>(1<=n/\n<=2)/\n∉eA R
 |.fn n=>(1<=n/\n<=2)/\n∈eA R
 |.ch c=>(1<=(bV W R).fn/\(bV W R).fn<=2)/\(W.f (bV W R).fn).dE c/\nb ((bV W R).h+cw W (bV W R).fn c)/\nb ((bV W R).v+0)
def k6(W:Wt):List bm->Prop
 |[]=>True
 |c::R=>hO W R c/\k6 W R
def kW:bm->Int
 |.mv s k=>143+k.rm s+k.dk -1
 |.dn s=>157+bN s -1
 |.fd _=>243
 |.fn n=>171+n
 |.ch c=>c
def nO(W:Wt):bm->List Int
 |.mv s k=>aO s (k.rm s)
 |.dn s=>aO s (bN s)
 |.fd n=>aO n 1++(aO W.M.ck 4++(aO (W.s n) 4++(aO W.M.de 4++[0,2,102,((96+n.toNat:Nat):Int)])))
 |.fn _=>[]
 |.ch _=>[]
theorem ar0 W: ∀c,ib W c=kW c::nO W c
 |.mv _ _|.dn _|.fd _|.fn _|.ch _=>rfl
def dV:List bm->Int
 |[]=>140
 |c::_=>kW c
noncomputable def dY(W:Wt):List bm->List Int
 |[]=>[]
 |c::L=>nO W c++(dV L::dY W L)
noncomputable def nL(W:Wt):List bm->List Int
 |[]=>[]
 |c::L=>ib W c++nL W L
theorem FR W: ∀L,nL W L++[140]=dV L::dY W L
 |[]=>rfl
 |c::L=>by show ib W c++nL W L++[140]=kW c::(nO W c++(dV L::dY W L));rw[aX,FR W L,ar0];rfl
theorem Mr W: ∀R,aH W R=nL W R.reverse:=λR=>by
 have a: ∀A B,nL W (A++B)=nL W A++nL W B:=λA B=>by
  induction A with
  |nil=>rfl
  |cons c A ih=>show ib W c++nL W (A++B)=ib W c++nL W A++nL W B;rw[ih,aX]
 induction R with
 |nil=>rfl
 |cons c R ih=>rw[pB,a,<-ih];show aH W R++ib W c=aH W R++(ib W c++[]);rw[c9]
abbrev ym(S:oS)(w x:Int)(k:Nat)(rw:ai):List<|Nat×SV:=[(38,.int S.h .no),(39,.int S.v .no),(48,.int w .no),(49,.int x .no),(50,aL 0),(51,aL 0),(16,.int S.fn .no),(52,.fl []),(42,aL 0),(35,.ref k rw)]
structure Ar where
 st:ai
 ps:ai
 rw:ai
 kn:ai
abbrev F6(a:Ar)(T:List Int)(p:Nat)(S:oS)(w x:Int)(K:List<|Int×V):G:=[(a.st,eO T p),(a.kn,.dict K),(a.ps,.aK 10<|ym S w x 3 a.rw),(a.rw,.list S.cF)]
def eJ(W:Wt)(D:List Int):List<|Int×V:=D.map λn=>(n,kq W n)
abbrev gR(W:Wt)(a:Ar)(T:List Int)(p:Nat)(R:List bm):G:=F6 a T p (bV W R) (dO ae R) (dO aa R) (eJ W<|eA R)
abbrev ju(W:Wt)(a:Ar)(nX co:SV)(o:SV):SL:=[U<|.ref 0 a.st,U nX,U<|.ref 1 a.kn,U<|.op<|lj W,U co,U<|.ref 2 a.ps,U o]
theorem mR{g:G}(e0: ∃x,ah g 0=U (a.st,x))(e1: ∃x,ah g 2=U (a.ps,x))(e3: ∃x,ah g 1=U (a.kn,x))(b:aN g o):a6 g<|ju W a (.op h) (.op j) o:=aT e0 (aB<|aT e3<|aB<|aB<|aT e1<|aT b bk)
noncomputable def DS:bm->Nat
 |.mv s k=>k.rm s
 |.dn s=>bN s
 |.fd _=>17
 |.fn _=>0
 |.ch _=>0
section
variable{a:Ar}{R L:List bm}
abbrev la(d m:Nat)(ρ:c6.L)(h:H)(P:Fl->c6.L->H->Prop):Prop:=iZ (λρ h b F=>(ao I (al I<|d+5) (.eY .ne (.x 6)<|.g 70) ρ).t h b F) (λρ h Q=>aZ I (al I<|d+5) Hr ρ h Q) m ρ h P
abbrev nA(d m:Nat)(hb:H)(B:List ai)(W:Wt)(a:Ar)(T:List Int)(p:Nat)(c:bm)(R L:List bm)(nX co:V)(P:Fl->c6.L->H->Prop):Prop:= ∀h',Hd hb B (gR W a T (p+DS c+1)<|c::R) h'->la d m (aq<|ju W a (.op nX) (.op co)<|.int (dV L) .no) h' P
abbrev u0(T:List Int)(p:Nat):List<|Nat×SO:=[(0,eO T p)]
theorem At.nD{T X Yqv}{p r}{y}{G:Prop}(t:At T p<|X++(y::Yqv))(hr:X.length=r)(k:At T p X->At T (p+r) [y]->G):G:=k t.gW.1 (hr▸(At.gW t.gW.2).1)
theorem zO(y:Int):be [y]=y:=by show 256*0+y=y;rw[Rd,qU]
theorem oG{g:G}{n r}{y}(e:ah g 0=U (a.st,eO T<|p+r))(t:At T (p+r) [y])(hT:T.length<=100000):ia d hb B (n+1) 76 [.ref 0 a.st,aL 1] g (.int y .no)<|u0 T<|p+r+1:=iq e t hT rfl (zO y) tI
theorem yk{g:G}{n}{s e:Int}{b}(f:ah g 0=U (a.st,eO T p))(t:At T p<|aO s<|bN s)(hT:T.length<=100000)(hs: -2147483648<=s/\s <2147483648)(c:e=(bN s:Nat)):ia d hb B (n+2) 77 [.ref 0 a.st,.int e b] g (.int s .no)<|u0 T<|p+bN s:=by
 rw[c]
 refine l6 f t hT (cK _ _) (lD s).1 (lD s).2 ?_ tI
 obtain⟨r,e1,_,h1,h2⟩:=Ul hs.1 hs.2
 rw[e1];exact yY h1 h2
set_option smartUnfolding false in
theorem Y9{s}(D:Hd hb B (gR W a T p R) h)(t:At T p<|aO s (bN s)++(dV L::dY W L))(hT:T.length<=100000)(ok:hO W R<|.mv s .p)(hs: -2147483648<=s/\s <2147483648)(k:nA d m hb B W a T p (.mv s .p) R L j l P):la d (m+1) (aq<|ju W a (.op j) (.op l)<|.int (kW<|.mv s .p)<|.b 143 146) h P:=
 have ob:=by show(143:Int)<=143+bN s+0 -1/\(143:Int)+bN s+0 -1<=146;have:=lD s;lia
 t.nD (cK s<|bN s) λt1 t2=>fL [76,77,83] [.d (.int s .no)<|u0 T<|p+bN s,.f,.f,.d (.int (dV L) .no)<|u0 T<|p+bN s+1] D (mR ⟨_,rfl⟩ ⟨_,rfl⟩ ⟨_,rfl⟩ ob)
  (.c (yk rfl t1 hT hs<|by show(143:Int)+bN s+0 -1 -143+1=_;lia)<|.b (.d ok.1)<|.b (.d ok.2)<|.c (oG rfl t2 hT)<|.d λh' D _=>⟨h',H.le_refl _,k h' D⟩)
set_option smartUnfolding false in
theorem az1{s}(D:Hd hb B (gR W a T p R) h)(t:At T p<|aO s (bN s)++(dV L::dY W L))(hT:T.length<=100000)(ok:hO W R<|.mv s .p)(hs: -2147483648<=s/\s <2147483648)(k:nA d m hb B W a T p (.mv s<|.r ae ae) R L j l P):la d (m+1) (aq<|ju W a (.op j) (.op l)<|.int (kW<|.mv s<|.r ae ae)<|.b 148 151) h P:=
 have ob:=by show(148:Int)<=143+bN s+5 -1/\(143:Int)+bN s+5 -1<=151;have:=lD s;lia
 t.nD (cK s<|bN s) λt1 t2=>fL [76,77,83] [.d (.int s .no)<|u0 T<|p+bN s,.f,.f,.d (.int (dV L) .no)<|u0 T<|p+bN s+1] D (mR ⟨_,rfl⟩ ⟨_,rfl⟩ ⟨_,rfl⟩ ob)
  (.c (yk rfl t1 hT hs<|by show(143:Int)+bN s+5 -1 -143 -4=_;lia)<|.b (.d ok.1)<|.b (.d ok.2)<|.c (oG rfl t2 hT)<|.d λh' D _=>⟨h',H.le_refl _,k h' D⟩)
set_option smartUnfolding false in
theorem aw8{s}(D:Hd hb B (gR W a T p R) h)(t:At T p<|aO s (bN s)++(dV L::dY W L))(hT:T.length<=100000)(ok:hO W R<|.mv s .p)(hs: -2147483648<=s/\s <2147483648)(k:nA d m hb B W a T p (.mv s<|.r aa ae) R L j l P):la d (m+1) (aq<|ju W a (.op j) (.op l)<|.int (kW<|.mv s<|.r aa ae)<|.b 153 156) h P:=
 have ob:=by show(153:Int)<=143+bN s+10 -1/\(143:Int)+bN s+10 -1<=156;have:=lD s;lia
 t.nD (cK s<|bN s) λt1 t2=>fL [76,77,83] [.d (.int s .no)<|u0 T<|p+bN s,.f,.f,.d (.int (dV L) .no)<|u0 T<|p+bN s+1] D (mR ⟨_,rfl⟩ ⟨_,rfl⟩ ⟨_,rfl⟩ ob)
  (.c (yk rfl t1 hT hs<|by show(143:Int)+bN s+10 -1 -143 -9=_;lia)<|.b (.d ok.1)<|.b (.d ok.2)<|.c (oG rfl t2 hT)<|.d λh' D _=>⟨h',H.le_refl _,k h' D⟩)
set_option smartUnfolding false in
theorem aE7(D:Hd hb B (gR W a T p R) h)(t:At T p<|dV L::dY W L)(hT:T.length<=100000)(ok:hO W R<|.mv (dO ae R) .p)(k:nA d m hb B W a T p (.mv (dO ae R)<|.r ae aa) R L j l P):la d (m+1) (aq<|ju W a (.op j) (.op l)<|.int (kW<|.mv (dO ae R)<|.r ae aa)<|.b 147 147) h P:=
 have ob:=(dd:(147:Int)<=147/\(147:Int)<=147)
 At.nD (X:=[]) t rfl λ_ t2=>fL [76,77,83] [.f,.f,.d (.int (dV L) .no)<|u0 T<|p+1] D (mR ⟨_,rfl⟩ ⟨_,rfl⟩ ⟨_,rfl⟩ ob)
  (.b (.d ok.1)<|.b (.d ok.2)<|.c (oG rfl t2 hT)<|.d λh' D _=>⟨h',H.le_refl _,k h' D⟩)
set_option smartUnfolding false in
theorem Td(D:Hd hb B (gR W a T p R) h)(t:At T p<|dV L::dY W L)(hT:T.length<=100000)(ok:hO W R<|.mv (dO aa R) .p)(k:nA d m hb B W a T p (.mv (dO aa R)<|.r aa aa) R L j l P):la d (m+1) (aq<|ju W a (.op j) (.op l)<|.int (kW<|.mv (dO aa R)<|.r aa aa)<|.b 152 152) h P:=
 have ob:=(dd:(152:Int)<=152/\(152:Int)<=152)
 At.nD (X:=[]) t rfl λ_ t2=>fL [76,77,83] [.f,.f,.d (.int (dV L) .no)<|u0 T<|p+1] D (mR ⟨_,rfl⟩ ⟨_,rfl⟩ ⟨_,rfl⟩ ob)
  (.b (.d ok.1)<|.b (.d ok.2)<|.c (oG rfl t2 hT)<|.d λh' D _=>⟨h',H.le_refl _,k h' D⟩)
set_option smartUnfolding false in
theorem YT{s}(D:Hd hb B (gR W a T p R) h)(t:At T p<|aO s (bN s)++(dV L::dY W L))(hT:T.length<=100000)(ok:hO W R<|.dn s)(hs: -2147483648<=s/\s <2147483648)(k:nA d m hb B W a T p (.dn s) R L j l P):la d (m+1) (aq<|ju W a (.op j) (.op l)<|.int (kW<|.dn s)<|.b 157 160) h P:=
 have ob:=by show(157:Int)<=157+bN s -1/\(157:Int)+bN s -1<=160;have:=lD s;lia
 t.nD (cK s<|bN s) λt1 t2=>fL [76,77,83] [.d (.int s .no)<|u0 T<|p+bN s,.f,.f,.d (.int (dV L) .no)<|u0 T<|p+bN s+1] D (mR ⟨_,rfl⟩ ⟨_,rfl⟩ ⟨_,rfl⟩ ob)
  (.c (yk rfl t1 hT hs<|by show(157:Int)+bN s -1 -157+1=_;lia)<|.b (.d ok.1)<|.b (.d ok.2)<|.c (oG rfl t2 hT)<|.d λh' D _=>⟨h',H.le_refl _,k h' D⟩)
theorem wh{W}: ∀{D:List Int} {m:Int},(m∈D->bw (eJ W D) m=U (kq W m))/\(m∉D->bw (eJ W D) m=Y):=λ{D}=>by
 induction D with
 |nil=>exact⟨nofun,λ_=>rfl⟩
 |cons n D ih=>
  intro m
  show(m∈n::D->(if n=m then U (kq W n) else _)=_)/\(m∉n::D->(if n=m then U (kq W n) else _)=_)
  by_cases e:n=m
  ·rw[aM e,e];exact⟨λ_=>rfl,λh=>absurd (.head _) h⟩
  ·rw[aE e];exact⟨λh=>ih.1<|(bC.mp h).elim (λq=>absurd q.symm e) id,λh=>ih.2 λm=>h<|.tail _ m⟩
theorem QD{W}{D}{n}(m:n∉D): ¬(bw (eJ W D) n).isSome=aa:=by rw[wh.2 m];exact nofun
theorem CH{g:G}{S}{w x}{k}{rw}{o}(e:ah g k=U (rw,o)):il g<|ym S w x k rw:=c7 tI (c7 tI<|c7 tI<|c7 tI<|dN<|dN<|c7 tI<|c7 tI<|dN<|kD e d2)
theorem MC{W}{n}: ∀{D:List Int},n∉D->eX (eJ W D) n (kq W n)=eJ W (D++[n]):=λ{D}=>by
 induction D with
 |nil=>exact λ_=>rfl
 |cons m D ih=>
  intro h
  show(if m=n then _ else(m,kq W m)::eX (eJ W D) n (kq W n))=_
  rw[aE λe:m=n=>h<|e▸ .head _,ih λm=>h<|.tail _ m];rfl
set_option smartUnfolding false in
theorem XE{n}(wok:W.ok)(D:Hd hb B (gR W a T p R) h)(t:At T p<|nO W (.fd n)++(dV L::dY W L))(hT:T.length<=100000)(ok:hO W R<|.fd n)(dl:(eA R).length<=90)(k:nA d m hb B W a T p (.fd n) R L j l P):la d (m+1) (aq<|ju W a (.op j) (.op l)<|.int (kW<|.fd n)<|.b 243 243) h P:=by
 have kn:(eJ W<|eA R).length<=100:=by unfold eJ;rw[bO];exact ak dl dd
 refine t.nD rfl λt1 t2=>fL [76,77,83] [.d (.aj [.int n .no,.op<|kq W n])<|u0 T<|p+17,.n,.f,.n,.d (.int (dV L) .no)<|u0 T<|p+17+1] D (mR ⟨_,rfl⟩ ⟨_,rfl⟩ ⟨_,rfl⟩ (dd:(243:Int)<=243/\(243:Int)<=243))
  (.c ⟨dW<|bM tI<|bE aY,λh Q D k=>LL wok ok.1.1 ok.1.2 t1 hT (D.am 0 a.st _ rfl) λh' w f=>k h'<|um D rfl f w⟩<|.c ?_<|.c (cC kn)<|.c (oG rfl t2 hT)<|.d λh' D _=>⟨h',H.le_refl _,k h' ?_⟩)
 ·exact QD ok.2
 ·exact((MC (W:=W) ok.2)▸D:Hd hb B (F6 a T (p+17+1) (bV W R) (dO ae R) (dO aa R)<|eJ W<|eA R++[n]) h')
set_option smartUnfolding false in
theorem aa4{o}(D:Hd hb B (gR W a T p R) h)(t:At T p<|dV L::dY W L)(hT:T.length<=100000)(o1:172<=o)(o2:o<=173)(ok:o -171∈eA R)(k:nA d m hb B W a T p (.fn<|o -171) R L j l P):la d (m+1) (aq<|ju W a (.op j) (.op l)<|.int o<|.b 172 173) h P:=
 At.nD (X:=[]) t rfl λ_ t2=>fL [76,77,83] [.n,.f,.d (.int (dV L) .no)<|u0 T<|p+1] D (mR ⟨_,rfl⟩ ⟨_,rfl⟩ ⟨_,rfl⟩ ⟨o1,o2⟩)
  (.c (λq=>q<|by rw[wh.1 ok];rfl)<|.c (oG rfl t2 hT)<|.d λh' D _=>⟨h',H.le_refl _,k h'<|D.go (u:=[(2,.aK 10<|ym ⟨(bV W R).h,(bV W R).v,o -171,(bV W R).cF⟩ (dO ae R) (dO aa R) 3 a.rw)]) (λ_ _ e _=>e)<|dg rfl tI ((D.am 2 a.ps _ rfl).trans rfl) (mm<|CH rfl) d7⟩)
set_option smartUnfolding false in
theorem aG7{c}(wok:W.ok)(c1:65<=c)(b:c<=68)(D:Hd hb B (gR W a T p R) h)(t:At T p<|dV L::dY W L)(hT:T.length<=100000)(ok:hO W R<|.ch c)(rl:(bV W R).cF.length<=90)(k:nA d m hb B W a T p (.ch c) R L j o P):la d (m+1) (aq<|ju W a (.op j) (.op o)<|.int c<|.b 65 68) h P:=
 wq ok.2.1 λy l e ew _=>by
  have ec:cw W (bV W R).fn c=a7 l.1 (W.f (bV W R).fn).sz:=aA (·.1) ew
  have ok:=ok.2.2
  rw[ec] at ok
  refine At.nD (X:=[]) t rfl λ_ t2=>fL [76,77,83] [.v<|.op<|W.v (bV W R).fn,.n,.t,.n,.v<|gv (W.f (bV W R).fn).sz y l,.f,.f,.d (.int (dV L) .no)<|u0 T<|p+1] D (mR ⟨_,rfl⟩ ⟨_,rfl⟩ ⟨_,rfl⟩ ⟨c1,b⟩)
   (.c ⟨re<|N1 ‹hO W R (.ch c)›.1.1 ‹hO W R (.ch c)›.1.2,tI⟩<|.c (Dl ‹hO W R (.ch c)›.2.1)<|.c (cC<|ak (cg rl) dd)<|.c (nj e)<|.b (.d ok.1)<|.b (.d ok.2)<|.c (oG rfl t2 hT)<|.d λh' D _=>⟨h',H.le_refl _,k h' ?_⟩)
  show Hd hb B (F6 a T (p+1) ⟨(bV W R).h+cw W (bV W R).fn c,(bV W R).v+0,(bV W R).fn,(bV W R).cF++[.aj [.int 0,.int (bV W R).h,.int (bV W R).v,.int (bV W R).fn,.int c]]⟩ (dO ae R) (dO aa R)<|eJ W<|eA R) h'
  rw[ec];exact D
end
theorem L9 W: ∀c,(nO W c).length=DS c
 |.mv s k=>cK s _
 |.dn s=>cK s _
 |.fd _|.fn _|.ch _=>rfl
theorem Wj(g:fj<|A++B):fj B:=by
 induction A with
 |nil=>exact g
 |cons c A ih=>exact ih (CU g)
theorem aP6(g:k6 W<|A++B):k6 W B:=by
 induction A with
 |nil=>exact g
 |cons c A ih=>exact ih g.2
theorem yQ: ∀R,(eA R).length<=R.length
 |[]=>dP _
 |.fd n::R=>by show(eA R++[n]).length<=R.length+1;rw[aC];exact cL (yQ R) 1
 |.mv _ _::R|.dn _::R|.fn _::R|.ch _::R=>uU (yQ R)
theorem yu W: ∀R,(bV W R).cF.length<=R.length
 |[]=>dP _
 |.ch c::R=>by show((bV W R).cF++[_]).length<=R.length+1;rw[aC];exact cL (yu W R) 1
 |.mv _ _::R|.dn _::R|.fn _::R|.fd _::R=>uU (yu W R)
section
variable{R L:List bm}
theorem Tz(wok:W.ok) c(D:Hd hb B (gR W a T p R) h)(t:At T p<|nO W c++(dV L::dY W L))(hT:T.length<=100000)(g:fj<|c::R)(ok:hO W R c)(rl:R.length<=90)(k:nA d m hb B W a T p c R L j l P):la d (m+1) (aq<|ju W a (.op j) (.op l)<|.int (kW c) .no) h P:=
 have lc: ∀{c},(W.f (bV W R).fn).dE c->65<=c/\c<=68:=λp=>⟨p.1,iR<|jF p.2<|fI (bT.mpr wok.M.n4) 65⟩
 by
  rcases c with⟨s,k'⟩|_|_|n|_
  ·rcases k' with _|⟨x,_|_⟩
   ·exact Y9 D t hT ok g.1 k
   ·cases x
    ·exact az1 D t hT ok g.1 k
    ·exact aw8 D t hT ok g.1 k
   ·have e:=g.2.1
    subst e
    cases x
    ·exact aE7 D t hT ok k
    ·exact Td D t hT ok k
  ·exact YT D t hT ok g.1 k
  ·exact XE wok D t hT ok (ak (yQ R) rl) k
  ·have e:kW (.fn n) -171=n:=(aA (· -171)<|Int.add_comm 171 n).trans (mq n 171)
   exact aa4 D t hT (fI ok.1.1 171) (fI ok.1.2 171) (e.symm▸ok.2) (e.symm▸k)
  ·exact aG7 wok (lc ok.2.1).1 (lc ok.2.1).2 D t hT ok (ak (yu W R) rl) k
set_option smartUnfolding false in
theorem aI0(wok:W.ok)(hT:T.length<=100000)(g:fj l)(o:k6 W l)(tl:l.length<=90): ∀L R p h,l=L.reverse++R->Hd hb B (gR W a T p R) h->At T p (dY W L)->(∀h',Hd hb B (gR W a T (p+(dY W L).length) l) h'->P .next (aq<|ju W a (.op j) (.op u)<|.int 140 .no) h')->
  la d (L.length+1) (aq<|ju W a (.op j) (.op u)<|.int (dV L) .no) h P:=λL=>by
 induction L with
 |nil=>
  intro R p h e D _ k
  subst e
  exact fL (ρ:=ju W a (.op j) (.op u)<|aL 140) [] [] D (mR ⟨_,rfl⟩ ⟨_,rfl⟩ ⟨_,rfl⟩ ⟨aU _,aU _⟩) (.d λh' D _=>k h' D)
 |cons c L ih=>
  intro R p h e D t k
  rw[pB,aX] at e
  have gs:=Wj (e▸g)
  have os:=aP6 (e▸o)
  have rl:=ak (by rw[e,aC,aC,<-cH];exact uT _ _) tl
  refine Tz wok c D t hT gs os.1 rl λh' D'=>ih (c::R) _ h' e D' ?_ ?_
  ·rw[<-L9 W c];exact t.gW.2.tl
  ·exact show p+DS c+1+(dY W L).length=p+(dY W<|c::L).length by show _=p+(nO W c++(dV L::dY W L)).length;rw[aC,L9,eU,cH,cH,c5 1]▸k
end
noncomputable abbrev xP:List Int:=[103,108,117,101,112,97,103,101]
abbrev BN:SV:= .aj [aL 25400000,aL 473628672,aL 1000]
abbrev dvF(kp kk:Nat)(a kn:ai)(ta b:SV):List<|Nat×SV:=[(53,BN),(54,.op<|.a8 xP),(43,.ref kp a),(37,.ref kk kn),(45,ta),(46,b),(42,aL 0)]
abbrev gB(st dv a kn:ai)(T:List Int)(p:Nat)(pages:List V)(K:List<|Int×V):G:=[(st,eO T p),(dv,.aK 11<|dvF 2 3 a kn (aL 0)<|aL 0),(a,.list pages),(kn,.dict K)]
section
variable{g:G}
theorem obF(e:ah g i=U (a,j))(lv:j.lv)(es: ∀{x},j.at x->x=U (.aK 9<|b8<|kG T p))(t:At T p X)(hT:T.length<=100000)(hr:X.length=r)(ev:be X=v)(ov:aN g<|.int v b):ia d hb B (m+1) 76 [.ref i a,.int r l] g (.int v b) [(i,eO T<|p+r)]:=
 ⟨ov,λh Q D k=>B6 t hT hr (es<|D.am i a _ e) λh' w f=>by
  rw[ev];exact(k h'<|D.go (by unfold jq;rw[kO,e];exact f)<|dg e lv w (mm<|dK<|c7 tI d2) d7)⟩
end
noncomputable def sx:List Int->List Int
 |[]=>[]
 |n::ns=>aO n 4++sx ns
theorem an7(hT:T.length<=100000): ∀ns k p h K,(∀n∈ns,0<=n/\n<=1000)->At T p (sx ns)->h a=U (.aK 9<|b8<|kG T p)->(∀h',Fr h h' [a]->h' a=U (.aK 9<|b8<|kG T<|p+4*ns.length)->K (vi ns) h')->
  hU (p8 (al I<|d+2) (.c<|.bool aa) (.me (.x 1) 25<|.cons (.c<|.int 4) .nil) [U<|.ref a]) bP (ez k 1 ns.length) h K:=λns=>by
 induction ns with
 |nil=>exact λk p h K _ _ e q=>⟨tI,q h (λ_ _ e _=>e) e⟩
 |cons n ns ih=>
  intro k p h K hn t e q
  have n4:=hn n (.head _)
  have t:=t
  have t1:=t.gW.1
  have c:al I (d+2) 77 [.ref a,.int 4] h λv h=>hU (p8 (al I<|d+2) (.c<|.bool aa) (.me (.x 1) 25<|.cons (.c<|.int 4) .nil) [U<|.ref a]) bP (ez (k+1) 1 ns.length) h λws h=>K (v::ws) h:=IN t1 hT (cK n 4) dd dd e λh1 e1 f1=>by
   rw[yY (az dd n4.1)<|Int.lt_of_le_of_lt n4.2 dd]
   exact ih (k+1) (p+4) h1 _ (λn m=>hn n<|.tail _ m) (cK n 4▸t.gW.2) e1 λh2 f2 e2=>q h2 (Fr.tr f1 f2) (by rw[eU,pC,c5 (4*_) 4,<-cH];exact e2)
  exact⟨tI,nu<|gD<|ap rfl<|.jA e rfl rfl c⟩
section
abbrev hA(T:List Int):List bJ:=[.d (aL 247)<|u0 T 1,.d (aL 2)<|u0 T 2,.d (aL 25400000)<|u0 T 6,.d (aL 473628672)<|u0 T 10,.d (aL 1000)<|u0 T 14,.d (aL 1000) [],.d (aL 8)<|u0 T 15,.d (.op<|.a8 xP)<|u0 T 23,.d (aL 139)<|u0 T 24]
abbrev zf(W:Wt)(T:List Int)(ks kd:Nat)(st dv:ai)(x6 x7:SV)(x8 x9 x10:Option SV):SL:=[U<|.op<|.a8 T,U<|.op<|lj W,U<|.ref ks st,U BN,U<|aL 8,U<|.ref kd dv,U x6,U x7,x8,x9,x10]
set_option smartUnfolding false in
theorem aR1(hT:T.length<=100000)(t:At T 0<|[247]++([2]++([1,131,146,192]++([28,59,0,0]++([0,0,3,232]++([8]++(xP++[139])))))))(k: ∀st dv a kn h',Hd h [] (gB st dv a kn T 24 [] []) h'->aZ I (al I<|d+6) (dp 7 tR) (aq<|zf W T 0 1 st dv (aL (-1)) (aL 139) Y Y Y) h' P):
  aZ I (al I<|d+6) tR (aq [U<|.op<|.a8 T,U<|.op<|lj W,Y,Y,Y,Y,Y,Y,Y,Y,Y]) h P:=by
 refine t.dy rfl λt1 t=>t.dy rfl λt2 t=>t.dy rfl λt3 t=>t.dy rfl λt4 t=>t.dy rfl λf t=>t.dy rfl λb t=>t.dy rfl λc g=> ?_
 refine j1 7 [76,77,78] (hA T) (Hd.of Fa.nl) (aB<|aB<|aD<|aD<|aD<|aD<|aD<|aD<|aD<|aD<|aD bk)
  (.c ?_<|.c ?_<|.c ?_<|.c ?_<|.c ?_<|.c ?_<|.c ?_<|.c ?_<|.c ?_<|.d ?_)
 ·exact λst=>obF (r:=1) rfl tI (λe=>e) t1 hT rfl rfl ⟨aU _,aU _⟩
 ·exact λst=>iq rfl t2 hT rfl rfl ⟨aU _,aU _⟩
 ·exact λst=>l6 rfl t3 hT rfl dd dd dd ⟨aU _,aU _⟩
 ·exact λst=>l6 rfl t4 hT rfl dd dd dd ⟨aU _,aU _⟩
 ·exact λst=>l6 rfl f hT rfl dd dd dd ⟨aU _,aU _⟩
 ·exact λst=>⟨⟨aU _,aU _⟩,λh Q D k=>eP<|ay<|ap rfl<|bg<|.Nw (l:=[473628672,1000])<|k h D⟩
 ·exact λst=>iq rfl b hT rfl rfl ⟨aU _,aU _⟩
 ·exact λst=>E4 rfl c hT rfl
 ·exact λst dv a kn=>iq rfl g hT rfl rfl ⟨aU _,aU _⟩
 ·exact λst dv a kn h' D _=>k st dv a kn h' D
end
noncomputable abbrev oN:List Int:=[3,0,0,0,0,0,0,0,0,0]
def yO(cF:List V):V:= .aj [.aj<|vi oN,.aj cF]
section
variable{L Tt:List bm}
abbrev uB(W:Wt)(T:List Int)(q:Nat)(Tt:List bm)(rw:ai):List<|Nat×SO:=[(0,eO T q),(3,.dict<|eJ W<|eA Tt),(4,.aK 10<|ym (bV W Tt) (dO ae Tt) (dO aa Tt) 5 rw),(5,.list (bV W Tt).cF)]
abbrev s93(W:Wt)(st kn ps:ai):SL:=[U<|.ref 0 st,U<|aL (-1),U<|.ref 3 kn,U<|.op<|lj W,U<|.op<|.aj<|vi oN,U<|.ref 4 ps,U<|aL 140]
abbrev hB(W:Wt)(T:List Int)(q:Nat)(Tt:List bm)(o:Int):List bJ:=[.u,.n,.d (.op<|.fl<|vi oN)<|u0 T 64,.u,.d (aL (-1))<|u0 T 68,.d (.int o .no)<|u0 T 69,.s Unit (λ_=>True) λg _=>(.next,s93 W (gH g 0) (gH g 3)<|gH g 4,d_ g<|uB W T q Tt<|gH g 5),.u,.n,.n,.d (aL 248)<|u0 T<|q+1]
set_option smartUnfolding false in
theorem ZU(wok:W.ok)(hT:T.length<=100000)(g:fj Tt)(o:k6 W Tt)(tl:Tt.length<=90)(e:Tt=L.reverse)(t:At T 24<|sx oN++(aO (-1) 4++([dV L]++(dY W L++([248]++X)))))(c:q=69+(dY W L).length)(D:Hd hb [] (gB p A pl z T 24 [] []) h)
  (k: ∀h' (x8 x9 x10:Option V),Hd hb [] (gB p A pl z T (q+1) [yO (bV W Tt).cF]<|eJ W<|eA Tt) h'->aZ I (al I<|d+6) (dp 8 tR) (aq<|zf W T 0 1 p A (.int 23 .no) (aL 248) (x8.map .op) (x9.map .op)<|x10.map .op) h' P):aZ I (al I<|d+6) (dp 7 tR) (aq<|zf W T 0 1 p A (aL (-1)) (aL 139) Y Y Y) h P:=by
 subst c
 refine t.dy rfl λt1 t=>t.dy rfl λt2 t=>t.dy rfl λt3 t=>t.dy rfl λt4 t=>(At.gW t).1|>λs=> ?_
 refine j1 1 [76,77,78] (hB W T (69+(dY W L).length) Tt<|dV L) D (aB<|aB<|bG rfl<|aT (dW<|bU<|bU<|bU aY)<|gx<|bG rfl<|gx<|gx<|aD<|aD<|aD bk)
  (.c ?_<|.c ?_<|.c ?_<|.c ?_<|.c ?_<|.c ?_<|.c ?_<|.d ?_)
 ·exact⟨tI,λh Q D k=>km<|i7<|ay<|bl<|bg<|.lN ⟨dd,dd⟩ ⟨(dd:10<=1000000),m_ rfl<|jC<|an7 hT oN 0 24 h _ dd t1 (D.am 0 p _ rfl) λh' f e=>k h'<|um D rfl f e⟩⟩
 ·exact l6 rfl t2 hT rfl dd dd dd ⟨aU _,aU _⟩
 ·exact λps rw=>iq rfl t3 hT rfl (zO _) tI
 ·intro ps rw
  refine oO (λ_ _=>bG rfl<|gx<|bG rfl<|aB<|aB<|bG rfl<|gx bk) (λ_ _=>iW (uB W T (69+(dY W L).length) Tt rw) _) λh1 P D w=>uJ (aI0 (hb:=h1) (B:=[p,z,ps,rw]) (a:=⟨p,ps,rw,z⟩) wok hT g o tl L [] 69 h1 (e.trans (c9 _).symm) ?_ t4 λh' D'=>w () h' tI ?_)
  ·have n: ∀{i j:Nat} {a b:ai} {x y:SO},ah _ i=U (a,x)->ah _ j=U (b,y)->x.lv->y.lv->i≠j->a≠b:=λe e' l l' n=>D.ne e e' l l' n
   exact Hd.of (g:=gR W ⟨p,ps,rw,z⟩ T 69 []) (Fa.is ((D.am 0 p _ rfl).trans rfl) (b9 (n (i:=0) (j:=3) rfl rfl tI tI dd)<|b9 (n (i:=0) (j:=4) rfl rfl tI tI dd)<|b9 (n (i:=0) (j:=5) rfl rfl tI tI dd) bj) (dK<|c7 tI d2)<|Fa.di ((D.am 3 z _ rfl).trans rfl) (b9 (n (i:=3) (j:=4) rfl rfl tI tI dd)<|b9 (n (i:=3) (j:=5) rfl rfl tI tI dd) bj)<|Fa.is ((D.am 4 ps _ rfl).trans rfl) (b9 (n (i:=4) (j:=5) rfl rfl tI tI dd) bj) (CH rfl)<|Fa.ls ((D.am 5 rw _ rfl).trans rfl) bj Fa.nl)
  ·exact D.go (u:=uB W T (69+(dY W L).length) Tt rw) D'.f (dg rfl tI ((D'.am 0 p _ rfl).trans rfl) (mm<|dK<|c7 tI d2)<|dg rfl tI ((D'.am 1 z _ rfl).trans rfl) tI<|dg rfl tI ((D'.am 2 ps _ rfl).trans rfl) (mm<|CH rfl)<|dg rfl tI ((D'.am 3 rw _ rfl).trans rfl) tI d7)
 ·exact λps rw _ _=>cC (ak (yu W Tt)<|ak tl dd)
 ·exact λps rw _ _=>(dd:1<=1000000)
 ·exact λps rw _ _=>iq rfl s hT rfl rfl ⟨aU _,aU _⟩
 ·intro ps rw _ _ h' D _
  have n: ∀{i j:Nat} {a b:ai} {x y:SO},ah _ i=U (a,x)->ah _ j=U (b,y)->x.lv->y.lv->i≠j->a≠b:=λe e' l l' n=>D.ne e e' l l' n
  exact k h' (U _) (U _) (U _) (D.ua (Fa.is ((D.am 0 p _ rfl).trans rfl) (b9 (n (i:=0) (j:=1) rfl rfl tI tI dd)<|b9 (n (i:=0) (j:=2) rfl rfl tI tI dd)<|b9 (n (i:=0) (j:=3) rfl rfl tI tI dd) bj) (dK<|c7 tI d2)<|Fa.is ((D.am 1 A _ rfl).trans rfl) (b9 (n (i:=1) (j:=2) rfl rfl tI tI dd)<|b9 (n (i:=1) (j:=3) rfl rfl tI tI dd) bj) (c7 (dW<|bU<|bU<|bU aY)<|dK<|kD rfl<|kD rfl<|dN<|dN<|dN d2)<|Fa.ls ((D.am 2 pl _ rfl).trans rfl) (b9 (n (i:=2) (j:=3) rfl rfl tI tI dd) bj)<|Fa.di ((D.am 3 z _ rfl).trans rfl) bj Fa.nl)
   (jd ⟨0,_,rfl⟩<|jd ⟨1,_,rfl⟩<|jd ⟨2,_,rfl⟩<|jd ⟨3,_,rfl⟩ Ff))
end
noncomputable def ph:List Int->Int
 |[]=>249
 |_::_=>243
noncomputable def pf(W:Wt):List Int->List Int
 |[]=>[]
 |n::B=>nO W (.fd n)++(ph B::pf W B)
theorem K8 W: ∀l,mB W l++[249]=ph l::pf W l
 |[]=>rfl
 |n::l=>by show n3 (W.f n) (96+n.toNat)++mB W l++[249]=243::(nO W (.fd n)++(ph l::pf W l));rw[aX,K8 W l];rfl
theorem DC W: ∀l,(pf W l).length=18*l.length
 |[]=>rfl
 |n::l=>by show(nO W (.fd n)++(ph l::pf W l)).length=_;rw[aC,eU,DC W l,eU,pC,c5,cH];rfl
section
abbrev FJ(W:Wt)(st kn a:ai)(T:List Int)(p:Nat)(D A:List Int):G:=[(st,eO T p),(kn,.dict<|eJ W D),(a,.dict<|eJ W A)]
abbrev v9(W:Wt)(st kn a:ai)(o:SV)(x y:Option V):SL:=[U<|.ref 0 st,U<|.ref 1 kn,U<|.op<|lj W,U<|.ref 2 a,U o,x.map .op,y.map .op]
abbrev Uq(d m:Nat)(ρ:c6.L)(h:H)(P:Fl->c6.L->H->Prop):Prop:=iZ (λρ h a F=>(ao I (al I<|d+4) (.eY .ne (.x 4)<|.g 72) ρ).t h a F) (λρ h Q=>aZ I (al I<|d+4) Kt ρ h Q) m ρ h P
theorem NW{g:G}(e0:ah g 0=U (j,a))(e1:ah g 1=U (l,b))(e2:ah g 2=U (h,c))(e:aN g o):a6 g<|v9 W j l h o x y:=bG e0 (bG e1<|aB<|bG e2<|aT e<|bI<|bI bk)
theorem Te:[V.int k,V.int s,V.int e,V.int 0,V.a8 b]=[V.int k,V.int s,V.int e,V.int 0,V.a8 b]/\[V.int k,V.int s,V.int e,V.int 0,V.a8 b].all (fT 7)=aa:=⟨rfl,rfl⟩
set_option smartUnfolding false in
theorem XF(wok:W.ok)(hT:T.length<=100000)(hD: ∀n∈D,1<=n/\n<=2): ∀L A p x y h,(A++L).Nodup->(∀n∈A++L,n∈D)->(A++L).length<=90->Hd hb B (FJ W a l j T p D A) h->At T p (pf W L)->(∀x y h',Hd hb B (FJ W a l j T (p+18*L.length) D<|A++L) h'->P .next (aq<|v9 W a l j (.int 249 .no) x y) h')->
  Uq d (L.length+1) (aq<|v9 W a l j (.int (ph L) .no) x y) h P:=λL=>by
 induction L with
 |nil=>
  intro A p x y h _ _ _ D' _ k
  rw[c9] at k
  exact fL (ρ:=v9 W a l j (aL 249) x y) [] [] D' (NW rfl rfl rfl ⟨aU _,aU _⟩) (.d λh' D _=>k x y h' D)
 |cons n L ih=>
  intro A p x y h nd m b D' t k
  have g:=λi=>(A0.mp nd).2.2 n i n (.head _) rfl
  have c:=m n (GQ _<|.head _)
  have e:=MC (W:=W) g
  have ea:A++n::L=A++[n]++L:=(aX A [n] L).symm
  have kl:(eJ W A).length<=100:=by unfold eJ;rw[bO];exact ak (ak (cm _ _)<|List.length_append▸b) (dd:90<=100)
  rw[ea] at nd m b k
  refine t.nD rfl λt1 t2=>fL (ρ:=v9 W a l j (aL 243) x y) [76,77,83] [.d (.aj [.int n .no,.op<|kq W n])<|u0 T<|p+17,.n,.f,.v<|.op<|kq W n,.n,.d (.int (ph L) .no)<|u0 T<|p+17+1] D' (NW rfl rfl rfl ⟨aU _,aU _⟩)
   (.c ⟨dW<|bM tI<|bE aY,λh Q D k=>LL wok (hD n c).1 (hD n c).2 t1 hT (D.am 0 a _ rfl) λh' w f=>k h'<|um D rfl f w⟩<|.c (QD g)<|.c ⟨re<|wh.1 c,tI⟩<|.c Te<|.c (cC kl)<|.c ?_<|.d λh' o _=>⟨h',H.le_refl _,?_⟩)
  ·exact iq rfl t2 hT rfl (zO _) tI
  ·exact ih (A++[n]) (p+18) (U<|.int n) (U<|kq W n) h' nd m b (e▸o:Hd hb B [(a,eO T<|p+18),(l,.dict<|eJ W D),(j,.dict<|eJ W<|A++[n])] h') (At.tl (At.gW t).2) λx y h' D'=>k x y h' (by rw[eU,pC,c5 (18*_) 18,<-cH];exact D')
end
theorem Xg: ∀m {h:H} {K:List V->H->Prop},K [] h->hU (p8 C (.eY .ne (.x 0)<|.g 73) (.x 0) []) bP (vi<|gp m 223) h K:=λm=>by
 induction m with
 |zero=>exact λk=>⟨tI,k⟩
 |succ m ih=>exact λk=>⟨tI,iV<|ap rfl<|oA rfl<|.zE<|gm (λq=>q rfl)<|ih k⟩
theorem aO2{g:G}{e:Int}(f:ah g i=U (a,eO T p))(t:At T p X)(hT:T.length<=100000)(hr:X.length=r)(c:e=r):ia d hb B (m+1) 78 [.ref i a,.int e b] g (.op<|.a8 X) [(i,eO T<|p+r)]:=c▸E4 f t hT hr
theorem vy m:(gp m (223:Int)).length=m:=GR ..
section
variable{x8 x9 x10:Option V}
abbrev lY(W:Wt)(cF:List V)(D:List Int)(ta a:Int):List<|Nat×V:=b8 [(53,BN),(54,.op<|.a8 xP),(43,.op<|.fl [yO cF]),(37,.op<|.fd<|eJ W D),(45,.int ta .no),(46,.int a .no),(42,aL 0)]
abbrev aA6(W:Wt)(st kn a:ai)(x y:Option V):SL:=[U<|.ref 0 st,U<|.ref 3 kn,U<|.op<|lj W,U<|.ref 4 a,U<|.int 249 .no,x.map .op,y.map .op]
abbrev uP(W:Wt)(T:List Int)(q:Nat)(D l:List Int):List<|Nat×SO:=[(0,eO T q),(3,.dict<|eJ W D),(4,.dict<|eJ W l)]
abbrev hC(W:Wt)(T:List Int)(p:Nat)(ta a:Int)(D l:List Int)(m:Nat):List bJ:=[.d (aL 23)<|u0 T<|p+1+4,.f,.d (aL 25400000)<|u0 T<|p+1+4+4,.d (aL 473628672)<|u0 T<|p+1+4+4+4,.d (aL 1000)<|u0 T<|p+1+4+4+4+4,.d (aL 1000) [],.d (.int ta .no)<|u0 T<|p+1+4+4+4+4+4,.d (.int a .no)<|u0 T<|p+1+4+4+4+4+4+4,.d (aL 0)<|u0 T<|p+1+4+4+4+4+4+4+2,.d (aL 1)<|u0 T<|p+1+4+4+4+4+4+4+2+2,.f,.d (.int (ph l) .no)<|u0 T<|p+1+29,
 .s (Option V×Option V) (λ_=>True) λg x=>(.next,aA6 W (gH g 0) (gH g 3) (gH g 4) x.1 x.2,d_ g<|uP W T (p+1+29+18*l.length) D l),.f,
 .d (.int p .no)<|u0 T<|p+1+29+18*l.length+4,.f,.d (aL 2)<|u0 T<|p+1+29+18*l.length+4+1,.n,.d (.op<|.a8<|gp m 223)<|u0 T<|p+1+29+18*l.length+4+1+m,.f,.d (.op<|.fl []) [],.f]
set_option smartUnfolding false in
theorem ag7(wok:W.ok)(hT:T.length<=100000)(pm:l.Perm D)(nd:D.Nodup)(hD: ∀n∈D,1<=n/\n<=2)(dl:D.length<=90)(bt: -2147483648<=ta/\ta <2147483648)(Z: -2147483648<=A/\A <2147483648)(m4:4<=m)(t:At T (p+1)<|aO 23 4++([1,131,146,192]++([28,59,0,0]++([0,0,3,232]++(aO ta 4++(aO A 4++(aO 0 2++(aO 1 2++([ph l]++(pf W l++(aO p 4++([2]++gp m 223))))))))))))
  (N:T.length=p+1+29+18*l.length+4+1+m) (Dh:Hd hb [] (gB o dv pl X T (p+1) [yO z]<|eJ W D) h) (k: ∀h',H.le hb h'->Q (.fz dv 11<|lY W z D ta A) h'):aZ I (al I<|d+6) (dp 8 tR) (aq<|zf W T 0 1 o dv (.int 23 .no) (aL 248) (x8.map .op) (x9.map .op)<|x10.map .op) h<|ie Q:=by
 have m9:m<=1000000:=ak (ak (by rw[N];exact uT _ _) hT) dd
 refine t.dy (cK _ 4) λt1 t=>t.dy rfl λt2 t=>t.dy rfl λt3 t=>t.dy rfl λt4 t=>t.dy (cK _ 4) λt5 t=>t.dy (cK _ 4) λt6 t=>t.dy (cK _ 2) λt7 t=>t.dy (cK _ 2) λt8 t=>t.dy rfl λt9 t=>t.dy (DC W l) λw t=>t.dy (cK _ 4) λq t=>t.dy rfl λK s=> ?_
 refine gG [76,77,78] (hC W T p ta A D l m) Dh (aB<|aB<|bG rfl<|aT (dW<|bU<|bU<|bU aY)<|gx<|bG rfl<|aT tI<|gx<|bI<|bI<|bI bk)
  (.c ?_<|.c ?_<|.c ?_<|.c ?_<|.c ?_<|.c ?_<|.c ⟨rfl,rfl⟩<|.c ?_<|.c ?_<|.c ?_<|.c ?_<|.c ?_<|.c ?_<|.c ?_<|.c ?_<|.c ?_<|.c ?_<|.c ?_<|.c ?_<|.c ?_<|.c ?_<|.c ?_<|.c ?_<|.c ?_<|.c ?_<|.c ?_<|.c ?_<|.d ?_)
 ·exact l6 rfl t1 hT (cK _ 4) dd dd dd ⟨aU _,aU _⟩
 ·exact λc=>c rfl
 ·exact l6 rfl t2 hT rfl dd dd dd ⟨aU _,aU _⟩
 ·exact l6 rfl t3 hT rfl dd dd dd ⟨aU _,aU _⟩
 ·exact l6 rfl t4 hT rfl dd dd dd ⟨aU _,aU _⟩
 ·exact⟨⟨aU _,aU _⟩,λh Q D k=>eP<|ay<|ap rfl<|bg<|.Nw (l:=[473628672,1000])<|k h D⟩
 ·exact l6 rfl t5 hT (cK _ 4) dd dd (yY bt.1 bt.2) tI
 ·exact l6 rfl t6 hT (cK _ 4) dd dd (yY Z.1 Z.2) tI
 ·exact iq rfl t7 hT (cK _ 2) rfl ⟨aU _,aU _⟩
 ·exact iq rfl t8 hT (cK _ 2) rfl ⟨aU _,aU _⟩
 ·exact(dd:1<=1000000)
 ·exact λc=>c rfl
 ·exact λf=>iq (r:=1) rfl t9 hT rfl (zO _) tI
 ·intro f
  refine oO (λx _=>bG rfl<|bG rfl<|aB<|bG rfl<|aT tI<|bI<|bI bk) (λ_ _=>iW (uP W T (p+1+29+18*l.length) D l) _) λh1 P Dd q'=>uJ (XF (hb:=h1) (B:=[o,X,f]) wok hT hD l [] (p+1+29) Y Y h1 ?_ ?_ ?_ ?_ w λx y h' D'=>q' (x,y) h' tI ?_)
  ·exact pm.nodup_iff.mpr nd
  ·exact λn i=>pm.mem_iff.mp i
  ·exact pm.length_eq▸dl
  ·have n: ∀{i j:Nat} {a b:ai} {x y:SO},ah _ i=U (a,x)->ah _ j=U (b,y)->x.lv->y.lv->i≠j->a≠b:=λe e' l l' n=>Dd.ne e e' l l' n
   exact Hd.of (g:=FJ W o X f T (p+1+29) D []) (Fa.is ((Dd.am 0 o _ rfl).trans rfl) (b9 (n (i:=0) (j:=3) rfl rfl tI tI dd)<|b9 (n (i:=0) (j:=4) rfl rfl tI tI dd) bj) (dK<|c7 tI d2)<|Fa.di ((Dd.am 3 X _ rfl).trans rfl) (b9 (n (i:=3) (j:=4) rfl rfl tI tI dd) bj)<|Fa.di ((Dd.am 4 f _ rfl).trans rfl) bj Fa.nl)
  ·exact Dd.go (u:=uP W T (p+1+29+18*l.length) D l) D'.f (dg rfl tI ((D'.am 0 o _ rfl).trans rfl) (mm<|dK<|c7 tI d2)<|dg rfl tI ((D'.am 1 X _ rfl).trans rfl) tI<|dg rfl tI ((D'.am 2 f _ rfl).trans rfl) tI d7)
 ·exact λf x _=>cC (by unfold eJ;rw[bO,pm.length_eq];exact ak dl dd)
 ·exact λf x _=>cC (by unfold eJ;rw[bO];exact ak dl dd)
 ·exact λf x _ c=>c (by unfold eJ;rw[bO,bO,pm.length_eq])
 ·exact λf x _=>iq rfl q hT (cK _ 4) (vS (dx p)<|g8 (bT.mpr<|ak (by rw[N];simp only[cH];exact cm _ _) hT) dd) tI
 ·exact λf x _ c=>c (mq (p) 1).symm
 ·exact λf x _=>iq rfl K hT rfl rfl ⟨aU _,aU _⟩
 ·exact λf x _=>(ak hT dd)
 ·exact λf x _=>aO2 rfl s hT (vy m) (by rw[N];exact Int.sub_eq_iff_eq_add.mpr<|(qY _ _).trans<|iy _ _)
 ·exact λf x _=>(ak (jG<|vy m) m9)
 ·exact λf x _=>(fH.mpr<|bT.mpr<|ak m4<|jG (vy m).symm)
 ·exact λf x _=>⟨tI,λh Q D k=>km<|jQ<|ap rfl<|.KS ⟨by rw[cQ,vy m];exact m9,jC<|Xg m<|k h D⟩⟩
 ·exact λf x _ c=>c rfl
 ·exact λf x _ h' D _=>⟨h',H.le_refl _,k h'<|a9 D.f⟩
end
section
variable{R:List bm}
theorem YU n:4<=mE n:=by
 have:(0)<= -(n:Int)% 4:=pz _ dd
 exact aU8 (n8 this:(4)<=4+ -(n:Int)% 4)
abbrev BB(W:Wt)(p:Nat)(ta a:Int)(l:List Int)(m:Nat):List Int:=aO 23 4++([1,131,146,192]++([28,59,0,0]++([0,0,3,232]++(aO ta 4++(aO a 4++(aO 0 2++(aO 1 2++([ph l]++(pf W l++(aO p 4++([2]++gp m 223)))))))))))
theorem aA4 W R ta wi l: ∃m,4<=m/\ut W (eK++iM W R) ta wi l=eK++([139]++(sx oN++(aO (-1) 4++([dV R.reverse]++(dY W R.reverse++([248]++BB W (eK++iM W R).length ta wi l m)))))):=by
 refine⟨mE (uL W (eK++iM W R) ta wi l).length,YU _,?_⟩
 have e1:iM W R=[139]++(sx oN++(aO (-1) 4++([dV R.reverse]++dY W R.reverse))):=by
  unfold iM
  rw[Mr,aX,FR];rfl
 unfold ut
 generalize mE _=m
 unfold uL o9
 have e2: ∀X,mB W l++([249]++X)=[ph l]++(pf W l++X):=λX=>by rw[<-aX,K8];rfl
 generalize(eK++iM W R).length=p
 rw[e1]
 simp only[aX]
 rw[e2];rfl
theorem ae6(wok:W.ok)(g:fj R)(o:k6 W R)(rl:R.length<=90)(pm:l.Perm<|eA R)(nd:(eA R).Nodup)(hD: ∀n∈eA R,1<=n/\n<=2)(f: -2147483648<=j/\j <2147483648)(e: -2147483648<=a/\a <2147483648)(b:T=ut W (eK++iM W R) j a l)(hT:T.length<=100000)
  (k: ∀h' dv,H.le h h'->Q (.fz dv 11<|lY W (bV W R).cF (eA R) j a) h'):al I (d+7) 93 [.a8 T,lj W] h Q:=
 (aA4 W R j a l).elim λm w=>by
  have t:At T 0<|eK++([139]++(sx oN++(aO (-1) 4++([dV R.reverse]++(dY W R.reverse++([248]++BB W (eK++iM W R).length j a l m)))))):=⟨[],[],by rw[c9,b];exact w.2,rfl⟩
  have ep:(eK++iM W R).length=69+(dY W R.reverse).length:=by
   unfold iM
   rw[Mr,aX,FR,aC,aC,eU,show eK.length=23 from rfl,show i9.length=45 from rfl];lia
  rw[ep] at t
  have eL:T.length=69+(dY W R.reverse).length+1+29+18*l.length+4+1+m:=by
   rw[b,w.2,ep]
   simp only[aC,cK,DC,vy]
   show 23+(1+(40+(4+(1+((dY W R.reverse).length+(1+(4+(4+(4+(4+(4+(4+(2+(2+(1+(18*l.length+(4+(1+m))))))))))))))))))=_
   lia
  refine t.dy rfl λt1 c=>c.dy rfl λt2 t3=> ?_
  have t4:=t3.dy rfl λ_ t=>t.dy rfl λ_ t=>t.dy rfl λ_ t=>t.dy rfl λ_ t=>t.dy rfl λ_ t=>t
  have t0:At T 0<|eK++[139]:=(At.gW (Yqv:=sx oN++(aO (-1) 4++([dV R.reverse]++(dY W R.reverse++([248]++BB W (69+(dY W R.reverse).length) j a l m))))) t).1
  exact e9 (fn:=QK) rfl rfl (aR1 hT t0 λst dv i kn h1 D1=>ZU wok hT g o rl (aU5 R).symm t3 rfl D1 λh2 x8 x9 x10 D2=>ag7 wok hT pm nd hD (ak (yQ R) rl) f e w.1 t4 eL D2 λh3 l3=>k h3 dv l3)
end
section
theorem an9: ∀c {S:oS},pp W S (er c)=pp W S c
 |.mv _ _|.dn _|.fd _|.fn _|.ch _=>rfl
theorem ID: ∀R,bV W (R.map er)=bV W R:=λR=>by
 induction R with
 |nil=>rfl
 |cons c R ih=>show pp W (bV W<|R.map er) (er c)=pp W (bV W R) c;rw[ih,an9]
theorem WY{L M}(e:eA L=eA M): ∀c,eA (er c::L)=eA (c::M)
 |.mv _ _|.dn _|.fn _|.ch _=>e
 |.fd n=>aA (· ++[n]) e
theorem JV: ∀R,eA (R.map er)=eA R:=λR=>by
 induction R with
 |nil=>rfl
 |cons c R ih=>exact WY ih c
theorem Uz{L M}(e:bV W L=bV W M)(d:eA L=eA M):hO W L c=hO W M c:=by unfold hO;rw[e,d]
theorem aF5{L}: ∀c,hO W L (er c)=hO W L c
 |.mv _ _|.dn _|.fd _|.fn _|.ch _=>rfl
theorem ad9: ∀R,k6 W (R.map er)->k6 W R:=λR=>by
 induction R with
 |nil=>exact id
 |cons c R ih=>exact λo=>⟨Uz (ID R) (JV R)▸(aF5 c▸o.1),ih o.2⟩
theorem tW(x:cR i):nb i:=λc=>Hn x (AW dd c)
structure Iv(W:Wt)(E:List bm)(h v fn:Int)(cF:List V)(D:List Int):Prop where
 se:bV W E=⟨h,v,fn,cF⟩
 ok:k6 W E
 df:eA E=D
 nd:D.Nodup
 i2: ∀n∈D,1<=n/\n<=2
variable{E:List bm}
theorem Iv.mv(Iqv:Iv W E h v fn j D)(da:cR a)(dv:cR v):Iv W (xL a h E) a v fn j D:=by
 unfold xL
 by_cases e:a=h
 ·rw[aM e,e];exact Iqv
 ·rw[aE e]
  have x:h+(a -h)=a:=by rw[iy,Rk]
  refine⟨?_,⟨?_,Iqv.ok⟩,Iqv.df,Iqv.nd,Iqv.i2⟩
  ·show pp W (bV W E) _=_
   rw[Iqv.se];show oS.mk (h+(a -h)) (v+0) fn j=_
   rw[x,e7]
  ·show nb ((bV W E).h+(a -h))/\nb ((bV W E).v+0)
   rw[Iqv.se];show nb (h+(a -h))/\nb (v+0)
   rw[x,e7];exact⟨tW da,tW dv⟩
theorem Iv.dn(Iqv:Iv W E h v fn a D)(db:cR b)(dh:cR h):Iv W (qo b v E) h b fn a D:=by
 unfold qo
 by_cases e:b=v
 ·rw[aM e,e];exact Iqv
 ·rw[aE e]
  have x:v+(b -v)=b:=by rw[iy,Rk]
  refine⟨?_,⟨?_,Iqv.ok⟩,Iqv.df,Iqv.nd,Iqv.i2⟩
  ·show pp W (bV W E) _=_
   rw[Iqv.se];show oS.mk (h+0) (v+(b -v)) fn a=_
   rw[x,e7]
  ·show nb ((bV W E).h+0)/\nb ((bV W E).v+(b -v))
   rw[Iqv.se];show nb (h+0)/\nb (v+(b -v))
   rw[x,e7];exact⟨tW dh,tW db⟩
theorem Iv.fd(Iqv:Iv W E h v fn a D)(n1:1<=n/\n<=2):Iv W (qD n D E) h v fn a<|kt n D:=by
 unfold qD kt
 by_cases e:n∈D
 ·rw[aM e,aM e];exact Iqv
 ·rw[aE e,aE e]
  exact⟨Iqv.se,⟨⟨n1,Iqv.df▸e⟩,Iqv.ok⟩,aA (· ++[n]) Iqv.df,A0.mpr ⟨Iqv.nd,.cons (λ_ m=>dB m) .nil,λx m y i q=>e<|b_.mp i▸q▸m⟩,λm i=>(pG.mp i).elim (Iqv.i2 m) λi=>b_.mp i▸n1⟩
theorem aH1:n∈kt n D:=by
 unfold kt
 by_cases e:n∈D
 ·rw[aM e];exact e
 ·rw[aE e];exact GQ _ (.head _)
theorem V9:(kt n D).length<=D.length+1:=by
 unfold kt
 split
 ·exact jm _
 ·rw[aC];exact dP _
theorem Iv.sf(Iqv:Iv W E h v fn a D)(m:n∈D):Iv W (qq n fn E) h v n a D:=by
 unfold qq
 by_cases e:n=fn
 ·rw[aM e,e];exact Iqv
 ·rw[aE e]
  refine⟨?_,⟨⟨Iqv.i2 n m,Iqv.df▸m⟩,Iqv.ok⟩,Iqv.df,Iqv.nd,Iqv.i2⟩
  show pp W (bV W E) _=_
  rw[Iqv.se];rfl
theorem Iv.ch(Iqv:Iv W E h v fn a D)(n1:1<=fn/\fn<=2)(p:(W.f fn).dE c)(dw:cR<|h+cw W fn c)(dv:cR v):Iv W (.ch c::E) (h+cw W fn c) v fn (a++[.aj [.int 0,.int h,.int v,.int fn,.int c]]) D:=by
 refine⟨?_,⟨?_,Iqv.ok⟩,Iqv.df,Iqv.nd,Iqv.i2⟩
 ·show pp W (bV W E) _=_
  rw[Iqv.se];show oS.mk _ (v+0) _ _=_
  rw[e7]
 ·show(1<=(bV W E).fn/\(bV W E).fn<=2)/\(W.f (bV W E).fn).dE c/\nb ((bV W E).h+cw W (bV W E).fn c)/\nb ((bV W E).v+0)
  exact Iqv.se▸⟨n1,p,tW dw,(e7 v).symm▸tW dv⟩
theorem zp{i:Decidable p}{R}{c:bm}:(if p then R else c::R).length<=R.length+1:=by
 split
 ·exact jm _
 ·exact dP _
theorem ax9:(Gb n c a b h v fn D E).length<=E.length+5:=cg (ak zp<|cg<|ak zp<|cg<|ak zp<|cg zp)
end
noncomputable def jS(bY a:Int)(q:Pp):List V:=match q.p with
 |.lt c=>[.aj [.int 0,.int a,.int bY,.int q.f.n,.int c]]
 |.kn _=>[]
noncomputable def d4(bY left:Int):Int->List Pp->List V
 |_,[]=>[]
 |n,q::qs=>jS bY (left+n) q++d4 bY left (n+q.wd) qs
section
abbrev wU(W:Wt)(s:k3)(cF:List V):Prop:=Iv W s.E s.hh s.vv s.fn cF s.D
theorem Y4(o:kx W q)(l:wc j a q s u t)(Iqv:wU W s h):wU W (iO j a q s)<|h++jS j a q:=by
 obtain⟨f,x,p⟩:=q
 cases p with
 |kn w=>exact(c9 h).symm▸Iqv
 |lt c=>
  have n1:1<=f.n/\f.n<=2:=⟨o.n1,o.n2⟩
  have b:=o.f
  have e:=aA (λf=>(iY f c).1) b
  have dw:cR<|a+(iY f c).1:=l.dw
  show Iv W _ (a+(iY f c).1) _ _ _ _
  rw[e] at dw⊢
  exact((((Iqv.mv l.da l.dv).dn l.db l.da).fd n1).sf aH1).ch n1 (b▸o.ok.p) dw l.db
theorem U8:(iO h a q s).E.length<=s.E.length+5:=by
 unfold iO
 cases q.p with
 |kn w=>exact cm _ _
 |lt c=>exact ax9
theorem Os:(iO h a q s).D.length<=s.D.length+1:=by
 unfold iO
 cases q.p with
 |kn w=>exact jm _
 |lt c=>exact V9
theorem UE(x:cR s.hh)(y:cR s.vv)(z:cR<|a+q.wd)(b:cR h):cR (iO h a q s).hh/\cR (iO h a q s).vv:=by
 unfold iO
 cases q.p with
 |kn w=>exact⟨x,y⟩
 |lt c=>exact⟨z,b⟩
theorem av9: ∀qs n s lo b cF,(∀q∈qs,kx W q)->qK a left n qs s lo b->wU W s cF->wU W (mQ a left n qs s) (cF++d4 a left n qs):=λqs=>by
 induction qs with
 |nil=>exact λn s lo b cF _ _ Iqv=>(c9 cF).symm▸Iqv
 |cons q qs ih=>
  intro n s lo b cF o r Iqv
  show wU W _ (cF++(jS a (left+n) q++d4 a left (n+q.wd) qs))
  rw[<-aX]
  exact ih _ _ _ _ _ (λq m=>o q<|.tail _ m) r.2 (Y4 (o q<|.head _) r.1 Iqv)
theorem aq2: ∀qs n s,(mQ a left n qs s).E.length<=s.E.length+5*qs.length:=λqs=>by
 induction qs with
 |nil=>exact λn s=>dP _
 |cons q qs ih=>exact λn s=>ak (ih _ _) (by rw[eU,pC,c5 (5*_) 5,<-cH];exact cL U8 _)
theorem Iq{k:Nat}{n:Int}(hk:k<=16)(hl:0<=left/\left<=1000)(h1: -2100000*k<=n)(h2:n<=60000000*k):cR<|left+n:=by
 unfold cR;lia
theorem X9(hl:0<=left/\left<=1000)(db:cR a): ∀qs (k:Nat) (n:Int) s,(∀q∈qs,q.ok)->k+qs.length<=16-> -2100000*k<=n->n<=60000000*k->cR s.hh->cR s.vv->s.D.length<=k->qK a left n qs s (45+30*k) k:=λqs=>by
 induction qs with
 |nil=>exact λk n s _ _ _ _ _ _ _=>tI
 |cons q qs ih=>
  intro k n s o hk h1 h2 dh dv dl
  rw[eU,c5 qs.length,<-cH] at hk
  have w:=(xV<|o q<|.head _).1
  have b:=ak (cm _ _) hk
  have h3: -2100000*((k+1:Nat))<=n+q.wd:=by rw[qY,qX];exact fU h1 w.1
  have h4:n+q.wd<=60000000*((k+1:Nat)):=by rw[qY,qX];exact fU h2 w.2
  have dw:=gq left n q.wd▸Iq b hl h3 h4
  have c:=UE dh dv dw db
  exact⟨⟨(Iq (mr b) hl h1 h2),db,dh,dv,dw,ak dl<|Nat.le_trans b dd|>mr,ak (eH (jl 30<|Nat.le_of_succ_le b) 45) dd,ak (mr b) dd⟩,ih (k+1) _ _ (λq m=>o q<|.tail _ m) hk h3 h4 c.1 c.2<|Nat.le_trans Os<|Nat.succ_le_succ dl⟩
end
noncomputable abbrev nH:H:=λ_=>Y
noncomputable abbrev lV(l:Int×Int×Int):V:= .aj [.int l.1,.int l.2.1,.int l.2.2]
noncomputable abbrev rV(r:Int×Bool×Int):V:= .aj [.int r.1,.bool r.2.1,.int r.2.2]
def aW.v(M:aW):V:= .aj [.fl<|M.ls.map lV,.fl<|M.rs.map rV,.int M.ck,.int M.de]
theorem aN0: ∀{xs:List Int} {n:Nat},n <xs.length-> ∃x,x∈xs/\ah (vi xs) n=U (.int x):=λ{xs}=>by
 induction xs with
 |nil=>exact λh=>nomatch h
 |cons x xs ih=>exact λ{n}=>match n with
  |0=>λ_=>⟨x,.head _,rfl⟩
  |n+1=>λh=>(ih<|xk h).elim λy w=>⟨y,.tail _ w.1,w.2⟩
theorem AK{k:Int}(h0:0<=k)(h:k <xs.length): ∃x,x∈xs/\ah (vi xs) k.toNat=U (.int x):=aN0 (mo.mp<|by rw[Rn h0];exact h)
noncomputable abbrev aI:bJ:= .c Int (λ_ _=>True) λ_ x=>(.int x .no,[])
section
set_option smartUnfolding false in
theorem B3(hl:xs.length<=63)(h0:0<=k)(h2:k<=2)(kk: ∀c h',H.le h h'->Q (.int c) h'):al I (d+1) 101 [.fl<|vi xs,.int k] h Q:=
 cf [] [aI] (Hd.of Fa.nl) (bE<|cD h0 h2 aY)
  (.c (cC<|by rw[cQ];exact ak hl dd) (.b (.c (λc=>(AK h0<|by rw[cQ] at c;exact c).elim λx w=>⟨x,tI,w.2,tI⟩)<|.d λ_ x _ h' D=>kk _ h'<|a9 D.f)
   (.c (λ_=>(AK (xs:=[667883746520804040339592396131,1000000000055096219,1000000000000658403]) h0<|g8 h2 dd).elim λx w=>⟨x,tI,w.2,tI⟩)<|.d λ_ x _ h' D=>kk _ h'<|a9 D.f)))
theorem aF8:cX.ok ⟨x% 10^90,y% 2147483629,0⟩ 0:=⟨pz _ dd,eT<|qT _ dd,pz _ dd,iR<|qT _ dd,aU _,aU _⟩
set_option smartUnfolding false in
theorem CE(k: ∀a b h',h a=Y->cX.ok b 0->h' a=U (cX.o b)->H.le h h'->Q (.ref a) h'):al I (d+1) 102 [.int c] h Q:=
 cf (vs:=[.int c .no]) [] [] (Hd.of Fa.nl) (bM tI aY) (.d λa h' D=>k a ⟨_,_,0⟩ h' (D.im (k:=0) rfl nofun) (aF8) (D.am 0 a _ rfl)<|a9 D.f)
theorem Un: ∀r A x h,A.length+r.length<=1000->(∀x h',H.le h h'->P .next [U a,U<|.fl<|vi<|bs<|A++r,x] h')->
  du (cq (al I<|d+1) (.x 2) KJ) bP (vi r) [U a,U<|.fl<|vi<|bs A,x] h P:=λr=>by
 induction r with
 |nil=>exact λA x h _ k=>⟨tI,(c9 A▸k) x h<|H.le_refl h⟩
 |cons w r ih=>
  intro A x h hl k
  refine⟨tI,(e6 x).subst (motive:=λy=>cq _ _ _ _ [_,_,y] h _)<|dA [] [.n] (Hd.of Fa.nl) (aB<|aB<|bI bk) (v:= .int w .no) tI<|.c ?_<|.d λh' D o=>⟨h',H.le_refl _,?_⟩⟩
  ·exact c3 (by rw[aC,cQ,rq];exact ak (cL (jl 4<|Nat.le_trans (cm _ _) hl) 4) dd)
  ·have e:vi (bs A)++vi (oc w)=vi (bs<|A++[w]):=by rw[tz,eE];rfl
   exact e▸ih (A++[w]) (U<|.int w) h' (by rw[aC,cH,c5 [w].length];exact hl) λx h2 l2=>(aX A [w] r).symm▸k x h2 (H.le_trans (a9 D.f) l2)
end
section
theorem L7: ∀ws,eg (bs ws)
 |[]=>OG
 |w::r=>gn (Ge w) (L7 r)
theorem Wo(hl:a.length<=1000)(k: ∀h',H.le h h'->Q (.a8<|bs a) h'):al I (d+2) 106 [.fl<|vi a] h Q:=
 e9 (fn:=Pb) rfl rfl (jO (w4 (bg (bA (iC (jQ (ap rfl (.fN (Un a [] Y h (by rw[j6,gM];exact hl) λx h' l=>
  bA<|mL<|eP<|ay<|ap rfl<|bg<|.Ua (L7 a) (c3<|by rw[rq];exact ak (jl 4 hl) dd) ⟨h',H.le_refl _,k h' l⟩)))))))))
theorem Fg(e:nM s=b):w*(s -s% b)/2^(20:Int).toNat=a7 w s:=by unfold a7;rw[e];rfl
set_option smartUnfolding false in
theorem aC2(sw:sR w)(s0:0 <s)(s1:s<=33554431)(k: ∀h',H.le h h'->Q (.int<|a7 w s) h'):al I (d+1) 107 [.int w,.int s] h Q:=
 cf (vs:=[.int w .no,.int s<|.b 1 33554431]) [] [.u] (Hd.of Fa.nl) (bM tI<|cD s0 s1 aY)
  (.b (.b (.c (λ_ _=>sw)<|.d λc a h' D=>Fg ((aE<|fH.mpr c).trans<|aE<|fH.mpr a)▸k h' (a9 D.f))
   (.c (λ_ _=>sw)<|.d λc a h' D=>Fg ((aE<|fH.mpr c).trans<|aM<|n6.mp a)▸k h' (a9 D.f)))
   (.c (λ_=>sw)<|.d λc h' D=>Fg (aM<|n6.mp c)▸k h' (a9 D.f)))
end
section
variable{M:aW}
abbrev j2(rs:List<|Int×Bool×Int)(x0 x1 x3 x4 x5 x6:V)(f:ai)(x8 x9 x10 cA:Option V):SL:=[U<|.op x0,U<|.op x1,U<|.op<|.fl<|rs.map rV,U<|.op x3,U<|.op x4,U<|.op x5,U<|.op x6,U<|.ref 0 f,x8.map .op,x9.map .op,x10.map .op,cA.map .op]
theorem rf{g:G}(e:ah g 0=U (f,o)):a6 g<|j2 l h x1 p x4 x5 x6 f j x9 x10 a:=aB (aB<|aB<|aB<|aB<|aB<|aB<|bG e<|bI<|bI<|bI<|bI bk)
theorem xT(h:X.length<=300):a_<|(vi X).length+1:=c3 (ak (cg<|ak (jG<|cQ X) h) dd)
theorem ED(e:v=w):vi X++[.int v]=vi (X++[w]):=by rw[eE,e];rfl
abbrev gf(f:ai)(X:List Int):G:=[(f,.list<|vi X)]
theorem rj(e:h f=U (.list<|vi X)):Hd h [f] (gf f X) h:=Hd.of (g:=gf f X) (Fa.ls e bj Fa.nl)
set_option smartUnfolding false in
theorem aq0: ∀(s:List<|Int×Int×Int) (i:Nat) (X:List Int) (x8:Option V) (h:c6.H),1<=i->i+s.length<=4->X.length+s.length<=300->h f=U (.list<|vi X)->
  (∀x8 h',h' f=U (.list<|vi<|X++vj ae i s)->Fr h h' [f]->P .next (aq<|j2 t p x1 u x4 x5 x6 f x8 x9 x10 j) h')->
  du (cq (al I<|d+1) (.x 8) AF) bP (ez i 1 s.length) (aq<|j2 t p x1 u x4 x5 x6 f x8 x9 x10 j) h P:=λs=>by
 induction s with
 |nil=>exact λi X x8 h _ _ _ e k=>⟨tI,k x8 h (by show h f=U (O.list<|vi<|X++[]);rw[c9];exact e) λ_ _ e _=>e⟩
 |cons l s ih=>
  intro i X x8 h b a hl e k
  rw[eU] at a hl
  refine⟨tI,dA [] [.n] (rj e) (rf rfl) (v:= .int i<|.b 1 3) ⟨bT.mpr b,bT.mpr<|Nat.le_of_succ_le_succ<|Nat.le_trans (eH (cg<|Nat.zero_le _) i) a⟩<|.c (xT<|Nat.le_trans (cm _ _) hl)<|.d λh' D o=>⟨h',H.le_refl _,?_⟩⟩
  refine ih (i+1) (X++[((i:Int)+1)*17891328+0]) (U<|.int i) h' (cg<|Nat.zero_le _) (by rw[cH,c5 1];exact a) (by rw[aC,cH,c5 [_].length];exact hl) ((D.am 0 f _ rfl).trans<|by rw[<-ED rfl];rfl) λx8 h2 e2 f2=>k x8 h2 ?_ (Fr.tr D.f f2)
  rw[aX] at e2;exact e2
theorem aE2(en:n=a.length)(hl:a.length<=4)(hx:X.length<=200)(e:h f=U (.list<|vi X))
  (k: ∀p h',h' f=U (.list<|vi<|X++vj (aW.b ⟨a,j,0,0⟩) 0 a)->Fr h h' [f]->P .next (aq<|j2 j u x1 z x4 x5 x6 f p x9 x10 t) h'):
  du (cq (al I<|d+1) (.x 8) AF) bP (ez 0 1 n) (aq<|j2 j u x1 z x4 x5 x6 f p x9 x10 t) h P:=by
 subst en
 cases a with
 |nil=>exact⟨tI,k p h (by show h f=U (O.list<|vi<|X++[]);rw[c9];exact e) λ_ _ e _=>e⟩
 |cons l a=>
  have go: ∀(y) (h1),y=(0+1)*17891328+bn (aW.b ⟨a,j,0,0⟩) 256->h1 f=U (.list<|vi X++[.int y])->Fr h h1 [f]->du (cq (al I<|d+1) (.x 8) AF) bP (ez 1 1 a.length) (aq<|j2 j u x1 z x4 x5 x6 f (U<|.int 0) x9 x10 t) h1 P:=λy h1 b e1 f1=>
   aq0 a 1 (X++[y]) (U<|.int 0) h1 (dP _) (c5 _ 1▸hl) (by rw[aC];exact ak (gQ (cL hx 1)<|Nat.le_of_succ_le hl) dd) (e1.trans<|by rw[ED rfl]) λp h2 e2 f2=>k p h2 (by rw[aX,b] at e2;exact e2) (Fr.tr f1 f2)
  have l3:=xT (ak hx (dd:200<=300))
  refine⟨tI,dA [] [.n] (rj e) (rf rfl) (v:=aL 0) ⟨aU _,aU _⟩<|.b (.c (λ_=>l3)<|.d λc h' D o=>⟨h',H.le_refl _,go _ h' ?_ (D.am 0 f _ rfl) D.f⟩)<|.c (λ_=>l3)<|.d λc h' D o=>⟨h',H.le_refl _,go _ h' ?_ (D.am 0 f _ rfl) D.f⟩⟩
  ·cases j with
   |nil=>exact absurd rfl c
   |cons=>rfl
  ·cases j with
   |nil=>rfl
   |cons=>exact absurd nofun c
end
section
variable{M:aW}
theorem aO4(n4:n<=4)(o:h9 n r):(65<=r.1/\r.1<=68)/\0<=r.2.2/\r.2.2<=68:=by
 have lt: ∀{x:Int},x <65+n->x<=68:=λh=>iR (jF h<|fI (bT.mpr n4) 65)
 obtain⟨p,c,q⟩:=r
 exact⟨⟨o.1.1,lt o.1.2⟩,match c,o.2 with
  |aa,w=>⟨w.1,az w.2 dd⟩
  |ae,w=>⟨az dd w.1,lt w.2⟩⟩
set_option smartUnfolding false in
theorem YG{p q i:Int}(b:(65<=p/\p<=68)/\0<=q/\q<=68)(hi:0<=i/\i<=2)(rl:a.length<=3)(hx:X.length<=300)(e:h f=U (.list<|vi X))
  (k: ∀j l h',(i+1=a.length/\j=128\/ ¬i+1=a.length/\j=0)->h' f=U (.list<|vi X++[.int<|vB j (p,c,q)])->Fr h h' [f]->P .next (aq<|j2 a o x1 t x4 x5 x6 f (U<|.int i) x9 (U<|rV (p,c,q)) l) h'):
  cq (al I<|d+1) (.aj<|.cons (.x 8)<|.cons (.x 10) .nil) EY (.aj [.int i,rV (p,c,q)]) (aq<|j2 a o x1 t x4 x5 x6 f u x9 x10 l) h P:=by
 have rl:a_ (a.map rV).length:=c3 (by rw[bO];exact ak rl dd)
 have l3:=xT hx
 have y: ∀{m:Nat},m=(a.map rV).length->m=a.length:=λh=>h.trans (bO ..)
 cases c with
 |true=>exact dA [] [.n,.n] (rj e) (rf rfl) (dW<|cD hi.1 hi.2<|bM (dW<|cD b.1.1 b.1.2<|bE<|cD b.2.1 b.2.2 aY) aY) (.c rl<|.b (.c (λ_=>l3)<|.d λc h' D _=>k 128 (U<|.int 128) h' (.inl ⟨c.trans (by rw[bO]),rfl⟩) (D.am 0 f _ rfl) D.f)<|.c (λ_=>l3)<|.d λc h' D _=>k 0 (U<|.int 0) h' (.inr ⟨λq=>c<|q.trans<|by rw[bO],rfl⟩) (D.am 0 f _ rfl) D.f)
 |false=>exact dA [] [.n,.n] (rj e) (rf rfl) (dW<|cD hi.1 hi.2<|bM (dW<|cD b.1.1 b.1.2<|bE<|cD b.2.1 b.2.2 aY) aY) (.c rl<|.b (.c (λ_=>l3)<|.d λc h' D _=>k 128 (U<|.int 128) h' (.inl ⟨c.trans (by rw[bO]),rfl⟩) (D.am 0 f _ rfl) D.f)<|.c (λ_=>l3)<|.d λc h' D _=>k 0 (U<|.int 0) h' (.inr ⟨λq=>c<|q.trans<|by rw[bO],rfl⟩) (D.am 0 f _ rfl) D.f)
theorem SU{i j:Int}{A n:Nat}(en:n=A+(s.length+1))(w:i+1=n/\j=128\/ ¬i+1=n/\j=0)(ei:i=A):j=p_ s:=by
 subst en ei
 cases s with
 |nil=>exact w.elim (·.2) λw=>absurd rfl w.1
 |cons r s=>exact w.elim (λw=>absurd (aU9 w.1)<|Nat.ne_of_lt<|Nat.add_lt_add_left (GH<|Nat.succ_pos _) A) (·.2)
theorem V3(n4:n<=4)(rl:a.length<=3): ∀(s A:List<|Int×Bool×Int) (i:Int) (X:List Int) (x8 x10 cA:Option V) (h:c6.H),a=A++s->i=A.length->(∀r∈s,h9 n r)->X.length+s.length<=300->h f=U (.list<|vi X)->
  (∀x8 x10 cA h',h' f=U (.list<|vi<|X++l_ s)->Fr h h' [f]->P .next (aq<|j2 a l x1 o x4 x5 x6 f x8 x9 x10 cA) h')->
  du (cq (al I<|d+1) (.aj<|.cons (.x 8)<|.cons (.x 10) .nil) EY) bP (lW i<|s.map rV) (aq<|j2 a l x1 o x4 x5 x6 f x8 x9 x10 cA) h P:=λs=>by
 induction s with
 |nil=>exact λA i X x8 x10 cA h _ _ _ _ e k=>⟨tI,k x8 x10 cA h (by show h f=U (O.list<|vi<|X++[]);rw[c9];exact e) λ_ _ e _=>e⟩
 |cons r s ih=>
  intro A i X x8 x10 cA h er ei b hl e k
  rw[eU] at hl
  have rl':A.length+(s.length+1)<=3:=ak (jG<|by rw[er,aC];rfl) rl
  refine⟨tI,YG (aO4 n4<|b r<|.head _) ⟨ei▸dx _,ei▸bT.mpr (xp<|Nat.le_trans (cg<|Nat.le_add_right _ s.length) rl')⟩ rl (ak (cm _ _) hl) e λj cA h1 w e1 f1=>⟨h1,H.le_refl _,?_⟩⟩
  refine ih (A++[r]) (i+1) (X++[vB j r]) _ _ _ h1 (by rw[er,aX];rfl) (by rw[ei,aC];rfl) (λr m=>b r<|.tail _ m) (by rw[aC,cH,c5 [_].length];exact hl) (e1.trans<|by rw[ED rfl]) λx8 x10 cA h2 e2 f2=>k x8 x10 cA h2 ?_ (Fr.tr f1 f2)
  rw[aX] at e2
  rw[SU (s:=s) (by rw[er,aC,eU]) w ei] at e2;exact e2
end
theorem yr{α:Type}{o:L}{F G}: ∀(ls:List α) {K:List V->H->Prop},(∀a∈ls,∀{Q:V->H->Prop},Q (G a) h->(ao I C j<|U (F a)::o).v h Q)->K (ls.map G) h->hU (p8 C (.c<|.bool aa) j o) bP (ls.map F) h K:=λls=>by
 induction ls with
 |nil=>exact λ_ k=>⟨tI,k⟩
 |cons l ls ih=>exact λhe k=>⟨tI,nu<|he l (.head _)<|ih (λa m=>he a<|.tail _ m) k⟩
section
variable{M:aW}{x0 x1 x3 x4 x5 x6:V}
noncomputable abbrev aG0(ls:List<|Int×Int×Int)(g:Int×Int×Int->Int):List bJ:=[.n,.n,.d (.op<|.fl<|ls.map λl=> .int<|g l) []]
set_option smartUnfolding false in
theorem Cj{a:List<|Int×Int×Int} g(c: ∀l,ah [V.int l.1,.int l.2.1,.int l.2.2] w.toNat=U (.int<|g l))(w0:0<=w)(w1:w<=2)(hx:X.length<=300)(hl:a.length<=4)(e:h f=U (.list<|vi X))
  (k: ∀b h',h b=Y->h' b=U (.list<|vi<|X++0::a.map g)->H.le h h'->P .next (aq<|j2 p x0 (.fl<|a.map lV) x3 x4 x5 x6 b t (U<|.int w) x10 o) h'):
  cq (al I<|d+1) (.x 9) Eh (.int w) (aq<|j2 p x0 (.fl<|a.map lV) x3 x4 x5 x6 f t x9 x10 o) h P:=by
 have l1:(vi X++[V.int 0]).length<=301:=by rw[aC,cQ];exact cg hx
 refine dA [] (aG0 a g) (rj e) (rf rfl) (v:= .int w .no) tI
  (.c (c3<|ak l1 dd)<|.c ⟨tI,λh Q D k=>km<|jQ<|ap rfl<|.fN ⟨c3 (by rw[bO];exact ak hl dd),m_ rfl<|jC<|yr a (λl _ Q q=>iL<|ap rfl<|ap rfl<|.nh w0 (az w1 dd) (c l) q)<|k h D⟩⟩<|.c ?_<|.d λb h' D _=>k b h' ?_ ?_ ?_)
 ·exact c3 (by rw[aC,bO];exact ak (gQ l1 hl) dd)
 ·exact D.im (k:=1) rfl (hI<|D.ne (i:=1) (j:=0) rfl rfl tI tI dd)
 ·exact(D.am 1 b _ rfl).trans (by rw[eE,aX];show _=U (O.list<|vi X++V.int 0::(a.map g).map V.int);rw[AZ];rfl)
 ·exact a9 (Fr.cB D.f<|(D.am 0 f _ rfl).trans e.symm)
end
noncomputable def iH:List (Int×Int)->List Int
 |[]=>[]
 |p::r=>p.1::p.2::iH r
theorem Qs{x i:Int}(e:cs=A++x::B)(ei:i=A.length)(l:A.length<=100)(hc:h c=U (.list<|vi cs))(k:Q (.int x) h):gi h Q (.ref c)<|.int i:=
 .om hc (ei▸dx _) (az (ei▸bT.mpr l) dd) (by rw[ei,e,eE,<-cQ A];exact qA _ _ _) k
theorem aj7(hc:h c=U (.list<|vi cs)): ∀(ps:List<|Int×Int) (A:List Int) (i:Int) {K:List V->H->Prop},cs=A++iH ps->i=A.length->A.length+2*ps.length<=100->(∀p∈ps,sR p.1)->K (ps.map λp=> .int<|p.1*65536+p.2) h->
  hU (p8 C (.c<|.bool aa) (.dT .add (.dT .mul (.ix (.x 1)<|.x 0)<|.c<|.int 65536)<|.ix (.x 1)<|.dT .add (.x 0)<|.c<|.int 1) [U<|.ref c]) bP (ez i 2 ps.length) h K:=λps=>by
 induction ps with
 |nil=>exact λA i K _ _ _ _ k=>⟨tI,k⟩
 |cons p ps ih=>
  intro A i K e ei l s k
  rw[eU,pC,c5<|2*_] at l
  have a:=ak (eH (cm _ _) _) l
  exact⟨tI,nu (eC (eC (iL (ap rfl (ap rfl (Qs e ei (mr<|Nat.le_of_succ_le a) hc (bl (.z_ (s p<|.head _) (iL (ap rfl (eC (ap rfl (bl (.jg (Qs (e.trans (aX A [p.1] _).symm) (by rw[ei,aC];rfl) (by rw[aC];exact mr a) hc
   (.jg<|ih (A++[p.1,p.2]) (i+2) (by rw[aX];exact e) (by rw[ei,aC];rfl) (by rw[aC,cH];exact l) (λp m=>s p<|.tail _ m) k))))))))))))))))⟩
section
variable{M:aW}
noncomputable abbrev Fc(n m:Nat):List Int:=[n+1,n+1,n+1,1,m,2,0,2]
abbrev tK(n m:Nat):List<|Int×Int:=[(8+n+(Fc n m).sum,2),(65,64+n),(n+1,n+1),(n+1,1),(m,2),(0,2)]
theorem ak1: ∀n <5,∀m <4,∀p∈tK n m,-9223372036854775808<=p.1/\p.1<=9223372036854775808:=dd
theorem Z7(en:n=M.ls.length)(em:m=M.rs.length):(tK n m).map (λp=>V.int<|p.1*65536+p.2)=vi M.DH:=by
 subst en em
 have:(8)+M.ls.length+(Fc M.ls.length M.rs.length).sum=4*M.n+M.m+16:=by
  show(8:Int)+M.ls.length+((M.ls.length+1)+((M.ls.length+1)+((M.ls.length+1)+(1+(M.rs.length+(2+(0+(2+0))))))))=4*M.ls.length+M.rs.length+16
  lia
 unfold tK
 rw[this];rfl
abbrev aE3(M:aW)(n m:Nat):List bJ:=[.n,.n,.d (.int (Fc n m).sum .no) [],.n,.d (.op<|.fl<|(tK n m).map λp=> .int<|p.1*65536+p.2) []]
abbrev WT(M:aW):SV:= .aj [.op<|.fl<|M.ls.map lV,.op<|.fl<|M.rs.map rV,.int M.ck .no,.int M.de<|.b 0 917519]
set_option smartUnfolding false in
theorem Z6(ok:M.ok)(k: ∀c f h',h f=Y->h' f=U (.list<|vi M.c0)->H.le h h'->aZ I (al I<|d+1) N5 (aq<|j2 M.rs M.v (.fl<|M.ls.map lV) (.int M.ck) (.int M.de) (.int (M.ls.map lV).length) (.ref c) f Y Y Y Y) h' P):
  aZ I (al I<|d+1) Nn (aq [U<|WT M,Y,Y,Y,Y,Y,Y,Y,Y,Y,Y,Y]) h P:=by
 have ln:(M.ls.map lV).length=M.ls.length:=bO ..
 have lm:(M.rs.map rV).length=M.rs.length:=bO ..
 refine j1 5 [] (aE3 M (M.ls.map lV).length (M.rs.map rV).length) (Hd.of Fa.nl) (aT (dW<|bE<|bE<|bM tI<|cD (az dd ok.d0) ok.d1 aY)<|aD<|aD<|aD<|aD<|aD<|aD<|aD<|aD<|aD<|aD<|aD bk)
  (.c ?_<|.c ?_<|.c ?_<|.c ?_<|.c ?_<|.d ?_)
 ·exact cC (ln▸ak ok.n4 dd)
 ·exact cC (lm▸ak ok.m3 dd)
 ·exact λc=>⟨tI,λh Q D k=>eP<|ay<|qO<|ap rfl<|bl<|bl<|.HV (D.am 0 c _ rfl) (dd:12<=1000000) dd<|bg<|.FW<|k h D⟩
 ·refine λc=>⟨tI,λh Q D k=>km<|i7<|ay<|bl<|ay<|bl<|ay<|bl<|bg<|.FF ⟨dd,dd⟩ ⟨dd,dd⟩ dd dd ⟨(dd:6<=1000000),m_ rfl<|jC<|aj7 (cs:=iH<|tK (M.ls.map lV).length (M.rs.map rV).length) (D.am 0 c _ rfl) (tK (M.ls.map lV).length (M.rs.map rV).length) [] 0 rfl rfl (dd:12<=100) ?_<|k h D⟩⟩
  exact ak1 _ (ln▸aV0 ok.n4) _ (lm▸aV0 ok.m3)
 ·exact λc=>(dd:8<=1000000)
 ·refine λc f h' D _=>k c f h' (D.im (k:=1) rfl nofun) ?_ (a9 D.f)
  exact(D.am 1 f _ rfl).trans (by rw[Z7 ln lm,eE];rfl)
end
theorem Cf(l:H.le h k)(n:k a=Y):h a=Y:=by
 cases e:h a with
 |none=>rfl
 |some x=>exact gI <|(l a x e).symm.trans n
theorem Au(l:H.le h j)(n:h a=Y)(f:Fr j o [a]):H.le h o:=λb y e=>f b y (l b y e) (hI λq=>gI <|(q▸e).symm.trans n)
section
variable{M:aW}{Q:V->H->Prop}
abbrev sM(M:aW)(c f:ai)(x8 x9 x10 cA:Option V):SL:=j2 M.rs M.v (.fl<|M.ls.map lV) (.int M.ck) (.int M.de) (.int (M.ls.map lV).length) (.ref c) f x8 x9 x10 cA
set_option smartUnfolding false in
theorem as4(hx:X.length<=40)(e:h f=U (.list<|vi X))(k: ∀h',H.le h h'->Q (.fl<|vi<|X++([-30001,50002]++[1000,349525])) h'):aZ I (al I<|d+1) Qk (aq<|sM M c f j x9 x10 a) h<|ie Q:=
 gG [] [.n,.n] (rj e) (rf rfl) (.c (cC<|by rw[aC,cQ];exact ak (cL hx 2) dd) (.c (cC<|by rw[aC,aC,cQ];exact ak (cL (cL hx 2) 2) dd)
  (.d λh' D _=>⟨h',H.le_refl _,by have k:=k h' (a9<|Fr.cB D.f<|(D.am 0 f _ rfl).trans e.symm);rw[<-aX,eE,eE] at k;exact k⟩)))
set_option smartUnfolding false in
theorem aH6(hx:X.length<=40)(e:h f=U (.list<|vi X))(k: ∀h',h' f=U (.list<|vi<|X++[0])->Fr h h' [f]->P .next (aq<|sM M c f j x9 x10 a) h'):ex I (al I<|d+1) (.expr<|.me (.x 7) 0<|.cons (.c<|.int 0) .nil) (aq<|sM M c f j x9 x10 a) h P:=
 gJ [] [.n] (rj e) (rf rfl) (.c (xT<|ak hx dd)<|.d λh' D _=>k h' ((D.am 0 f _ rfl).trans<|by rw[eE];rfl) D.f)
theorem ul(ok:M.ok)(hx:X.length<=n):(X++M.ta g).length<=n+5:=by rw[aC,sI];exact gQ hx (cg ok.n4)
theorem ah8(ok:M.ok)(hx:X.length<=15)(e:h f=U (.list<|vi X))(k: ∀a h',h a=Y->h' a=U (.list<|vi<|X++M.ta (·.1)++M.ta (·.2.1)++M.ta (·.2.2))->H.le h h'->P .next (aq<|sM M c a o (U<|.int 2) x10 j) h'):
  ex I (al I<|d+1) (.for (.x 9) (.bi .range<|.cons (.c<|.int 3) .nil) Eh) (aq<|sM M c f o x9 x10 j) h P:=
 iC (i7 (ay (bl (bg (.lN ⟨dd,dd⟩ ⟨tI,Cj (·.1) (λ_=>rfl) dd dd (ak hx dd) ok.n4 e λf3 h3 i e3 l3=>⟨h3,H.le_refl _,tI,Cj (·.2.1) (λ_=>rfl) dd dd (ak (ul ok hx) dd) ok.n4 e3 λf4 h4 n4 e4 l4=>⟨h4,H.le_refl _,tI,Cj (·.2.2) (λ_=>rfl) dd dd (ak (ul ok<|ul ok hx) dd) ok.n4 e4 λf5 b g e5 l5=>
  have l:=H.le_trans l3 l4
  ⟨b,H.le_refl _,tI,k f5 b (Cf l g) e5<|H.le_trans l l5⟩⟩⟩⟩)))))
theorem ah6(ok:M.ok)(k: ∀h',H.le h h'->Q (.fl<|vi M.W) h'):al I (d+2) 105 [M.v] h Q:=
 have lc:=by rw[aC,xU];exact eH ok.n4 8
 have lz:(M.c0++M.ci++M.ta (·.1)++M.ta (·.2.1)++M.ta (·.2.2)).length<=27:=ul ok (ul ok<|ul ok lc)
 e9 (fn:=IH) rfl rfl (Z6 ok λc f h1 n1 e1 l1=>
  bA (iC (i7 (ay (ap rfl (bg (.lN (BC<|by rw[bO];exact ak ok.n4 dd) (by
   exact aE2 (X:=M.c0) (bO ..) ok.n4 (dd:8<=200) e1 λx8 h2 e2 f2=>
    have l2:=Au l1 n1 f2
    bA (ah8 ok (ak lc dd) e2 λf3 h3 a e3 l3=>
     bA (aH6 (ak lz dd) e3 λh4 e4 f4=>
      bA (iC (An (ay (ap rfl (bg (.Eu (V3 ok.n4 ok.m3 M.rs [] 0 _ _ _ _ h4 rfl rfl ok.r (by rw[aC];exact ak (gQ (cg lz) ok.m3) dd) e4 λx8 x10 cA g e5 f5=>as4 (by rw[aC,aC,yf];exact ak (gQ (cg lz) ok.m3) dd) e5 λe b=>by
       have k:=k e (H.le_trans (Au (Au (H.le_trans l2 l3) (Cf l2 a) f4) (Cf l2 a) f5) b)
       unfold aW.W at k
       simp only[aX] at k⊢
       exact k)))))))))))))))))
end
abbrev ke(b:cX):SO:= .list [.int b.x,.int b.y,.int b.z]
abbrev hD(n u:Int)(i:Nat)(m:Int):bJ:= .c (Int×cX) (λ_ x=>(0<=x.1/\x.1 <n)/\cX.ok x.2 m) λ_ x=>(.int x.1<|.b 0 u,[(i,ke x.2)])
noncomputable abbrev hP(lo hi:Int):bJ:= .c Int (λ_ z=>lo<=z/\z<=hi) λ_ z=>(.int z<|.b lo hi,[])
theorem cX.ok.aG{b:cX}(o:b.ok m)(h:m<=n):b.ok n:=⟨o.x0,o.x1,o.y0,o.y1,o.z0,az o.z1 h⟩
section
variable{g:G}
theorem jD(e:ah g i=U (a,ke b))(ok:b.ok k)(n1:1<=n)(c:n<=u+1)(l:u<=1000000)(j:k<=1000):l8 d hb B (m+1) 103 [.ref i a,.int n w] g (Int×cX) (λx=>(0<=x.1/\x.1 <n)/\cX.ok x.2 (k+1)) (λx=>(.int x.1<|.b 0 u,[(i,ke x.2)])):=
 ⟨λx w=>⟨w.1.1,iR<|jF w.1.2 c⟩,λh Q D q=>yd (D.am i a _ e) ok ⟨n1,az c<|az (g9 l 1) dd⟩ (az j dd) λh' r b' r0 r1 o w f=>q (r,b') h' ⟨⟨r0,r1⟩,o⟩<|D.go (by unfold jq;rw[kO,e];exact f)<|dg e tI w tI d7⟩
theorem Ae{j a r:Int}(h:0<=r/\r <n)(en:n=xs.length)(hb: ∀z∈xs,j<=z/\z<=a): ∃y,(j<=y/\y<=a)/\ah (vi xs) r.toNat=U (den<|.int y<|.b j a)/\aN g (.int y<|.b j a):=
 (AK h.1<|en▸h.2).elim λx w=>⟨x,hb x w.1,w.2,hb x w.1⟩
end
abbrev sB(l:Int×Int×Int):Prop:=(-70000<=l.1/\l.1<=2001000)/\(-70000<=l.2.1/\l.2.1<=2001000)/\(-70000<=l.2.2/\l.2.2<=2001000)
section
abbrev zJ(a l:ai)(b:cX)(ls:List<|Int×Int×Int):G:=[(a,ke b),(l,.list<|ls.map lV)]
noncomputable abbrev vd(a l:ai)(x2 x3 x4:Option V):SL:=[U<|.ref 0 a,U<|.ref 1 l,x2.map .op,x3.map .op,x4.map .op,Y,Y,Y,Y,Y]
abbrev SK(m:Int):List bJ:=[hD 6 5 0<|m+1,hP (-70000) 2000000,hD 1000 999 0<|m+1+1,hD 3 2 0<|m+1+1+1,hP (-3) 700001,hD 3 2 0<|m+1+1+1+1,hP (-5) 200003,.n]
theorem Mh{g:G}(e:ah g 0=U (a,o))(e1:ah g 1=U (l,p)):a6 g<|vd a l x2 h x4:=bG e (bG e1<|bI<|bI<|bI<|aD<|aD<|aD<|aD<|aD bk)
theorem Oq{α:Type}{P:α->Prop}{l}{x}(h: ∀y∈l,P y)(p:P x): ∀y∈l++[x],P y:=λy m=>(pG.mp m).elim (h y) λm=>b_.mp m▸p
set_option smartUnfolding false in
theorem YC(ok:b.ok m)(m9:m<=900)(ll:o.length<=90)(lo: ∀l∈o,sB l)(D:Hd hb B (zJ a l b o) h)
  (k: ∀x b' x2 j x4 h',sB x->cX.ok b' (m+4)->Hd hb B (zJ a l b'<|o++[x]) h'->P .next (aq<|vd a l x2 j x4) h'):
  cq (al I<|d+1) (.x 2) Cm (.int i) (aq<|vd a l x2 j x4) h P:=by
 have l0:m<=1000:=az m9 dd
 have l1:=g9 m9 1
 have l2:=g9 l1 1
 refine dA [103] (SK m) D (Mh rfl rfl) (v:= .int i .no) tI (.c ?_<|.c ?_<|.c ?_<|.c ?_<|.c ?_<|.c ?_<|.c ?_<|.c ?_<|.d ?_)
 ·exact jD rfl ok dd dd dd l0
 ·exact λx w=>Ae (xs:=[0,524288,349525,1048576,-70000,2000000]) w.1 rfl dd
 ·exact λx w y v=>jD rfl w.2 dd dd dd (az l1 dd)
 ·exact λx w y v x2 w2=>jD rfl w2.2 dd dd dd (az l2 dd)
 ·exact λx w y v x2 w2 j w3=>Ae (xs:=[0,700001,-3]) w3.1 rfl dd
 ·exact λx w y v x2 w2 j w3 y2 c=>jD rfl w3.2 dd dd dd (az (g9 l2 1) dd)
 ·exact λx w y v x2 w2 j w3 y2 c x4 f=>Ae (xs:=[0,200003,-5]) f.1 rfl dd
 ·exact λx w y v x2 w2 j w3 y2 c x4 f y3 g=>cC (by rw[bO];exact ak (cg ll) dd)
 ·intro x w y v x2 w2 j w3 y2 c x4 f y3 g h' D' _
  have e:o.map lV++[lV (y+x2.1,y2,y3)]=(o++[(y+x2.1,y2,y3)]).map lV:=(qZ (l₂:=[(y+x2.1,y2,y3)])).symm
  exact k (y+x2.1,y2,y3) x4.2 (U<|.int i) (U<|.int<|y+x2.1) (U<|.int y2) h' ⟨⟨fU v.1 w2.1.1,az (fU v.2<|eT w2.1.2) dd⟩,⟨az dd c.1,az c.2 dd⟩,az dd g.1,az g.2 dd⟩ (f.2.aG<|aV1<|by rw[gq,gq,gq];rfl) (e.subst (motive:=λL=>Hd hb B [(a,ke x4.2),(l,.list L)] h') D')
end
section
theorem Xm: ∀(n:Nat) i m (b:cX) (ls:List<|Int×Int×Int) (x2 x3 x4:Option V) {hb h:H} {B:List ai},b.ok m->m+4*n<=900->ls.length+n<=90->(∀l∈ls,sB l)->Hd hb B (zJ a l b ls) h->
  (∀c b' x2 x3 x4 h',c.length=ls.length+n->(∀l∈c,sB l)->cX.ok b' (m+4*n)->Hd hb B (zJ a l b' c) h'->P .next (aq<|vd a l x2 x3 x4) h')->
  du (cq (al I<|d+1) (.x 2) Cm) bP (ez i 1 n) (aq<|vd a l x2 x3 x4) h P:=λn=>by
 induction n with
 |zero=>exact λi m b ls x2 x3 x4 hb h B ok _ _ lo D k=>⟨tI,k ls b x2 x3 x4 h rfl lo ((e7 m).symm▸ok) D⟩
 |succ n ih=>
  intro i m b ls x2 x3 x4 hb h B ok m9 ll lo D k
  have e:m+4*((n+1:Nat))=m+4+4*n:=by rw[qY,qX,gq m,iy 4];rfl
  rw[e] at m9
  rw[c5 n,<-cH] at ll
  have n0:(0:Int)<=4*n:=AV dd (dx n)
  refine⟨tI,YC ok (az (n8 (dd:(0:Int)<=4))<|Int.le_trans (n8 n0) m9) (ak (cm _<|1+n)<|by rw[<-cH];exact ll) lo D λx b' x2 x3 x4 h' o f D'=>⟨h',H.le_refl _,?_⟩⟩
  refine ih (i+1) (m+4) b' (ls++[x]) x2 x3 x4 f m9 (by rw[aC];exact ll) (Oq lo o) D' λc b2 x2 x3 x4 h2 e2 j g D2=>k c b2 x2 x3 x4 h2 (e2.trans<|by rw[aC,cH,c5 n];rfl) j (e▸g) D2
abbrev qg(a l t:ai)(b:cX)(ls:List<|Int×Int×Int)(rs:List<|Int×Bool×Int):G:=[(a,ke b),(l,.list<|ls.map lV),(t,.list<|rs.map rV)]
noncomputable abbrev uy(a l t:ai)(x2 x3 x4 x6 x7:Option SV):SL:=[U<|.ref 0 a,U<|.ref 1 l,x2,x3,x4,U<|.ref 2 t,x6,x7,Y,Y]
theorem AB{g:G}{x2 h x4:Option V}(e:ah g 0=U (a,o))(e1:ah g 1=U (l,p))(e2:ah g 2=U (t,q))(w:a6 g [x6,x7,Y,Y]):a6 g<|uy a l t (x2.map .op) (h.map .op) (x4.map .op) x6 x7:=bG e (bG e1<|bI<|bI<|bI<|bG e2 w)
set_option smartUnfolding false in
theorem NI{m r:Int}{x2 p x4:Option V}(ok:b.ok m)(m9:m<=900)(n2:2<=j.length)(n4:j.length<=4)(rl:o.length<=90)(hr:0<=r/\r <j.length)(D:Hd hb B (qg a l t b j o) h)
  (k: ∀x b' h',h9 j.length x->cX.ok b' (m+1)->Hd hb B (qg a l t b' j<|o++[x]) h'->P .next (aq<|uy a l t (x2.map .op) (p.map .op) (x4.map .op) (U<|.int r .no)<|U<|.op<|.bool c) h'):
  aZ I (al I<|d+1) Ly (aq<|uy a l t (x2.map .op) (p.map .op) (x4.map .op) (U<|.int r .no)<|U<|.op<|.bool c) h P:=by
 have l0:m<=1000:=az m9 dd
 have rm:a_<|(o.map rV).length+1:=cC (by rw[bO];exact ak (cg rl) dd)
 have lm:a_ (j.map lV).length:=cC (by rw[bO];exact ak n4 dd)
 have e: ∀x,o.map rV++[rV x]=(o++[x]).map rV:=λx=>(qZ (l₂:=[x])).symm
 cases c with
 |true=>exact gG [103] [hD 2 1 0<|m+1] D (AB rfl rfl rfl<|aT tI<|aB<|aD<|aD bk) (.c (jD rfl ok dd dd dd l0)<|.c (λx w=>rm)<|.d λx w h' D' _=>k (65+r,aa,x.1) x.2 h' ⟨⟨n8 hr.1,Ro hr.2 65⟩,w.1.1,iR w.1.2⟩ w.2<|(e (65+r,aa,x.1)).subst (motive:=λL=>Hd hb B [(a,ke x.2),(l,.list<|j.map lV),(t,.list L)] h') D')
 |false=>exact gG [103] [hD j.length 3 0<|m+1] D (AB rfl rfl rfl<|aT tI<|aB<|aD<|aD bk) (.c lm<|.c (bO lV▸jD (n:=j.length) rfl ok (bT.mpr<|Nat.le_of_succ_le n2) (bT.mpr n4) dd l0)<|.c (λx w=>rm)<|.d λx w h' D' _=>k (65+r,ae,65+x.1) x.2 h' ⟨⟨n8 hr.1,Ro hr.2 65⟩,n8 w.1.1,Ro w.1.2 65⟩ w.2<|(e (65+r,ae,65+x.1)).subst (motive:=λL=>Hd hb B [(a,ke x.2),(l,.list<|j.map lV),(t,.list L)] h') D')
set_option smartUnfolding false in
theorem aH4{x2 u x4:Option V}{x6 x7:Option V}(ok:b.ok m)(m9:m<=890)(n2:2<=j.length)(n4:j.length<=4)(rl:p.length<=90)(D:Hd hb B (qg a l t b j p) h)
  (k: ∀x b' (x2 x6 x7:Option V) h',h9 j.length x->cX.ok b' (m+3)->Hd hb B (qg a l t b' j<|p++[x]) h'->P .next (aq<|uy a l t (x2.map .op) (u.map .op) (x4.map .op) (x6.map .op)<|x7.map .op) h'):
  cq (al I<|d+1) (.x 2) F4 (.int i) (aq<|uy a l t (x2.map .op) (u.map .op) (x4.map .op) (x6.map .op)<|x7.map .op) h P:=
 have l1:=g9 m9 1
 have l2:=g9 l1 1
 have e3: ∀{b':cX},b'.ok (m+1+1+1)->b'.ok (m+3):=λo=>o.aG (aV1<|by rw[gq,gq];rfl)
 eI (j1 2 [103] [hD j.length 3 0<|m+1,hD 2 1 0<|m+1+1] D (AB (x2:=U<|.int i) rfl rfl rfl<|bI<|bI<|aD<|aD bk)
  (.c (cC<|by rw[bO];exact ak n4 dd) (.c (bO lV▸jD (n:=j.length) rfl ok (bT.mpr<|mr n2) (bT.mpr n4) dd (az m9 dd)) (.c (λx w=>jD rfl w.2 dd dd dd<|az l1 dd)
   (.c (λx w y v c h' D' _=>NI v.2 (az l2 dd) n2 n4 rl w.1 D' λz b' h2 o e D2=>k z b' (U<|.int i) (U<|.int x.1) (U<|.bool aa) h2 o (e3 e) D2)
    (.d λx w y v c h' D' _=>NI v.2 (az l2 dd) n2 n4 rl w.1 D' λz b' h2 o e D2=>k z b' (U<|.int i) (U<|.int x.1) (U<|.bool ae) h2 o (e3 e) D2))))))
end
section
abbrev zL(a l t:ai)(x2 x3 x4 x6 x7:Option V):SL:=uy a l t (x2.map .op) (x3.map .op) (x4.map .op) (x6.map .op) (x7.map .op)
theorem aw4(n2:2<=j.length)(n4:j.length<=4): ∀(n:Nat) i m (b:cX) (rs:List<|Int×Bool×Int) (x2 x3 x4 x6 x7:Option V) {hb h:H} {B:List ai},b.ok m->m+3*n<=890->rs.length+n<=90->(∀r∈rs,h9 j.length r)->Hd hb B (qg a l t b j rs) h->
  (∀c b' x2 x6 x7 h',c.length=rs.length+n->(∀r∈c,h9 j.length r)->cX.ok b' (m+3*n)->Hd hb B (qg a l t b' j c) h'->P .next (aq<|zL a l t x2 x3 x4 x6 x7) h')->
  du (cq (al I<|d+1) (.x 2) F4) bP (ez i 1 n) (aq<|zL a l t x2 x3 x4 x6 x7) h P:=λn=>by
 induction n with
 |zero=>exact λi m b rs x2 x3 x4 x6 x7 hb h B ok _ _ q D k=>⟨tI,k rs b x2 x6 x7 h rfl q ((e7 m).symm▸ok) D⟩
 |succ n ih=>
  intro i m b rs x2 x3 x4 x6 x7 hb h B ok m9 rl q D k
  have e:m+3*((n+1:Nat))=m+3+3*n:=by rw[qY,qX,gq m,iy 3];rfl
  rw[e] at m9
  rw[c5 n,<-cH] at rl
  have n0:(0:Int)<=3*n:=AV dd (dx n)
  refine⟨tI,aH4 ok (az (n8 (dd:(0:Int)<=3))<|Int.le_trans (n8 n0) m9) n2 n4 (ak (cm _<|1+n)<|by rw[<-cH];exact rl) D λx b' x2 x6 x7 h' o f D'=>⟨h',H.le_refl _,?_⟩⟩
  refine ih (i+1) (m+3) b' (rs++[x]) x2 x3 x4 x6 x7 f m9 (by rw[aC];exact rl) (Oq q o) D' λc b2 x2 x6 x7 h2 e2 g p D2=>k c b2 x2 x6 x7 h2 (e2.trans<|by rw[aC,cH,c5 n];rfl) g (e▸p) D2
theorem aO5(n2:2<=a.length)(n4:a.length<=4)(m3:h.length<=3)(lo: ∀l∈a,sB l)(e: ∀r∈h,h9 a.length r)(c:0<=j/\j <65536)(hx:0<=x/\x <10)(b:0<=y/\y <16):aW.ok ⟨a,h,j,65536*(5+x)+y⟩:=
 ⟨n2,n4,m3,lo,e,c.1,c.2,fU (pE (fI hx.1 5) dd) b.1,fU (pE (fI (iR (show x <9+1 from hx.2)) 5) dd)<|iR (show y <15+1 from b.2)⟩
set_option smartUnfolding false in
theorem av5{Q:V->H->Prop}(ok:b.ok m)(m9:m<=900)(n2:2<=j.length)(n4:j.length<=4)(m3:o.length<=3)(lo: ∀l∈j,sB l)(c: ∀r∈o,h9 j.length r)(D:Hd hb B (qg a l t b j o) h)
  (k: ∀(M:aW) h',M.ok->Q M.v h'):aZ I (al I<|d+1) N2 (aq<|zL a l t x2 p x4 x6 x7) h<|ie Q:=by
 have l1:=g9 m9 1
 exact gG [103] [hD 65536 65535 0<|m+1,hD 10 9 0<|m+1+1,hD 16 15 0<|m+1+1+1] D (AB rfl rfl rfl<|bI<|bI<|aD<|aD bk)
  (.c (jD rfl ok dd dd dd<|az m9 dd) (.c (λx w=>jD rfl w.2 dd dd dd<|az l1 dd) (.c (λx w y v=>jD rfl v.2 dd dd dd<|az (g9 l1 1) dd)
   (.d λx w y v z u h' D' _=>⟨h',H.le_refl _,k ⟨j,o,x.1,65536*(5+y.1)+z.1⟩ h'<|aO5 n2 n4 m3 lo c w.1 v.1 u.1⟩))))
end
section
variable{b:cX}
theorem N3{r:Int}{k u:Nat}(h:0<=r/\r <u):k<=(k+r).toNat/\(k+r).toNat <k+u:=(GS h.1).elim λn e=>by subst e;exact⟨cm k n,Nat.add_lt_add_left (mo.mp h.2) k⟩
noncomputable abbrev am5(n:Int):E:= .call 103 (.cons (.x 0)<|.cons (.c<|.int n) .nil)
theorem Ji{ρ:L}{g:G}(e0:ah ρ 0=U (U<|.ref a))(c:ah g 0=U (a,ke b))(ok:b.ok m)(n1:1<=n/\n<=1073741823)(m9:m<=1000)(D:Hd hb B g h)(k: ∀h' r b',0<=r/\r <n->cX.ok b' (m+1)->Hd hb B (d_ g [(0,ke b')]) h'->Q (.int r) h'):(ao I (al I<|d+1) (am5 n) ρ).v h Q:=
 eN (ay<|ap e0<|ay<|bl<|yd (D.am 0 a _ c) ok n1 (az m9 dd) λh' r b' r0 r1 o w f=>k h' r b' ⟨r0,r1⟩ o<|D.go (by unfold jq;rw[kO,c];exact f)<|dg c tI w tI d7)
theorem ad7(ok:b.ok m)(m9:m<=850)(n2:2<=j.length)(n4:j.length<=4)(lo: ∀l∈j,sB l)(D:Hd hb B (qg a l t b j []) h)
  (k: ∀(M:aW) h',M.ok->Q M.v h'):aZ I (al I<|d+1) Hp (aq<|zL a l t x2 o x4 x6 x7) h<|ie Q:=
 bA (ku (i7 (ay (Ji rfl rfl ok dd (az m9 dd) D λh2 r b2 hr e D2=>
  have tb:=(N3 hr).2
  have tb:=(qU r)▸tb
  have r9:3*((r.toNat):Int)<=9:=pE (bT.mpr<|GT tb) dd
  have m8:m+1+3*((r.toNat))<=860:=fU (g9 m9 1) r9
  bg (.lN ⟨az dd hr.1,az (eT hr.2) dd⟩ (aw4 n2 n4 r.toNat 0 (m+1) b2 [] x2 o x4 x6 x7 e (az m8 dd) (by rw[j6,gM];exact ak (uV tb) dd) (λ_ m=>dB m) D2 λrs b3 x2 x6 x7 h3 el g c f=>
   av5 c (az m8 dd) n2 n4 (by rw[el,j6,gM];exact GT tb) lo g f k))))))
set_option smartUnfolding false in
theorem V0(ha:h a=U b.o)(ok:b.ok 0)(k: ∀(M:aW) h',M.ok->Q M.v h'):al I (d+2) 104 [.ref a] h Q:=
 e9 (fn:=K0) rfl rfl (j1 (g:=[(a,ke b)]) 1 [103] [] (Hd.of<|Fa.ls ha bj Fa.nl) (bG rfl<|aD<|aD<|aD<|aD<|aD<|aD<|aD<|aD<|aD bk) (.d λl h1 D1 _=>
  bA (ku (i7 (ay (eC (bl (Ji rfl rfl ok dd dd D1 λh2 r b2 hr e D2=> .jg (bg (.lN ⟨az dd<|fI hr.1 2,az (fI (eT hr.2) 2) dd⟩ (
   have tb:=N3 hr
   have r9:4*(((2+r).toNat):Int)<=16:=pE (bT.mpr<|GT tb.2) dd
   have m8:(0)+1+4*(((2+r).toNat):Int)<=17:=fI r9 1
   Xm (2+r).toNat 0 (0+1) b2 [] Y Y Y e (az m8 dd) (by rw[j6,gM];exact ak (uV tb.2) dd) (λ_ m=>dB m) D2 λls b3 x2 x3 x4 h3 el lo c f=>
    j1 1 [103] [] f (Mh rfl rfl)<|.d λt h4 i _=>ad7 (x6:=Y) (x7:=Y) c (az m8 dd) (by rw[el,j6,gM];exact tb.1) (by rw[el,j6,gM];exact GT tb.2) lo i k)))))))))))
end
def nx(f:Fd)(c:Int):Option Int:=if 65<=c/\c <65+f.M.ls.length then U c else Y
noncomputable def mV(f:Fd):Option (Int×Bool×Int)->List Pt
 |U r=>[.kn<|a7 (kw r.2.2) f.sz]
 |Y=>[]
noncomputable def rt(f:Fd)(p:Pt):V:= .aj [(match p with|.lt c=> .int c|.kn _=> .none),.int (pw f p).1,.int (pw f p).2.1,.int (pw f p).2.2]
noncomputable def i3:Option Int->SV
 |U c=> .int c (.b 65 68)
 |Y=> .op .none
noncomputable def k7:Option (Int×Bool×Int)->SV
 |U r=> .aj [.int r.1 .no,.op<|.bool r.2.1,.int r.2.2 .no]
 |Y=> .op .none
abbrev lL(f:Fd)(x1 x5 x6:V)(t fo:ai)(x9:SV)(x10:SV)(cA:Int):SL:=[U<|.op f.M.v,U<|.op x1,U<|.int f.sz<|.b 1 30100000,U<|.op<|.fl<|f.M.ls.map lV,U<|.op<|.fl<|f.M.rs.map rV,U<|.op x5,U<|.op x6,U<|.ref 0 t,U<|.ref 1 fo,U x9,U x10,U<|.int cA .no]
abbrev eM(f:Fd)(t fo:ai)(es:List<|Int×V)(N:List Pt):G:=[(t,.dict es),(fo,.list<|N.map<|rt f)]
section
theorem tP{g:G}(ok:f.ok)(e0:ah g 0=U (t,o))(e1:ah g 1=U (h,p))(b:aN g x9)(a:aN g x10):a6 g<|lL f x1 x5 x6 t h x9 x10 c:=aB (aB<|je ok.s0 ok.s1<|aB<|aB<|aB<|aB<|bG e0<|bG e1<|aT b<|aT a<|aT tI bk)
theorem uC: ∀{a:Option<|Int×Bool×Int},aN g (k7 a)
 |U _=>dW (bM tI<|bE<|bM tI aY)
 |Y=>trivial
set_option smartUnfolding false in
theorem aA8(ok:f.ok)(g:aN (eM f t j l N) x9)(e:aN (eM f t j l N) x10)(D:Hd hb B (eM f t j l N) h)(k: ∀h',Hd hb B (eM f t j l N) h'->P .next (aq<|lL f x1 x5 x6 t j (i3<|nx f c) x10 c) h'):aZ I (al I<|d+1) O0 (aq<|lL f x1 x5 x6 t j x9 x10 c) h P:=by
 have ln:((f.M.ls.map lV).length)=f.M.ls.length:=aA Nat.cast (bO ..)
 unfold nx at k
 refine gG [] [.n] D (tP ok rfl rfl g e) (.b (.c (λ_=>cC<|by rw[bO];exact ak ok.M.n4 dd)<|.c (λa b h' D _=> ?_)<|.d λa b h' D _=> ?_)<|.d λa h' D _=> ?_)
 ·rw[aM ⟨a,ln▸b⟩] at k;exact k h' D
 ·rw[aE λq=>b<|ln▸q.2] at k;exact k h' D
 ·rw[aE λq=>a q.1] at k;exact k h' D
end
noncomputable abbrev lS(l:Int×Int×Int):SV:= .aj [.int l.1 .no,.int l.2.1 .no,.int l.2.2 .no]
abbrev hL(f:Fd)(l:Int×Int×Int):List bJ:=[.u,.v<|lS l,.d (.int (a7 l.1 f.sz) .no) [],.d (.int (a7 l.2.1 f.sz) .no) [],.d (.int (a7 l.2.2 f.sz) .no) [],.u,.u,.n]
section
variable{N:List Pt}
theorem yw(sw: -1000000000<=w/\w<=1000000000)(s0:0 <s)(s1:s<=30100000):ia d hb B (m+1) 107 [.int w b,.int s a] g (.int (a7 w s) .no) []:=
 ⟨tI,λh Q D k=>aC2 ⟨az dd sw.1,az sw.2 dd⟩ s0 (az s1 dd) λh' l=>k h'<|D.le l⟩
theorem O8 n:(hR n).length<=1:=match n with
 |Y=>j7 _
 |U _=>dP _
theorem SM(h:0<=i/\i<=1):ah (vi [-30001,50002]) i.toNat=U (.int<|kw i)/\ -1000000000<=kw i/\kw i<=1000000000:=(GS h.1).elim λn e=>by
 subst e
 exact match n,h.2 with
  |0,_=>⟨rfl,dd⟩
  |1,_=>⟨rfl,dd⟩
  |n+2,h=>absurd (bT.mp h) (Re _∘xp)
theorem OT(hN:N.length<=60):a_<|(N.map<|rt f).length+1:=cC (by rw[bO];exact ak (cg hN) dd)
theorem OU(e:v=rt f p):N.map (rt f)++[v]=(N++[p]).map (rt f):=by rw[e,qZ];rfl
set_option smartUnfolding false in
theorem am3(ok:f.ok) now(hn: ∀c,now=U c->f.dE c)(g:aN (eM f t a j N) x10)(hN:N.length<=60)(D:Hd hb B (eM f t a j N) h)(k: ∀h',Hd hb B (eM f t a j<|N++hR now) h'->P .next (aq<|lL f x1 x5 x6 t a (i3 now) x10 c) h'):
  ex I (al I<|d+1) (.ite (.eY .ml (.x 9)<|.c .none) Oc .nil) (aq<|lL f x1 x5 x6 t a (i3 now) x10 c) h P:=by
 cases now with
 |none=>exact gJ [107] [] D (tP ok rfl rfl tI g) (.d λh' D _=>k h'<|by unfold hR;rw[c9];exact D)
 |some c0=>
  have p:=hn c0 rfl
  obtain⟨l,e,m,-⟩:=Gk p
  have w:=ok.M.l l m
  have b: ∀{i:Int},-70000<=i/\i<=2001000-> -1000000000<=i/\i<=1000000000:=λh=>⟨az dd h.1,az h.2 dd⟩
  refine gJ [107] (hL f l) D (tP ok rfl rfl ⟨p.1,lE ok p⟩ g) (.c ⟨by rw[pP,e];rfl,dW<|bM tI<|bM tI<|bM tI aY⟩<|.c (yw (b w.1) ok.s0 ok.s1)<|.c (yw (b w.2.1) ok.s0 ok.s1)<|.c (yw (b w.2.2) ok.s0 ok.s1)<|.c (OT hN)<|.d λh' D _=>k h' ?_)
  have e2:iY f c0=(a7 l.1 f.sz,a7 l.2.1 f.sz,a7 l.2.2 f.sz):=by unfold iY;rw[e]
  exact(OU (v:= .aj [.int c0,.int<|a7 l.1 f.sz,.int<|a7 l.2.1 f.sz,.int<|a7 l.2.2 f.sz])<|by show _=V.aj [.int c0,.int (iY f c0).1,.int (iY f c0).2.1,.int (iY f c0).2.2];rw[e2]).subst (motive:=λL=>Hd hb B [(t,.dict j),(a,.list L)] h') D
set_option smartUnfolding false in
theorem aH7(ok:f.ok) tp(ht: ∀r,tp=U r->0<=r.2.2/\r.2.2<=1)(b:aN (eM f t a j N) x9)(hN:N.length<=60)(D:Hd hb B (eM f t a j N) h)(k: ∀h',Hd hb B (eM f t a j<|N++mV f tp) h'->P .next (aq<|lL f x1 x5 x6 t a x9 (k7 tp) c) h'):
  ex I (al I<|d+1) (.ite (.eY .ml (.x 10)<|.c .none) JH .nil) (aq<|lL f x1 x5 x6 t a x9 (k7 tp) c) h P:=by
 cases tp with
 |none=>exact gJ [107] [] D (tP ok rfl rfl b tI) (.d λh' D _=>k h'<|by unfold mV;rw[c9];exact D)
 |some r=>
  have q:=ht r rfl
  have w:=SM q
  refine gJ [107] [.v<|.int (kw r.2.2) .no,.d (.int (a7 (kw r.2.2) f.sz) .no) [],.n] D (tP ok rfl rfl b uC) (.c ⟨q.1,az q.2 dd⟩<|.c ⟨w.1,tI⟩<|.c (yw w.2 ok.s0 ok.s1)<|.c (OT hN)<|.d λh' D _=>k h' ?_)
  exact(OU rfl).subst (motive:=λL=>Hd hb B [(t,.dict j),(a,.list L)] h') D
end
abbrev lF(f:Fd)(x1 x5 x6:V)(t fo:ai)(x9:SV)(x10:Option V)(cA:Option SV):SL:=[U<|.op f.M.v,U<|.op x1,U<|.int f.sz<|.b 1 30100000,U<|.op<|.fl<|f.M.ls.map lV,U<|.op<|.fl<|f.M.rs.map rV,U<|.op x5,U<|.op x6,U<|.ref 0 t,U<|.ref 1 fo,U x9,x10.map .op,cA]
def TB(f:Fd)(es:List<|Int×V):Prop:= ∀c,bw es c=(dC f.M.rs c).map rV
def ji(f:Fd)(now:Option Int)(c:Int):Option<|Int×Bool×Int:=if now=U 65 then dC f.M.rs c else Y
section
variable{f:Fd}{P:Fl->L->H->Prop}
theorem Qg{g:G}(ok:f.ok)(e0:ah g 0=U (t,o))(e1:ah g 1=U (h,p))(a:aN g x9):a6 g<|lF f x1 x5 x6 t h x9 x10<|U<|.int c .no:=aB (aB<|je ok.s0 ok.s1<|aB<|aB<|aB<|aB<|bG e0<|bG e1<|aT a<|bI<|aT tI bk)
theorem TX(ht:TB f a):(bw a c).getD V.none=den (k7<|dC f.M.rs c)/\aN g (k7<|dC f.M.rs c):=⟨by rw[ht c];cases dC f.M.rs c <;>rfl,uC⟩
noncomputable abbrev ak6:S:= .af (.x 10) (.ite (.eY .eq (.x 9)<|.c<|.int 65) (.me (.x 7) 3<|.cons (.x 11) .nil)<|.c .none)
set_option smartUnfolding false in
theorem ae3(ok:f.ok)(ht:TB f j) now(hn: ∀c,now=U c->f.dE c)(D:Hd hb B (eM f t a j N) h)(k: ∀h',Hd hb B (eM f t a j N) h'->P .next (aq<|lL f x1 x5 x6 t a (i3 now) (k7<|ji f now c) c) h'):
  ex I (al I<|d+1) ak6 (aq<|lF f x1 x5 x6 t a (i3 now) x10<|U<|.int c .no) h P:=by
 unfold ji at k
 cases now with
 |none=>exact gJ [107] [] D (Qg ok rfl rfl tI) (.d λh' D _=>k h' D)
 |some c0=>
  have p:=hn c0 rfl
  have o:=Qg (c:=c) (x1:=x1) (x5:=x5) (x6:=x6) (x10:=x10) (g:=eM f t a j N) (x9:= .int c0<|.b 65 68) ok rfl rfl ⟨p.1,lE ok p⟩
  by_cases e:c0=65
  ·rw[aM<|congrArg U e] at k
   exact gJ [107] [.t,.v<|k7<|dC f.M.rs c] D o (.c e<|.c (TX ht)<|.d λh' D _=>k h' D)
  ·rw[aE λq=>e<|Option.some.inj q] at k
   exact gJ [107] [.f] D o (.c e<|.d λh' D _=>k h' D)
theorem CZ(ok:f.ok): ∀{now:Option Int},(∀c,now=U c->f.dE c)->aN g (i3 now):=λ{now}=>by
 cases now with
 |none=>exact λ_=>tI
 |some c0=>exact λhn=>⟨(hn c0 rfl).1,lE ok<|hn c0 rfl⟩
theorem MI(ok:f.ok) now(hn: ∀c,now=U c->f.dE c)(a:Option<|Int×Bool×Int)(ht: ∀r,a=U r->0<=r.2.2/\r.2.2<=1)(hN:N.length<=59)(D:Hd hb B (eM f t j l N) h)
  (k: ∀h',Hd hb B (eM f t j l<|N++hR now++mV f a) h'->P .next (aq<|lL f x1 x5 x6 t j (i3<|nx f c) (k7 a) c) h'):aZ I (al I<|d+1) Nv (aq<|lL f x1 x5 x6 t j (i3 now) (k7 a) c) h P:=
 bA (am3 ok now hn uC (uU hN) D λh1 D1=>bA<|aH7 ok a ht (CZ ok hn) (by rw[aC];exact gQ hN<|O8 now) D1 λh2 D2=>aA8 ok (CZ ok hn) uC D2 k)
set_option smartUnfolding false in
theorem ZN(ok:f.ok) now(hn: ∀c,now=U c->f.dE c) a(hr: ∀r,a=U r->h9 f.M.ls.length r)(hN:N.length<=59)(D:Hd hb B (eM f t j l N) h)
  (i: ∀p y x10 h',a=U (p,ae,y)->Hd hb B (eM f t j l N) h'->P .cont (aq<|lF f x1 x5 x6 t j (i3<|U y) x10<|U<|.int c .no) h')
  (k2: ∀x10 h',(∀r,a=U r->r.2.1=aa)->Hd hb B (eM f t j l<|N++hR now++mV f a) h'->P .next (aq<|lF f x1 x5 x6 t j (i3<|nx f c) x10<|U<|.int c .no) h'):aZ I (al I<|d+1) Na (aq<|lL f x1 x5 x6 t j (i3 now) (k7 a) c) h P:=by
 have o:=λa=>tP (c:=c) (x1:=x1) (x5:=x5) (x6:=x6) (g:=eM f t j l N) (x10:=k7 a) ok rfl rfl (CZ ok hn) uC
 cases a with
 |none=>exact bA (gJ [107] [] D (o Y)<|.d λh1 D1 _=>MI ok now hn Y (λ_ e=>bR e) hN D1 λh2 D2=>k2 (U .none) h2 (λ_ e=>bR e) D2)
 |some r=>
  obtain⟨p,b,y⟩:=r
  cases b with
  |false=>exact gG [107] [] D (o<|some (p,ae,y)) (.d λh1 D1 _=>i p y (U<|rV (p,ae,y)) h1 rfl D1)
  |true=>exact bA (gJ [107] [] D (o<|some (p,aa,y))<|.d λh1 D1 _=>MI ok now hn (U (p,aa,y)) (λ_ e=>bL e▸(hr _ rfl).2) hN D1 λh2 D2=>k2 (U<|rV (p,aa,y)) h2 (λ_ e=>bL e▸rfl) D2)
theorem Fi(ok:f.ok)(e:ji f now c=U r):h9 f.M.ls.length r:=by
 unfold ji at e
 by_cases h:now=U 65
 ·rw[aM h] at e;exact ok.M.r r (IZ e)
 ·rw[aE h] at e;exact bR e
set_option smartUnfolding false in
theorem Pu(ok:f.ok)(ht:TB f j) now(hn: ∀c,now=U c->f.dE c)(hN:N.length<=59){l:Option V}(D:Hd hb B (eM f t a j N) h)
  (b: ∀p y x10 h',ji f now c=U (p,ae,y)->Hd hb B (eM f t a j N) h'->P .cont (aq<|lF f x1 x5 x6 t a (i3<|U y) x10<|U<|.int c .no) h')
  (k2: ∀x10 h',(∀r,ji f now c=U r->r.2.1=aa)->Hd hb B (eM f t a j<|N++hR now++mV f (ji f now c)) h'->P .next (aq<|lF f x1 x5 x6 t a (i3<|nx f c) x10<|U<|.int c .no) h'):
  cq (al I<|d+1) (.x 11) De (.int c) (aq<|lF f x1 x5 x6 t a (i3 now) x10<|l.map .op) h P:=
 eI (bA<|ae3 ok ht now hn D λh1 D1=>ZN ok now hn (ji f now c) (λr e=>Fi ok e) hN D1 b k2)
end
theorem aM8: ∀{a:List<|Int×V} {k c:Int} {v:V},bw (eX a k v) c=if k=c then U v else bw a c:=λ{a}=>by
 induction a with
 |nil=>exact rfl
 |cons e a ih=>
  intro k c v
  show bw (if e.1=k then _ else _) c=if k=c then U v else if e.1=c then U e.2 else bw a c
  by_cases h:e.1=k
  ·rw[aM h]
   show(if e.1=c then U v else bw a c)=_
   rw[h]
   by_cases q:k=c
   ·rw[aM q,aM q]
   ·rw[aE q,aE q,aE q]
  ·rw[aE h]
   show(if e.1=c then U e.2 else bw (eX a k v) c)=_
   rw[ih]
   by_cases q:k=c
   ·rw[aM q,aM q,aE λz=>h<|z.trans q.symm]
   ·rw[aE q,aE q]
def wj(f:Fd)(es:List<|Int×V)(s:List<|Int×Bool×Int):Prop:= ∀c,(bw es c).or ((dC s c).map rV)=(dC f.M.rs c).map rV
theorem Tm(T:wj f a<|r::s)(e:(bw a r.1).isSome=aa):wj f a s:=λc=>by
 rw[<-T c]
 show _=(bw a c).or ((if r.1=c then U r else dC s c).map rV)
 cases q:bw a c with
 |some v=>rfl
 |none=>rw[aE λz=>by rw[z,q] at e;exact fE e]
theorem Yy(T:wj f a<|r::s)(e: ¬(bw a r.1).isSome=aa):wj f (eX a r.1<|rV r) s:=λc=>by
 rw[<-T c,aM8]
 show _=(bw a c).or ((if r.1=c then U r else dC s c).map rV)
 by_cases q:r.1=c
 ·rw[aM q,aM q]
  cases z:bw a c with
  |some v=>rw[q,z] at e;exact absurd rfl e
  |none=>rfl
 ·rw[aE q,aE q]
theorem al7:(eX a k v).length<=a.length+1:=by
 induction a with
 |nil=>exact dP _
 |cons e a ih=>
  show(if e.1=k then(_:List<|Int×V) else _).length<=_
  split
  ·exact jm _
  ·exact cg ih
theorem Jn(e:ji f now c=U (p,ae,y)):J f now (c::r)=J f (U y) r:=wT e
theorem I_(e: ∀q,ji f now c=U q->q.2.1=aa):J f now (c::r)=hR now++mV f (ji f now c)++J f (nx f c) r:=by
 cases h:ji f now c with
 |none=>exact(rx h).trans (by rw[mV,c9];rfl)
 |some q=>
  obtain⟨p,b,i⟩:=q
  cases(e _ h)
  exact(vO h).trans (by rw[aX];rfl)
section
set_option smartUnfolding false in
theorem Up(ok:f.ok): ∀(s:List<|Int×Bool×Int) (es:List<|Int×V) (x10:Option V) {hb h:H} {B:List ai},wj f es s->es.length+s.length<=90->Hd hb B (eM f t a es []) h->(∀es x10 h',TB f es->Hd hb B (eM f t a es []) h'->P .next (aq<|lF f x1 x5 x6 t a (.op x9) x10 Y) h')->
  du (cq (al I<|d+1) (.x 10) JQ) bP (s.map rV) (aq<|lF f x1 x5 x6 t a (.op x9) x10 Y) h P:=λs=>by
 induction s with
 |nil=>exact λes x10 hb h B T _ D k=>⟨tI,k es x10 h (λc=>by rw[<-T c];show _=(bw es c).or Y;rw[Option.or_none]) D⟩
 |cons r s ih=>
  intro es x10 hb h B T l D k
  refine⟨tI,dA [] [] D (aB<|aB<|je ok.s0 ok.s1<|aB<|aB<|aB<|aB<|bG rfl<|bG rfl<|aB<|bI<|aD bk) (v:=k7<|some r) uC<|.b (.c (λ_=>cC<|Nat.le_trans (cm _ _)<|Nat.le_trans l dd)<|.d λe h' D' _=>⟨h',H.le_refl _,ih _ (U<|rV r) (Yy T e) (ak (cL al7 _)<|by rw[cH,c5 1];exact l) D' k⟩)<|.d λe h' D' _=>⟨h',H.le_refl _,ih _ (U<|rV r) (Tm T<|Classical.not_not.mp e) (mr l) D' k⟩⟩
theorem IK(h:nx f c=U e):f.dE e:=by
 unfold nx at h
 by_cases p:65<=c/\c <65+f.M.ls.length
 ·rw[aM p] at h;exact bL h▸p
 ·rw[aE p] at h;exact bR h
theorem Uh: ∀a,(mV f a).length<=1
 |Y=>j7 _
 |U _=>dP _
theorem JD(h:a+2*(b+1)<=60):a<=59:=xp (ak (eH (cg<|j7 _) a) h)
theorem aO7(ok:f.ok)(ht:TB f j): ∀r now N (x10 cA:Option V) {hb h:H} {B:List ai},(∀c,now=U c->f.dE c)->N.length+2*(r.length+1)<=60->Hd hb B (eM f t a j N) h->
  (∀x9 (x10 cA:Option V) h',Hd hb B (eM f t a j<|N++J f now r) h'->P .next (aq<|lF f x1 x5 x6 t a (.op x9) x10<|cA.map .op) h')->
  du (cq (al I<|d+1) (.x 11) De) bP (vi<|r++[0]) (aq<|lF f x1 x5 x6 t a (i3 now) x10<|cA.map .op) h P:=λr=>by
 induction r with
 |nil=>
  intro now N x10 cA hb h B hn hN D k
  have e0:ji f now 0=Y:=by unfold ji;rw[wg ok.M.r λq=>absurd q.1 dd,ite_self]
  exact⟨tI,Pu ok ht now hn (JD hN) D (λp y x10 h' e D'=>bR <|e0.symm.trans e) λx10 h' e D'=>⟨h',H.le_refl _,tI,k (den<|i3<|nx f 0) x10 (U<|.int 0) h'<|by rw[e0,mV,c9] at D';exact D'⟩⟩
 |cons c r ih=>
  intro now N x10 cA hb h B hn hN D k
  rw[eU] at hN
  have hN1:N.length+2+2*(r.length+1)<=60:=by rw[cH,c5 2,<-pC];exact hN
  refine⟨tI,Pu ok ht now hn (JD hN) D (λp y x10 h' e D'=>⟨h',H.le_refl _,?_⟩) λx10 h' e D'=>⟨h',H.le_refl _,?_⟩⟩
  ·rw[Jn e] at k
   exact ih (U y) N x10 (U<|.int c) (λz q=>bL q▸(Fi ok e).2) (ak (cL (cm _ 2) _) hN1) D' k
  ·rw[I_ e,<-aX,<-aX] at k
   exact ih (nx f c) _ x10 (U<|.int c) (λz q=>IK q) (ak (cL (by rw[aC,aC,cH];exact eH (gQ (O8 now)<|Uh _) _) _) hN1) D' k
set_option smartUnfolding false in
theorem au3(ok:f.ok){Q:V->H->Prop}{x10 a:Option V}(D:Hd j [] (eM f t l o N) h)(k: ∀h',H.le j h'->Q (.fl<|N.map<|rt f) h'):aZ I (al I<|d+1) CA (aq<|lF f x1 x5 x6 t l (.op x9) x10<|a.map .op) h<|ie Q:=
 gG [] [] D (aB<|aB<|je ok.s0 ok.s1<|aB<|aB<|aB<|aB<|bG rfl<|bG rfl<|aB<|bI<|bI bk) (.d λh' D _=>⟨h',H.le_refl _,k h'<|a9 D.f⟩)
set_option smartUnfolding false in
theorem Y5{Q:V->H->Prop}(ok:f.ok)(hl:a.length<=4)(k: ∀h',H.le h h'->Q (.fl<|(J f Y a).map<|rt f) h'):al I (d+2) 108 [f.M.v,.fl<|vi a,.int f.sz] h Q:=
 e9 (fn:=HI) rfl rfl (j1 (ρ:=[U<|.aj [.op<|.fl<|f.M.ls.map lV,.op<|.fl<|f.M.rs.map rV,.int f.M.ck .no,.int f.M.de .no],U<|.op<|.fl<|vi a,U<|.int f.sz .no,Y,Y,Y,Y,Y,Y,Y,Y,Y]) 2 [] [] (Hd.of Fa.nl) (aT (dW<|bE<|bE<|bM tI<|bM tI aY)<|aB<|aT tI<|aD<|aD<|aD<|aD<|aD<|aD<|aD<|aD<|aD bk) (.d λt fo h1 D1 _=>
  bA (iC (jQ (ap rfl (.fN (Up ok f.M.rs [] Y (λ_=>rfl) (by rw[j6,gM];exact ak ok.M.m3 dd) D1 λes x10 h2 ht D2=>
   bA (iC (az6 (eC (ap rfl (w4 (ay (bl (bg (.vN (cC<|by rw[aC,cQ];exact ak (cg hl) dd) (.fN (by
    have q:=aO7 (d:=d) (x1:= .fl<|vi a) (x5:= .int f.M.ck) (x6:= .int f.M.de) (P:=oh (al I<|d+1) CA<|ie Q) ok ht a Y [] x10 Y (λ_ e=>bR e) (by rw[j6,gM];exact ak (jl 2<|cg hl) dd) D2 λx9 x10 cA h3 b=>au3 ok b k
    rw[eE] at q
    exact q))))))))))))))))))
end
abbrev CX:cZ:=al I 100
noncomputable def WW(M:aW)(s1 s2:Int)(b a:ai):Wt:=⟨M,λn=>if n=1 then s1 else s2,λn=>if n=1 then b else a⟩
section
theorem aI8: ∀{k:Kd},0<=143+(k.rm s:Int)+k.dk -1/\143+(k.rm s:Int)+k.dk -1<=255:=λ{k}=>by
 have w: ∀{x:Nat} {y:Int},x<=4->0<=y->y<=10->0<=143+(x)+y -1/\143+(x)+y -1<=255:=by lia
 have e:=(lD s).2
 have t: ∀b,0<=dl b/\dl b<=10:=λb=>by cases b <;>decide
 cases k with
 |p=>exact w e dd dd
 |r b c=>cases c with
  |false=>exact w e (t b).1 (t b).2
  |true=>exact w (j7 4) (t b).1 (t b).2
theorem aK4(wok:W.ok){R}: ∀{c:bm},hO W R c->eg (ib W c)
 |.mv _ _,_=>jK aI8 (ki _ _)
 |.dn s,_=>jK (by have:=lD s;lia) (ki _ _)
 |.fd n,o=>MW (ak (eH (uW.mpr o.1.2) 96) dd)
 |.fn _,o=>jK ⟨az dd<|fI o.1.1 171,az (fI o.1.2 171) dd⟩ n5
 |.ch c,o=>jK ⟨az dd o.2.1.1,az (eT<|jF o.2.1.2<|fI (bT.mpr wok.M.n4) 65) dd⟩ n5
theorem Kn(wok:W.ok): ∀{R:List bm},k6 W R->eg (aH W R)
 |[],_=>n5
 |_::_,o=>gn (Kn wok o.2) (aK4 wok o.1)
theorem T8(wok:W.ok){R}(o:k6 W R):eg<|eK++iM W R:=
 gn (show∀i∈eK,0<=i/\i<=255 by decide) (gn (gn (show∀i∈i9,0<=i/\i<=255 by decide)<|Kn wok o)<|jK dd n5)
theorem W5{R}(h:(i9++aH W R).length<=525):(eK++iM W R).length<=549:=by
 unfold iM
 rw[aC,aC]
 exact eH (cg h) 23
theorem S7{a}(h:a.length<=549)(hl:l.length<=60):(ut W a o j l).length<=100000:=by
 have p:mE (uL W a o j l).length<=8:=aU8 (fI (eT<|qT _ dd) 4)
 unfold ut
 rw[aC,GR]
 refine ak (eH p _) ?_
 unfold uL
 rw[aC,aC,aC,aC,EH,Qo,cK]
 exact ak (cL (cL (cL (cL (gQ (cL h 29)<|jl 18 hl) 1) 4) 1) 8) dd
end
abbrev Et(left a:Int)(qs:List Pp):List V:=d4 (a+fD 0 qs) left 0 qs
def oQ(left a:Int)(qs:List Pp):k3:=mQ (a+fD 0 qs) left 0 qs mP
section
variable{b:ai}{vs:List V}{qs:List Pp}{P:Fl->c6.L->H->Prop}
theorem af6(i:d8 vs qs)(hl:qs.length<=16)(ok: ∀q∈qs,kx W q)(lb:0<=left/\left<=1000)(tb:0<=a/\a<=1000):qK (a+fD 0 qs) left 0 qs mP 45 0/\Iv W (oQ left a qs).E (oQ left a qs).hh (oQ left a qs).vv (oQ left a qs).fn (Et left a qs) (oQ left a qs).D:=by
 have d0:cR 0:=by unfold cR;decide
 have db:cR<|a+fD 0 qs:=⟨az dd<|GO tb.1 (wZ i).1,az (fU tb.2 (wZ i).2) dd⟩
 have r:=X9 lb db qs 0 0 mP i.Cu (by rw[gM];exact hl) dd dd d0 d0 (dP 0)
 exact⟨r,av9 qs 0 mP 45 0 [] ok r ⟨rfl,tI,rfl,.nil,λ_ m=>dB m⟩⟩
abbrev oW(x0 x1 x2 x3 x4 x5:Option V)(left a:Int)(x8 x9 x10 cA kL:Option V)(W:Wt)(c:V)(mJ nQ tT yz xJ:Option V):L:=[x0,x1,x2,x3,x4,x5,U<|.int left,U<|.int a,x8,x9,x10,cA,kL,U<|lj W,U c,mJ,nQ,tT,yz,xJ,Y,Y,Y,Y,Y]
theorem ag5{y}(k: ∀w oc fd h',h' w=U (.aK 8<|b8<|jL (.op<|.ref oc) (.op<|.ref fd) 0 (-1) 0 0)->h' oc=U (.list<|vi eK)->h' fd=U (.dict [])->h w=Y->h oc=Y->H.le h h'->P .next (oW z x1 x2 A x4 x5 left p D x9 x10 u j W y t o l (U<|.ref w) Y) h'):
  ex I CX (.af (.x 18)<|.new 8<|.cons (.c<|.int 2) .nil) (oW z x1 x2 A x4 x5 left p D x9 x10 u j W y t o l Y Y) h P:=
 mA (TY rfl<|ay<|bl<|bg λa na=>Xj (H.kM _ _ _) λh1 oc fd e1 e2 e3 f1 n1 n2=> .Pm<|eI<|k a oc fd h1 e1 e2 e3 na (H.UI n1).2<|Au (H.S5 (H.le_refl _) na) na f1)
theorem aJ6{w j y}(B:Bx (fM qs) (fD 0 qs) (hV 0 qs) left a)(e1:h w=U (.aK 8<|b8<|jL (.op<|.ref j) (.op<|.ref y) 0 (-1) 0 0))(e2:h j=U (.list<|vi eK))(e3:h y=U (.dict []))(i:d8 vs qs)(hl:qs.length<=16)(ok: ∀q∈qs,kx W q)(r:qK (a+fD 0 qs) left 0 qs mP 45 0)
  (k: ∀h' c R,Wr W h h' w j c R (oQ left a qs).D (dM 0 [fD 0 qs+hV 0 qs+a]) (dM 0 [fM qs+left])->R.map er=(oQ left a qs).E->(i9++aH W R).length<=45+30*qs.length->P .next (oW z x1 x2 A x4 x5 left a D x9 x10 u l W (.fz b 4<|f_ (fM qs) (fD 0 qs) (hV 0 qs) vs) t p o (U<|.ref w) Y) h'):
  ex I CX (.expr<|.me (.x 18) 30<|.cons (.x 14)<|.cons (.tu<|.cons (.c<|.int 3) .nil)<|.cons (.x 6)<|.cons (.x 7) .nil) (oW z x1 x2 A x4 x5 left a D x9 x10 u l W (.fz b 4<|f_ (fM qs) (fD 0 qs) (hV 0 qs) vs) t p o (U<|.ref w) Y) h P:=
 h_ (gD<|ap rfl<|.jA e1 rfl rfl<|ay<|ap rfl<|ay<|nZ<|ay<|bl<|bg<|ay<|ap rfl<|ay<|ap rfl<|bg<|U2 B e1 e2 e3 i hl ok r rfl k)
theorem aJ4{h0}{Q}{w oc fd}{D}{R}{j a}(wok:W.ok)(ws:Wr W h0 h w oc fd R D j a)(c:eg<|eK++iM W R)(ol:(eK++iM W R).length<=549)(o:k6 W R)(rl:R.length<=90)(eD:eA R=D)(nd:D.Nodup)(hD: ∀n∈D,1<=n/\n<=2)(dl:D.length<=60)(f: -2147483648<=j/\j <2147483648)(e: -2147483648<=a/\a <2147483648)
  (k: ∀dv h',H.le h h'->P .next (oW X x1 x2 x3 x4 x5 left y x8 x9 x10 A p W Q z u t (U<|.ref w)<|U<|.fz dv 11<|lY W (bV W R).cF D j a) h'):
  ex I CX (.af (.x 19)<|.call 93<|.cons (.me (.x 18) 31 .nil)<|.cons (.x 13) .nil) (oW X x1 x2 x3 x4 x5 left y x8 x9 x10 A p W Q z u t (U<|.ref w) Y) h P:=
 mA (eN (ay (gD (ap rfl (.jA ws.hw rfl rfl (bg (Zm ws.hw ws.ho ws.hf (ak ol dd) c hD dl λl h3 l3 pm so=>
  ay<|ap rfl<|bg<|ae6 wok ws.gd o rl (eD.symm▸pm) (eD.symm▸nd) (eD.symm▸hD) f e rfl (S7 ol<|pm.length_eq▸dl) λh4 dv l4=>eI<|eD▸k dv h4 (H.le_trans l3 l4))))))))
theorem HZ{x}(h:x<=1000000000): -2147483648<=dM 0 [x]/\dM 0 [x] <2147483648:=
 have b:=w_ dd dd λ_ m=>b_.mp m▸h
 ⟨az dd b.1,g8 b.2 dd⟩
theorem au7{a}: ∀(qs:List Pp) (n:Int) (s:k3),(mQ a left n qs s).D.length<=s.D.length+qs.length:=λqs=>by
 induction qs with
 |nil=>exact λn s=>dP _
 |cons q qs ih=>exact λn s=>ak (ih _ _) (by rw[eU,c5 qs.length,<-cH];exact cL Os _)
theorem Tk(wok:W.ok)(i:d8 vs qs)(hl:qs.length<=16)(ok: ∀q∈qs,kx W q)(lb:0<=left/\left<=1000)(tb:0<=a/\a<=1000)
  (k: ∀dv w ta c h',H.le h h'->aZ I CX F8 (oW A x1 x2 D x4 x5 left a Q x9 x10 z j W (.fz b 4<|f_ (fM qs) (fD 0 qs) (hV 0 qs) vs) u p l (U<|.ref w)<|U<|.fz dv 11<|lY W (Et left a qs) (oQ left a qs).D ta c) h' P):
  aZ I CX FS (oW A x1 x2 D x4 x5 left a Q x9 x10 z j W (.fz b 4<|f_ (fM qs) (fD 0 qs) (hV 0 qs) vs) u p l Y Y) h P:=
 have iv:=af6 i hl ok lb tb
 have w:=EM i hl
 have t:=wZ i
 have d:=BH i
 bA (ag5 λw1 oc fd h1 e1 e2 e3 n0 n1 l1=>bA (aJ6 ⟨w.1,w.2,t.1,t.2,d.1,d.2,lb.1,lb.2,tb.1,tb.2⟩ e1 e2 e3 i hl ok iv.1 λh2 g R ws er el=>
  have rl:=ak (jG<|bO (f:=La.er)▸aA aU1 er) (ak (aq2 qs 0 mP)<|ak (jG<|gM _)<|jl 5 hl)
  have o:=ad9 R (er▸iv.2.ok)
  have eS:(bV W R).cF=Et left a qs:=by rw[<-ID R,er,iv.2.se]
  bA (aJ4 wok ws (T8 wok o) (W5<|ak el<|eH (jl 30 hl) 45) o (ak rl dd) ((JV R).symm.trans<|(aA eA er).trans iv.2.df) iv.2.nd iv.2.i2 (ak (au7 qs 0 mP)<|ak (jG<|gM _)<|ak hl dd) (HZ<|az (fU (fU t.2 d.2) tb.2) dd) (HZ<|az (fU w.2 lb.2) dd) λdv h3 l3=>
   eS.symm▸k dv w1 _ _ h3 (H.le_trans (λb y e=>ws.fr b y (l1 b y e)<|kE (λq=>gI <|(q▸e).symm.trans n0) λq=>gI <|(q▸e).symm.trans n1) l3))))
end
noncomputable def qV(q:Pp):V:= .aj [.int q.f.n,(match q.p with|.lt c=> .int c|.kn _=> .none),.int q.wd,.int q.ht,.int q.dp]
noncomputable abbrev sY(v:Nat->V)(m8:SV)(m1 v19:V)(a tall:Int)(u:ai)(mj:SV)(dZ lA x24:Option SV):SL:=[U<|.op<|v 0,U<|.op m1,U<|.op<|v 2,U<|.op<|v 3,U<|.op<|v 4,U<|.op<|v 5,U<|.op<|v 6,U<|.int a .no,U m8,U<|.op<|v 9,U<|.op<|v 10,U<|.op<|v 11,U<|.op<|v 12,U<|.op<|v 13,U<|.op<|v 14,U<|.op<|v 15,U<|.int tall .no,U<|.op<|v 17,U<|.op<|v 18,U<|.op v19,U<|.ref 0 u,U mj,dZ,lA,x24]
section
theorem yi{g:G}{p a}(e:ah g 0=U (u,o))(b:aN g p)(w:a6 g [U a,h,j,x24]):a6 g<|sY v p y v19 t l u a h j x24:=
 aB (aB<|aB<|aB<|aB<|aB<|aB<|aT tI<|aT b<|aB<|aB<|aB<|aB<|aB<|aB<|aB<|aT tI<|aB<|aB<|aB<|bG e w)
set_option smartUnfolding false in
theorem Yu{y o x24:Option V}(hl:z.length<=90)(D:Hd hb B [(u,.list z)] h)
  (k: ∀h',Hd hb B [(u,.list<|z++jS (t+j) l q)] h'->P .next (aq<|sY v (.op Q) A v19 t j u (.int (l+q.wd) .no) (U<|.op<|qV q) (o.map .op)<|x24.map .op) h'):
  cq CX (.x 22) AG (qV q) (aq<|sY v (.op Q) A v19 t j u (.int l .no) (y.map .op) (o.map .op)<|x24.map .op) h P:=by
 obtain⟨f,a,p⟩:=q
 have ol: ∀{g:G},a6 g [U<|.int l .no,y.map .op,o.map .op,x24.map .op]:=aT tI (bI<|bI<|bI bk)
 cases p with
 |lt c=>exact dA (n:=0) [] [] D (yi rfl tI ol) (v:= .aj [.int f.n .no,.int c .no,.int (pw f<|.lt c).1 .no,.op<|.int (pw f<|.lt c).2.1,.op<|.int (pw f<|.lt c).2.2]) (dW<|bM tI<|bM tI<|bM tI<|bE<|bE aY) (.c (cC<|Nat.le_trans (cg hl) dd)<|.d λh' D' _=>k h' D')
 |kn w=>exact dA (n:=0) [] [] D (yi rfl tI ol) (v:= .aj [.int f.n .no,.op .none,.int (pw f<|.kn w).1 .no,.op<|.int (pw f<|.kn w).2.1,.op<|.int (pw f<|.kn w).2.2]) (dW<|bM tI<|bE<|bM tI<|bE<|bE aY) (.d λh' D' _=>k h'<|by unfold jS;rw[c9];exact D')
theorem Tw: ∀qs n Lr (dZ lA x24:Option V) {hb h:H} {B:List ai},Lr.length+qs.length<=90->Hd hb B [(u,.list Lr)] h->(∀mj (dZ:Option V) h',Hd hb B [(u,.list<|Lr++d4 (j+a) left n qs)] h'->P .next (aq<|sY v (.op o) l v19 j a u (.int mj .no) (dZ.map .op) (lA.map .op)<|x24.map .op) h')->
  du (cq CX (.x 22) AG) bP (qs.map qV) (aq<|sY v (.op o) l v19 j a u (.int (left+n) .no) (dZ.map .op) (lA.map .op)<|x24.map .op) h P:=λqs=>by
 induction qs with
 |nil=>exact λn Lr dZ lA x24 hb h B _ D k=>⟨tI,k (left+n) dZ h<|by show Hd hb B [(u,.list<|Lr++[])] h;rw[c9];exact D⟩
 |cons q qs ih=>
  intro n Lr dZ lA x24 hb h B hl D k
  rw[eU] at hl
  refine⟨tI,Yu (ak (cm _ _) hl) D λh' D'=>⟨h',H.le_refl _,?_⟩⟩
  have rl:(jS (j+a) (left+n) q).length<=1:=by
   unfold jS
   cases q.p with
   |lt c=>exact dP _
   |kn w=>exact j7 _
  have z:=ih (n+q.wd) (Lr++jS (j+a) (left+n) q) (U<|qV q) lA x24 (ak (cL (by rw[aC];exact eH rl _) _)<|by rw[cH,c5 1];exact hl) D' λmj dZ h2 D2=>k mj dZ h2 (by rw[aX] at D2;exact D2)
  rw[<-gq] at z
  exact z
theorem Z2: ∀{h:List Pp} {n a left:Int},(d4 a left n h).all (fT 5)=aa:=λ{h}=>by
 induction h with
 |nil=>exact rfl
 |cons q h ih=>
  intro n a left
  show(jS a (left+n) q++d4 a left (n+q.wd) h).all (fT 5)=aa
  rw[List.all_append,ih,aV2]
  unfold jS
  cases q.p <;>rfl
theorem ah4(h:a.all (fT 5)=aa):[yO a].all (fT 7)=aa:=by
 show((aa&&((a.all<|fT 5)&&aa))&&aa)=aa
 rw[h];rfl
end
noncomputable def mc:List Pp->List Int
 |[]=>[]
 |q::qs=>(match q.p with|.lt _=>[q.f.n]|.kn _=>[])++mc qs
theorem Uu:n∈kt m D↔n∈D\/n=m:=by
 unfold kt
 by_cases e:m∈D
 ·rw[aM e];exact⟨.inl,λh=>h.elim id λh=>h▸e⟩
 ·rw[aE e];exact pG.trans ⟨λh=>h.imp id b_.mp,λh=>h.imp id b_.mpr⟩
theorem ai1: ∀qs n s,m∈(mQ a left n qs s).D↔m∈s.D\/m∈mc qs:=λqs=>by
 induction qs with
 |nil=>exact λn s=>⟨.inl,λh=>h.elim id λh=>dB h⟩
 |cons q qs ih=>
  intro n s
  refine(ih (n+q.wd)<|iO a (left+n) q s).trans ?_
  show m∈(iO a (left+n) q s).D\/m∈mc qs↔m∈s.D\/m∈(match q.p with|.lt _=>[q.f.n]|.kn _=>[])++mc qs
  unfold iO
  cases q.p with
  |kn w=>exact Iff.rfl
  |lt c=>exact(or_congr_left Uu).trans (or_assoc.trans<|or_congr_right ⟨λh=>h.elim (λh=>h▸ .head _)<|.tail _,λh=>bC.mp h⟩)
theorem Ur(b:g h): ∀qs n {K:List V->H->Prop},K (vi<|mc qs) h->hU (p8 C (.c<|.bool aa) (.ix (.x 0)<|.c<|.int 3) []) g (d4 a left n qs) h K:=λqs=>by
 induction qs with
 |nil=>exact λn K k=>⟨b,k⟩
 |cons q qs ih=>
  intro n K k
  show hU _ g (jS a (left+n) q++d4 a left (n+q.wd) qs) h K
  have k:K (vi<|(match q.p with|.lt _=>[q.f.n]|.kn _=>[])++mc qs) h:=k
  unfold jS
  cases e:q.p with
  |kn w=>rw[e] at k;exact ih _ k
  |lt c=>rw[e] at k;exact⟨b,nu<|iL<|ap rfl<|bl<|.nh dd dd rfl<|ih _ k⟩
section
variable{dZ x24:Option V}{P:Fl->L->H->Prop}
abbrev sZ(v:Nat->V)(W:Wt)(D:List Int)(ta b:Int)(dv z u:ai)(a tall:Int)(cF:List V)(mj:V)(dZ:Option V)(n:Int)(x24:Option SV):SL:=sY v (.ref 1 z) W.M.v (.fz dv 11<|lY W cF D ta b) a tall u (.op mj) (dZ.map .op) (U<|aL n) x24
abbrev gZ(W:Wt)(u z:ai)(cF:List V):G:=[(u,.list cF),(z,.list [.int<|W.s 1,.int<|W.s 2])]
theorem tG{g:G}(e:ah g 0=U (u,o))(e1:ah g 1=U (z,p))(b:a6 g [y]):a6 g<|sZ v W D Q t A z u j h a l dZ n y:=yi e ⟨_,e1⟩ (aT tI<|bI<|gx b)
theorem O5{ρ:L}(b:ah ρ 20=U (U<|.ref u))(e:ah ρ 23=U (U<|.int n))(c:ah ρ 24=U (U x))(hx: ∀{J:Prop->Prop},J (n∈mc j)->cy h J .ml x .none)(f:h u=U (.list<|d4 a left 0 j))(hl:(d4 a left 0 j).length<=100)(k:P .next ρ h):
  ex I CX (.ite (.eY .ne (.eY .ml (.x 24)<|.c .none)<|.eY .oV (.x 23)<|.comp aa [] (.x 20) (.c<|.bool aa)<|.ix (.x 0)<|.c<|.int 3) QY .nil) ρ h P:=
 E2 (iV<|Pj<|ap c<|bl<|hx<|Pj<|ap e<|km<|jQ<|ap b<|.LB f ⟨cC hl,jC<|Ur f j 0<|.Po<|.J1<|gm (λq=>q rfl)<|gg k⟩)
set_option smartUnfolding false in
theorem Pv(D':Hd hb B (gZ W u z a) h)(hw:(bw (eJ W D) n).getD .none=w)(hn:n=1\/n=2)(k: ∀h',Hd hb B (gZ W u z a) h'->P .next (aq<|sZ v W D y p t z u o j a l dZ n<|U<|.op w) h'):
  ex I CX (.af (.x 24)<|.me (.at (.x 19) 37) 3<|.cons (.x 23) .nil) (aq<|sZ v W D y p t z u o j a l dZ n<|x24.map .op) h P:=by
 rcases hn with rfl|rfl
 ·exact gJ (n:=0) [] [.v<|.op w] D' (tG rfl rfl<|bI bk) (.c ⟨hw,tI⟩<|.d λh' D _=>k h' D)
 ·exact gJ (n:=0) [] [.v<|.op w] D' (tG rfl rfl<|bI bk) (.c ⟨hw,tI⟩<|.d λh' D _=>k h' D)
set_option smartUnfolding false in
theorem O1(D':Hd hb B (gZ W u z a) h)(hn:n=1\/n=2)(k: ∀x24 h',Hd hb B (gZ W u z a) h'->P .next (aq<|sZ v W D y p t z u l j a o dZ n<|U<|.op x24) h'):
  aZ I CX Ea (aq<|sZ v W D y p t z u l j a o dZ n<|U<|.op<|kq W n) h P/\aZ I CX Ea (aq<|sZ v W D y p t z u l j a o dZ n<|U<|.op .none) h P:=by
 rcases hn with rfl|rfl
 ·exact⟨gG (n:=0) [] [.n,.n,.n] D' (tG rfl rfl<|aB bk)<|.c ⟨rfl,rfl⟩<|.d λh' D _=>k _ h' D,gG (n:=0) [] [] D' (tG rfl rfl<|aB bk)<|.d λh' D _=>k _ h' D⟩
 ·exact⟨gG (n:=0) [] [.n,.n,.n] D' (tG rfl rfl<|aB bk)<|.c ⟨rfl,rfl⟩<|.d λh' D _=>k _ h' D,gG (n:=0) [] [] D' (tG rfl rfl<|aB bk)<|.d λh' D _=>k _ h' D⟩
theorem Ms(D':Hd hb B (gZ W u z<|d4 a left 0 l) h)(hl:(d4 a left 0 l).length<=100)(hD:n∈D↔n∈mc l)(hn:n=1\/n=2)(k: ∀x24 h',Hd hb B (gZ W u z<|d4 a left 0 l) h'->P .next (aq<|sZ v W D Q y A z u t o (d4 a left 0 l) p dZ n<|U<|.op x24) h'):
  aZ I CX ND (aq<|sZ v W D Q y A z u t o (d4 a left 0 l) p dZ n<|x24.map .op) h P:=
 if m:n∈D then bA (Pv D' (by rw[wh.1 m];rfl) hn λh1 D1=>bA<|O5 rfl rfl rfl (λj=> .Jo rfl<|eq_true (hD.mp m)▸j) (D1.am 0 u _ rfl) hl (O1 D1 hn k).1)
 else bA (Pv D' (by rw[wh.2 m];rfl) hn λh1 D1=>bA<|O5 rfl rfl rfl (λj=> .Qm<|eq_false (λq=>m<|hD.mpr q)▸j) (D1.am 0 u _ rfl) hl (O1 D1 hn k).2)
end
abbrev PT:Fl->L->H->Prop:=λfl _ _=>wu fl= .bool aa
section
variable{W:Wt}{dZ x24:Option V}
theorem Vo(b:h u=U (.list<|d4 a left 0 j))(hz:h z=U (.list [.int<|W.s 1,.int<|W.s 2]))(nz:u≠z)(hl:(d4 a left 0 j).length<=100)(hD: ∀n,n∈D↔n∈mc j):
  aZ I CX Gq (aq<|sY v (.op<|.ref z) W.M.v (.fz A 11<|lY W (d4 a left 0 j) D Q t) o l u (.op p) (dZ.map .op) Y Y) h PT:=
 bA (iC<|Xu<|nZ<|ay<|bl<|ay<|bl<|bg<|.ug ⟨tI,eI<|Ms (x24:=Y) (Hd.of (g:=gZ W u z<|d4 a left 0 j)<|Fa.ls b (b9 nz bj)<|Fa.ls hz bj Fa.nl) hl (hD 1) (.inl rfl) λy h1 D1=>⟨h1,H.le_refl _,tI,eI<|Ms (x24:=U y) D1 hl (hD 2) (.inr rfl) λy h2 D2=>⟨h2,H.le_refl _,tI,bA<|mL<|bl rfl⟩⟩⟩)
set_option smartUnfolding false in
theorem Va(D':Hd hb B [(u,.list<|d4 a left 0 l)] h)(hl:(d4 a left 0 l).length<=100)(k: ∀h',Hd hb B [(u,.list<|d4 a left 0 l)] h'->aZ I CX Gq (aq<|sY v (.op<|.ref z) W.M.v (.fz y 11<|lY W (d4 a left 0 l) D A t) p j u (.op o) (dZ.map .op) Y Y) h' P):
  aZ I CX xH (aq<|sY v (.op<|.ref z) W.M.v (.fz y 11<|lY W (d4 a left 0 l) D A t) p j u (.op o) (dZ.map .op) Y Y) h P:=
 bA (gJ (n:=0) [] [.n] D' (yi rfl tI<|aB<|bI<|aD<|aD bk)<|.c (cC hl)<|.c ⟨rfl,ah4 Z2⟩<|.d λh' D _=>k h' D)
end
def lv(l:List V):Nat->V:=λn=>(ah l n).getD .none
section
theorem VC: ∀{h:List Pp} {n a:Int},(d4 a left n h).length<=h.length:=λ{h}=>by
 induction h with
 |nil=>exact dP _
 |cons q h ih=>
  intro n a
  show(jS a (left+n) q++d4 a left (n+q.wd) h).length<=h.length+1
  rw[aC,c5 h.length]
  refine gQ ?_ ih
  unfold jS
  cases q.p with
  |lt c=>exact dP _
  |kn w=>exact j7 _
noncomputable abbrev ZO(v:Nat->V)(m8 m1 v19:V)(a tall:Int):SL:=[U<|.op<|v 0,U<|.op m1,U<|.op<|v 2,U<|.op<|v 3,U<|.op<|v 4,U<|.op<|v 5,U<|.op<|v 6,U<|.int a .no,U<|.op m8,U<|.op<|v 9,U<|.op<|v 10,U<|.op<|v 11,U<|.op<|v 12,U<|.op<|v 13,U<|.op<|v 14,U<|.op<|v 15,U<|.int tall .no,U<|.op<|v 17,U<|.op<|v 18,U<|.op v19,Y,Y,Y,Y,Y]
set_option smartUnfolding false in
theorem aQ5(g:v 6= .int left)(b:v 15= .fl (l.map qV))(hz:h z=U (.list [.int<|W.s 1,.int<|W.s 2]))(f:l.length<=16)(hD: ∀n,n∈D↔n∈mc l):
  aZ I CX F8 (aq<|ZO v (.ref z) W.M.v (.fz p 11<|lY W (d4 (j+a) left 0 l) D t o) j a) h PT:=
 have rl:(d4 (j+a) left 0 l).length<=100:=ak VC (ak f dd)
 j1 (n:=0) 1 [] [] (Hd.of Fa.nl)
  (aB<|aB<|aB<|aB<|aB<|aB<|aB<|aT tI<|aB<|aB<|aB<|aB<|aB<|aB<|aB<|aB<|aT tI<|aB<|aB<|aB<|aD<|aD<|aD<|aD<|aD bk)
  (.d λu h1 D1 _=>bA (iC (jQ (ap (aA (λx=>U<|U x) b) (.fN (by
   have q:=Tw (v19:= .fz p 11<|lY W (d4 (j+a) left 0 l) D t o) (P:=oh CX xH PT) l 0 [] Y Y Y (ak (jG<|gM _)<|ak f dd) D1 λmj dZ h2 D2=>
    Va (v:=v) D2 rl λh3 c=>Vo (c.am 0 u _ rfl) (c.f _ _ hz λm=>dB m) (λe=>gI <|(e▸hz).symm.trans<|D1.im (k:=0) rfl nofun) rl hD
   rw[e7] at q
   exact g.symm.subst (motive:=λy=>du (cq CX (Tg.x 22) AG) bP (l.map qV) (aq<|sY v (.op<|.ref z) W.M.v (.fz p 11<|lY W (d4 (j+a) left 0 l) D t o) j a u (.op y) Y Y Y) h1<|oh CX xH PT) q))))))
theorem aG5:n∈(oQ left j a).D↔n∈mc a:=(ai1 a 0 mP).trans ⟨λh=>h.elim (λh=>dB h) id,.inr⟩
theorem Zf{a0 A X y D Q p t o u}(wok:W.ok)(i:d8 vs a)(hl:a.length<=16)(ok: ∀q∈a,kx W q)(lb:0<=left/\left<=1000)(tb:0<=j/\j<=1000)(hz:h z=U (.list [.int<|W.s 1,.int<|W.s 2])):
  aZ I CX FS (oW (U a0) (U W.M.v) (U A) (U X) (U y) (U D) left j (U<|.ref z) (U Q) (U p) (U t) (U o) W (.fz b 4<|f_ (fM a) (fD 0 a) (hV 0 a) vs) (U<|.fl<|a.map qV) (U<|.int<|fD 0 a) (U u) Y Y) h PT:=
 Tk wok i hl ok lb tb λdv w ta c h' l=>aQ5 (v:=lv [a0,.none,A,X,y,D,.int left,.none,.none,Q,p,t,o,lj W,.fz b 4<|f_ (fM a) (fD 0 a) (hV 0 a) vs,.fl<|a.map qV,.none,u,.ref w]) rfl rfl (l _ _ hz) hl λn=>aG5
end
theorem aL5{f:Fd}(ok:f.ok) i: -2100000<=a7 (kw i) f.sz/\a7 (kw i) f.sz<=60000000:=vC ok.s0 ok.s1 (show -70000<=kw i/\kw i<=2001000 by unfold kw;split <;>decide)
theorem L8(hn: ∀c,n=U c->f.dE c): ∀p∈hR n,nf f p:=λp m=>by
 cases n with
 |none=>exact dB m
 |some c=>exact b_.mp m▸hn c rfl
theorem ay9(ok:f.ok) tp: ∀p∈mV f tp,nf f p:=λp m=>by
 cases tp with
 |none=>exact dB m
 |some r=>exact b_.mp m▸aL5 ok r.2.2
theorem C8{α:Type}{P:α->Prop}{l m:List α}(h: ∀x∈l,P x)(k: ∀x∈m,P x): ∀x∈l++m,P x:=λx i=>(pG.mp i).elim (h x) (k x)
theorem CL(ok:f.ok): ∀r now,(∀c,now=U c->f.dE c)-> ∀p∈J f now r,nf f p:=λr=>by
 induction r with
 |nil=>exact λnow hn=>L8 hn
 |cons c r ih=>
  intro now hn
  have go:=λe: ∀q,ji f now c=U q->q.2.1=aa=>I_ e▸C8 (C8 (L8 hn)<|ay9 ok _) (ih (nx f c) λ_=>IK)
  cases h:ji f now c with
  |none=>exact go λq e=>bR <|h.symm.trans e
  |some q=>
   obtain⟨p,b,y⟩:=q
   cases b with
   |true=>exact go λq e=>bL (h.symm.trans e)▸rfl
   |false=>exact Jn h▸ih (U y) λz q=>bL q▸(Fi ok h).2
noncomputable abbrev F2(f:Fd)(a:ai)(N:List Pt):List Pp:=N.map λp=>⟨f,a,p⟩
theorem fQ.items(ok:f.ok)(i:fQ (f.v a) vs N):(∀p∈N,nf f p)->d8 vs (F2 f a N):=by
 induction i with
 |nil=>exact λ_=> .nil
 |cons x _ ih=>exact λh=> .cons x ⟨ok,h _<|.head _⟩ (ih λp m=>h p<|.tail _ m)
theorem Wt.ok.f{W:Wt}(w:W.ok)(hn:n=1\/n=2):(W.f n).ok:=hn.elim (λe=>e▸⟨w.M,(dd:(1:Int)<=1),(dd:(1:Int)<=255),.inl rfl,w.s0 1,w.s1 1⟩) λe=>e▸⟨w.M,(dd:(1:Int)<=2),(dd:(2:Int)<=255),.inr rfl,w.s0 2,w.s1 2⟩
def jr(W:Wt)(n:Int)(t:List Int):List Pp:=F2 (W.f n) (W.a n) (J (W.f n) Y t)
theorem Lm{n:Int}(hn:n=1\/n=2):1<=n/\n<=2:=hn.elim (λe=>e▸(dd:(1:Int)<=1/\(1:Int)<=2)) λe=>e▸(dd:(1:Int)<=2/\(2:Int)<=2)
theorem OK(w:W.ok)(hn:n=1\/n=2): ∀q∈jr W n t,kx W q:=λq m=>(AX.mp m).elim λp h=>h.2▸
 ⟨⟨w.f hn,CL (w.f hn) t Y (λ_ e=>bR e) p h.1⟩,(Lm hn).1,(Lm hn).2,rfl,rfl⟩
theorem te(h:t.length<=4):(jr W n t).length<=8:=by
 unfold jr
 rw[bO]
 exact ak (z2 (W.f n) t Y) (jl 2 h)
section
variable{P:Fl->L->H->Prop}
noncomputable abbrev kY(x0 x1 x2 x3 x4 x5:Option V)(left a:Int)(x8 x9 x10 cA kL pZ lX mJ nQ tT:Option V):L:=[x0,x1,x2,x3,x4,x5,U<|.int left,U<|.int a,x8,x9,x10,cA,kL,pZ,lX,mJ,nQ,tT,Y,Y,Y,Y,Y,Y,Y]
theorem Zy(k:P .next (kY o x1 x2 t x4 x5 left a p (U<|W.v 1) (U<|W.v 2) l j (U<|lj W) Y Y Y Y) h):ex I CX (.af (.x 13)<|.di aa (.cons (.c<|.int 1)<|.cons (.c<|.int 2) .nil)<|.cons (.x 9)<|.cons (.x 10) .nil) (kY o x1 x2 t x4 x5 left a p (U<|W.v 1) (U<|W.v 2) l j Y Y Y Y Y) h P:=
 mA (aw7<|ay<|bl<|ay<|bl<|bg<|ay<|ap rfl<|ay<|ap rfl<|bg<|eI (C:=CX) k)
theorem XS(wok:W.ok)(l1:l.length<=4)(l2:a.length<=4)(b1: ∀c∈l,0<=c/\c<=255)(b2: ∀c∈a,0<=c/\c<=255)(ht:h t=U (.list [.fl<|vi l,.fl<|vi a]))
  (k: ∀b vs h',H.le h h'->d8 vs (jr W 1 l++jr W 2 a)->P .next (kY y x1 x2 z x4 x5 left p A (U<|W.v 1) (U<|W.v 2) (U<|.ref t) o u (U<|.fz b 4<|f_ (fM<|jr W 1 l++jr W 2 a) (fD 0<|jr W 1 l++jr W 2 a) (hV 0<|jr W 1 l++jr W 2 a) vs) Y Y Y) h'):
  ex I CX (.af (.x 14)<|.ix (.call 49<|.cons (.dT .add (.call 100<|.cons (.x 9)<|.cons (.ix (.x 11)<|.c<|.int 0) .nil)<|.call 100<|.cons (.x 10)<|.cons (.ix (.x 11)<|.c<|.int 1) .nil) .nil)<|.c<|.int 0) (kY y x1 x2 z x4 x5 left p A (U<|W.v 1) (U<|W.v 2) (U<|.ref t) o u Y Y Y Y) h P:=
 mA (iL (eN (ay (eC (eN (ay (ap rfl (ay (iL (ap rfl (bl (.om ht dd dd rfl (bg (PK (wok.f<|.inl rfl) l1 b1 λh1 g e1 q=>eN (ay (ap rfl (ay (iL (ap rfl (bl (.om (e1 _ _ ht) dd dd rfl (bg (PK (wok.f<|.inr rfl) l2 b2 λh2 f e2 i2=>
  have s:=q.items (wok.f<|.inl rfl) (CL (wok.f<|.inl rfl) l Y λ_ e=>bR e)
  have i:=i2.items (wok.f<|.inr rfl) (CL (wok.f<|.inr rfl) a Y λ_ e=>bR e)
  have j:=s.gW i
  have ll:=aC▸gQ (te l1) (te l2)
  .vN (cC<|j.len▸ak ll dd) (bg<|au2 j ll λb r h3 e3=>bl<|.nh dd dd rfl<|eI<|k b (g++f) h3 (H.le_trans e1<|H.le_trans e2 e3) j))))))))))))))))))))))))
end
section
variable{W:Wt}{h:H}{t z:ai}{left l7:Int}{t1 t2:List Int}{x0 x1 x2 x3 x4 x5 x8 kL:Option V}{P:Fl->L->H->Prop}{x9 x10 cA pZ lX mJ nQ tT:Option V}{qs:List Pp}
theorem OC{ρ:L}{Q:V->H->Prop}(wok:W.ok)(hn:n=1\/n=2)(hi:0<=i/\i<=1)(e1:ah ρ 1=U (U W.M.v))(a:ah ρ 11=U (U<|.ref t))(e:ah ρ 8=U (U<|.ref z))(ht:h t=U (.list j))(hz:h z=U (.list [.int<|W.s 1,.int<|W.s 2]))(f:ah j i.toNat=U (.fl<|vi u))(g:ah [V.int<|W.s 1,.int<|W.s 2] i.toNat=U (.int<|W.s n))(c:u.length<=4)
  (k: ∀h',H.le h h'->Q (.fl<|(jr W n u).map qV) h'):(ao I CX (.comp aa [] (.call 108<|.cons (.x 1)<|.cons (.ix (.x 11)<|.c<|.int i)<|.cons (.ix (.x 8)<|.c<|.int i) .nil) (.c<|.bool aa)<|.dT .add (.tu<|.cons (.c<|.int n) .nil)<|.x 0) ρ).v h Q:=
 have b:=az hi.2 dd
 km (Ou (eN (ay (ap e1 (ay (iL (ap a (bl (.om ht hi.1 b f (ay (iL (ap e (bl (.om hz hi.1 b g (bg (Y5 (wok.f hn) c λh' l=> .fN ⟨cC (by rw[bO];exact ak (z2 (W.f n) u Y)<|ak (jl 2 c) dd),jC (yr (J (W.f n) Y u) (λp _ Q q=>eC<|nZ<|ay<|bl<|bg<|ap rfl<|.MZ (dd:5<=1000000) q) (by
  have k:=k h' l
  unfold jr F2 at k
  rw[AZ] at k
  exact k))⟩))))))))))))))))
theorem Vu(wok:W.ok)(l1:t1.length<=4)(l2:t2.length<=4)(ht:h t=U (.list [.fl<|vi t1,.fl<|vi t2]))(hz:h z=U (.list [.int<|W.s 1,.int<|W.s 2]))
  (k: ∀h',H.le h h'->P .next (kY x0 (U W.M.v) x2 x3 x4 x5 left l7 (U<|.ref z) x9 x10 (U<|.ref t) kL pZ lX (U<|.fl<|(jr W 1 t1++jr W 2 t2).map qV) Y Y) h'):
  ex I CX (.af (.x 15)<|.dT .add (.comp aa [] (.call 108<|.cons (.x 1)<|.cons (.ix (.x 11)<|.c<|.int 0)<|.cons (.ix (.x 8)<|.c<|.int 0) .nil) (.c<|.bool aa)<|.dT .add (.tu<|.cons (.c<|.int 1) .nil)<|.x 0)<|.comp aa [] (.call 108<|.cons (.x 1)<|.cons (.ix (.x 11)<|.c<|.int 1)<|.cons (.ix (.x 8)<|.c<|.int 1) .nil) (.c<|.bool aa)<|.dT .add (.tu<|.cons (.c<|.int 2) .nil)<|.x 0) (kY x0 (U W.M.v) x2 x3 x4 x5 left l7 (U<|.ref z) x9 x10 (U<|.ref t) kL pZ lX Y Y Y) h P:=
 mA (eC (OC wok (.inl rfl) dd rfl rfl rfl ht hz rfl rfl l1 λh1 e1=>OC wok (.inr rfl) dd rfl rfl rfl (e1 _ _ ht) (e1 _ _ hz) rfl rfl l2 λh2 e2=>
  .vN (cC<|by rw[aC,bO,bO];exact ak (gQ (te l1)<|te l2) dd)<|eI<|by rw[<-qZ];exact k h2<|H.le_trans e1 e2))
theorem ML{i:Int}{ρ:L}{g:Pp->Int}(hi:0<=i/\i<=10)(a:ah ρ 15=U (U<|.fl<|qs.map qV))(b:qs.length<=16)(f: ∀q,ah [V.int q.f.n,(match q.p with|.lt c=> .int c|.kn _=> .none),.int q.wd,.int q.ht,.int q.dp] i.toNat=U (.int<|g q))(k:Q (.int<|dM 0<|qs.map g) h):
  (ao I CX (.bi .max<|.cons (.dT .add (.li aa<|.cons (.c<|.int 0) .nil)<|.comp aa [] (.x 15) (.c<|.bool aa)<|.ix (.x 0)<|.c<|.int i) .nil) ρ).v h Q:=
 eP (ay (eC (w4 (ay (bl (bg (km (jQ (ap a (.fN ⟨cC<|ak (by rw[bO];exact b) dd,jC (yr qs (λq _ Q w=>iL<|ap rfl<|bl<|.nh hi.1 (az hi.2 dd) (f q) w) (.vN (cC<|by rw[aC,bO];exact gQ (dd:1<=84) b) (bg (by
  have e:[V.int 0]++qs.map (λq=>V.int<|g q)=vi (0::qs.map g):=by show _=V.int 0::(qs.map g).map V.int;rw[AZ];rfl
  rw[e]
  exact .aE5 k))))⟩))))))))))
end
section
variable{W:Wt}
theorem aq7(b:a.length<=16)(k:P .next (kY u x1 x2 z x4 x5 left j y x9 x10 t p o l (U<|.fl<|a.map qV) (U<|.int<|fD 0 a)<|U<|.int<|hV 0 a) h):
  ex I CX (.af (.aj<|.cons (.x 16)<|.cons (.x 17) .nil)<|.tu<|.cons (.bi .max<|.cons (.dT .add (.li aa<|.cons (.c<|.int 0) .nil)<|.comp aa [] (.x 15) (.c<|.bool aa)<|.ix (.x 0)<|.c<|.int 3) .nil)<|.cons (.bi .max<|.cons (.dT .add (.li aa<|.cons (.c<|.int 0) .nil)<|.comp aa [] (.x 15) (.c<|.bool aa)<|.ix (.x 0)<|.c<|.int 4) .nil) .nil) (kY u x1 x2 z x4 x5 left j y x9 x10 t p o l (U<|.fl<|a.map qV) Y Y) h P:=
 mA (nZ<|ay<|ML dd rfl b (λ_=>rfl)<|ay<|ML dd rfl b (λ_=>rfl)<|bg<|Di rfl<|tA<|eI<|tA<|eI<|BF k)
theorem TO(c:a.length<=16)(k:P .next (kY t x1 x2 u x4 x5 left l y x9 x10 p j o (U<|.fz b 4<|f_ (fM a) (fD 0 a) (hV 0 a) vs) (U<|.fl<|a.map qV) (U<|.int<|fD 0 a)<|U<|.int<|hV 0 a) h):
  ex I CX (.ite (.eY .ne (.tu<|.cons (.at (.x 14) 22)<|.cons (.at (.x 14) 23)<|.cons (.at (.x 14) 24) .nil)<|.tu<|.cons (.bi .sum<|.cons (.comp aa [] (.x 15) (.c<|.bool aa)<|.ix (.x 0)<|.c<|.int 2) .nil)<|.cons (.x 16)<|.cons (.x 17) .nil) I3 .nil) (kY t x1 x2 u x4 x5 left l y x9 x10 p j o (U<|.fz b 4<|f_ (fM a) (fD 0 a) (hV 0 a) vs) (U<|.fl<|a.map qV) (U<|.int<|fD 0 a)<|U<|.int<|hV 0 a) h P:=
 E2 (iV (nZ (ay (cI (ap rfl (.iG rfl (ay (cI (ap rfl (.iG rfl (ay (cI (ap rfl (.iG rfl (bg (nZ (ay (eP (ay (km (jQ (ap rfl (.fN ⟨cC<|ak (by rw[bO];exact c) dd,jC (yr a (λq _ Q w=>iL<|ap rfl<|bl<|.nh dd dd rfl w) (bg (by
  have e:a.map (λq=>V.int q.wd)=vi (a.map Pp.wd):=by show _=(a.map Pp.wd).map V.int;rw[AZ];rfl
  rw[e]
  exact .FW<|ay<|ap rfl<|ay<|ap rfl<|bg<|.JN rfl<|gm id<|gg k)))⟩)))))))))))))))))))))))
theorem US{D u A p y j}(wok:W.ok)(l1:o.length<=4)(l2:l.length<=4)(b1: ∀c∈o,0<=c/\c<=255)(b2: ∀c∈l,0<=c/\c<=255)(ht:h t=U (.list [.fl<|vi o,.fl<|vi l]))(hz:h z=U (.list [.int<|W.s 1,.int<|W.s 2]))(lb:0<=left/\left<=1000)(tb:0<=a/\a<=1000):
  aZ I CX HP (kY (U D) (U W.M.v) (U u) (U A) (U p) (U y) left a (U<|.ref z) (U<|W.v 1) (U<|W.v 2) (U<|.ref t) (U j) Y Y Y Y Y) h PT:=
 have ll:=by rw[aC];exact gQ (te l1) (te l2)
 bA (Zy<|bA<|XS wok l1 l2 b1 b2 ht λb vs h1 e1 e=>bA<|Vu wok l1 l2 (e1 _ _ ht) (e1 _ _ hz) λh2 e2=>bA<|aq7 ll<|bA<|TO ll<|Zf wok e ll (C8 (OK wok<|.inl rfl)<|OK wok<|.inr rfl) lb tb<|e2 _ _<|e1 _ _ hz)
end
section
variable{M:aW}{a t z:ai}{b:cX}
noncomputable abbrev am8:E:= .dT .add (.c<|.int 65) (.call 103<|.cons (.x 1)<|.cons (.dT .add (.bi .len<|.cons (.ix (.x 2)<|.c<|.int 0) .nil)<|.c<|.int 1) .nil)
theorem WC(ok:M.ok): ∀(n:Nat) i m (b:cX) h K,h a=U b.o->b.ok m->m+n<=900->(∀cs b' h',cs.length=n->(∀c∈cs,65<=c/\c<=69)->cX.ok b' (m+n)->h' a=U (cX.o b')->Fr h h' [a]->K (vi cs) h')->
  hU (p8 CX (.c<|.bool aa) am8 [U<|.ref a,U M.v]) bP (ez i 1 n) h K:=λn=>by
 induction n with
 |zero=>exact λi m b h K ha hb _ k=>⟨tI,k [] b h rfl (λ_ m=>dB m) ((e7 m).symm▸hb) ha λ_ _ e _=>e⟩
 |succ n ih=>
  intro i m b h K ha hb hm k
  have e:m+((n+1:Nat))=m+1+n:=by rw[qY,iy<|n,<-gq];rfl
  rw[e] at hm
  have m9:=az (n8 (dd:(0:Int)<=1)) (az (n8<|Int.natCast_nonneg n) hm)
  have n4:((M.ls.map lV).length:Int)<=4:=by rw[bO];exact bT.mpr ok.n4
  exact⟨tI,nu (eC (bl (eN (ay (ap rfl (ay (eC (eP (ay (iL (ap rfl (bl (.nh dd dd rfl (bg (.zN (cC<|by rw[bO];exact ak ok.n4 dd) (bl (.jg (bg (yd ha hb ⟨GN<|Int.natCast_nonneg _,az (g9 n4 1) dd⟩ (az m9 dd) λh1 r b1 r0 r1 g e1 f1=>
   .jg<|ih (i+1) (m+1) b1 h1 _ e1 g hm λcs b2 h2 l2 j f e2 f2=>k ((65+r)::cs) b2 h2 (aA (· +1) l2) (jd ⟨n8 r0,fI (iR<|Int.lt_of_lt_of_le r1<|Int.add_le_add_right n4 1) 65⟩ j) (e▸f) e2<|Fr.tr f1 f2)))))))))))))))))))⟩
theorem OH{ρ:L}(ok:M.ok)(e3:ah ρ 3=U (U<|.ref a))(e1:ah ρ 1=U (U M.v))(o:ah ρ 11=U (U<|.ref t))(ha:h a=U b.o)(hb:b.ok m)(m9:m<=500)(ta:t≠a)(ht:h t=U (.list l))(hl:l.length<=5)
  (k: ∀cs b' h',cs.length<=4->(∀c∈cs,65<=c/\c<=69)->cX.ok b' (m+5)->h' a=U (cX.o b')->h' t=U (.list<|l++[.fl<|vi cs])->Fr h h' [a,t]->P .next ρ h'):
  aZ I CX PP ρ h P:=
 bA (h_ (gD (ap o (.qj ht rfl (ay (km (i7 (ay (eN (ay (ap e3 (ay (bl (bg (yd ha hb dd (az m9 dd) λh1 r b1 r0 r1 j p f1=>
  have g:=uW.mpr (iR r1)
  bg (.lN ⟨az dd r0,az (eT r1) dd⟩ ⟨cC (by rw[uh];exact ak g dd),(m_ e3 (m_ e1 (jC (WC ok r.toNat 0 (m+1) b1 h1 _ p j (az (fU (g9 m9 1)<|bT.mpr g) dd) λcs b2 h2 l2 u i s f2=>
   have f:=Fr.tr f1 f2
   bg<|.wn (f _ _ ht<|hI ta) (cC<|ak (cg hl) dd)<|gg<|k cs b2 _ (l2▸g) u (i.aG<|gq m 1 _▸fI (fI (bT.mpr g) 1) m) ((H.jN ta.symm).trans s) (H.kM ..) λb y e n=>(H.jN λq=>n<|bC.mpr<|.inr<|b_.mpr q).trans<|f b y e<|hI λq=>n<|bC.mpr<|.inl q))))⟩))))))))))))))))
end
section
variable{W:Wt}{a2 a4 a5:V}
theorem cb{cs:List Int}(h: ∀c∈cs,65<=c/\c<=69): ∀c∈cs,0<=c/\c<=255:=λc m=>⟨az dd (h c m).1,az (h c m).2 dd⟩
theorem aN8(hx:xs.length<=63)(wok:W.ok)(hz:h z=U (.list [.int<|W.s 1,.int<|W.s 2]))(lb:0<=left/\left<=1000)(tb:0<=j/\j<=1000):
  aZ I CX xa (kY (U<|.fl<|vi xs) (U W.M.v) (U a2) u (U a4) (U a5) left j (U<|.ref z) (U<|W.v 1) (U<|W.v 2) Y Y Y Y Y Y Y) h PT:=
 jO (eN (ay (eN (ay (ap rfl (ay (bl (bg (B3 hx dd dd λc h1 l1=>bg (CE λa b h2 na ok e l=>
  jO (T2 (bg λt nt=>
   have ta:t≠a:=λq=>gI <|(q▸e).symm.trans nt
   have z1:=l1 _ _ hz
   have i:=l _ _ z1
   have o:=λq=>gI <|(q▸z1).symm.trans na
   have f:=λq=>gI <|(q▸i).symm.trans nt
   bA (iC (i7 (ay (bl (bg (.lN ⟨dd,dd⟩ ⟨tI,eI (OH wok.M rfl rfl rfl ((H.jN ta.symm).trans e) ok dd ta (H.kM ..) dd λc1 b1 h3 l1 o1 g e1 t1 f1=>⟨h3,H.le_refl _,tI,
    eI<|OH wok.M rfl rfl rfl e1 g dd ta t1 (dd:1<=5) λs b2 h4 l2 o2 p e2 t2 f2=>⟨h4,H.le_refl _,tI,US wok l1 l2 (cb o1) (cb o2) t2 (f2 _ _ (f1 _ _ ((H.jN f).trans i)<|kE o f)<|kE o f) lb tb⟩⟩)⟩))))))))))))))))))
end
def CS:cZ:=λf vs h Q=>al I 100 f vs h Q\/(∃(w:List Int) (sc:Int),(sc=0\/sc=32769)/\f=109/\vs=[.a8 w,.int 2,.int 0,.int sc]/\Q .none h)
theorem aQ9(hs:a=0\/a=32769)(k:Q .none h):CS 109 [.a8 w,.int 2,.int 0,.int a] h Q:= .inr ⟨w,a,hs,rfl,rfl,k⟩
noncomputable def yF(g:L->H->(Fl->L->H->Prop)->Prop)(Q:Fl->L->H->Prop):Fl->L->H->Prop:=λfl ρ h=>match fl with|.next=>g ρ h Q|fl=>Q fl ρ h
def kX(f g:L->H->(Fl->L->H->Prop)->Prop):L->H->(Fl->L->H->Prop)->Prop:=λρ h Q=>f ρ h (yF g Q)
theorem pW(k:f ρ h<|yF g Q):kX f g ρ h Q:=k
theorem oo(k:g ρ h Q):yF g Q .next ρ h:=k
noncomputable abbrev Br:S:= .af (.x 1) (.call 104<|.cons (.call 102<|.cons (.call 101<|.cons (.x 0)<|.cons (.c<|.int 0) .nil) .nil) .nil)
noncomputable abbrev D7:S:= .af (.x 2) (.call 106<|.cons (.call 105<|.cons (.x 1) .nil) .nil)
noncomputable abbrev FC:S:= .af (.x 3) (.call 102<|.cons (.call 101<|.cons (.x 0)<|.cons (.c<|.int 1) .nil) .nil)
noncomputable abbrev FT:S:= .af (.x 4) (.ix (.tu<|.cons (.c<|.int 655360)<|.cons (.c<|.int 786432)<|.cons (.c<|.int 1000003)<|.cons (.c<|.int 8388609)<|.cons (.c<|.int 70001)<|.cons (.c<|.int 1) .nil)<|.call 103<|.cons (.x 3)<|.cons (.c<|.int 6) .nil)
noncomputable abbrev Dv:S:= .af (.x 5) (.ix (.tu<|.cons (.c<|.int 1)<|.cons (.c<|.int 500)<|.cons (.c<|.int 1000)<|.cons (.c<|.int 1200)<|.cons (.c<|.int 2986)<|.cons (.c<|.int 32768)<|.cons (.c<|.int 0)<|.cons (.c<|.int 32769)<|.cons (.c<|.int 7) .nil)<|.call 103<|.cons (.x 3)<|.cons (.c<|.int 9) .nil)
noncomputable abbrev Go:S:= .af (.aj<|.cons (.x 6)<|.cons (.x 7) .nil) (.tu<|.cons (.call 103<|.cons (.x 3)<|.cons (.c<|.int 1000) .nil)<|.cons (.call 103<|.cons (.x 3)<|.cons (.c<|.int 1000) .nil) .nil)
noncomputable abbrev DT:S:= .af (.x 8) (.li ae<|.cons (.x 4)<|.cons (.dT .nK (.dT .mul (.ix (.x 1)<|.c<|.int 3)<|.x 5)<|.c<|.int 1000) .nil)
noncomputable abbrev vE:S:= .af (.aj<|.cons (.x 9)<|.cons (.x 10) .nil) (.tu<|.cons (.call 109<|.cons (.x 2)<|.cons (.c<|.int 1)<|.cons (.x 4)<|.cons (.c<|.int 0) .nil)<|.cons (.call 109<|.cons (.x 2)<|.cons (.c<|.int 2)<|.cons (.c<|.int 0)<|.cons (.x 5) .nil) .nil)
def CR:L->H->(Fl->L->H->Prop)->Prop:=
 kX (ex I CX Br) (kX (ex I CX D7)<|kX (ex I CX FC)<|kX (ex I CX FT)<|kX (ex I CX Dv)<|kX (ex I CX Go)<|kX (ex I CX DT)<|kX (ex I CS vE)<|aZ I CX q_)
section
abbrev mS(M:aW):SV:= .aj [.op<|.fl<|M.ls.map lV,.op<|.fl<|M.rs.map rV,.int M.ck .no,.int M.de<|.b 327680 917519]
theorem as9(ok:M.ok):aN g<|mS M:=dW (bE<|bE<|bM tI<|cD ok.d0 ok.d1 aY)
abbrev ny(xs:List Int)(M:aW)(a:ai)(x4 x5 x6 x7 x8 x9 x10:Option SV):SL:=[U<|.op<|.fl<|vi xs,U<|mS M,U<|.op<|.a8<|bs M.W,U<|.ref 0 a,x4,x5,x6,x7,x8,x9,x10,Y,Y,Y,Y,Y,Y,Y,Y,Y,Y,Y,Y,Y,Y]
theorem vz{g:G}(ok:M.ok)(e:ah g 0=U (a,o))(w:a6 g [x4,x5,x6,x7,h,x9,x10,Y,Y,Y,Y,Y,Y,Y,Y,Y,Y,Y,Y,Y,Y]):a6 g<|ny xs M a x4 x5 x6 x7 h x9 x10:=aB (aT (as9 ok)<|aB<|bG e w)
theorem q9:a6 g [Y,Y,Y,Y,Y,Y,Y,Y,Y,Y,Y,Y,Y,Y]:=aD (aD<|aD<|aD<|aD<|aD<|aD<|aD<|aD<|aD<|aD<|aD<|aD<|aD bk)
end
section
variable{M:aW}{P:Fl->L->H->Prop}
abbrev rI(a:ai)(b:cX):G:=[(a,ke b)]
noncomputable abbrev qL(s:Int):SV:= .int s (.b 1 8388609)
noncomputable abbrev nW(s:Int):SV:= .int s (.b 0 32769)
abbrev qa(s:Int):Prop:=(1<=s/\s<=32768)\/(s=0\/s=32769)
set_option smartUnfolding false in
theorem ai9(c:M.ok)(ok:b.ok m)(m9:m<=900)(D:Hd hb B (rI a b) h)(k: ∀s b' h',1<=s/\s<=8388609->cX.ok b' (m+1)->Hd hb B (rI a b') h'->P .next (aq<|ny xs M a (U<|qL s) Y Y Y Y Y Y) h'):ex I CX FT (aq<|ny xs M a Y Y Y Y Y Y Y) h P:=
 gJ (n:=1) [103] [hD 6 5 0<|m+1,hP 1 8388609] D (vz c rfl<|aD<|aD<|aD<|aD<|aD<|aD<|aD q9)
  (.c (jD rfl ok dd dd dd<|az m9 dd)<|.c (λx w=>Ae (xs:=[655360,786432,1000003,8388609,70001,1]) w.1 rfl dd)<|.d λx w y v h' D _=>k y x.2 h' v w.2 D)
set_option smartUnfolding false in
theorem ad6(e:M.ok)(ok:b.ok m)(m9:m<=900)(hs:1<=s/\s<=8388609)(D:Hd hb B (rI a b) h)(k: ∀c b' h',qa c->cX.ok b' (m+1)->Hd hb B (rI a b') h'->P .next (aq<|ny xs M a (U<|qL s) (U<|nW c) Y Y Y Y Y) h'):ex I CX Dv (aq<|ny xs M a (U<|qL s) Y Y Y Y Y Y) h P:=
 gJ (n:=1) [103] [hD 9 8 0<|m+1,.c Int (λ_ c=>qa c) λ_ c=>(nW c,[])] D (vz e rfl<|aT hs<|aD<|aD<|aD<|aD<|aD<|aD q9)
  (.c (jD rfl ok dd dd dd<|az m9 dd)<|.c (λx w=>(AK w.1.1 w.1.2).elim λy q=>⟨y,(dd: ∀y∈[1,500,1000,1200,2986,32768,0,32769,7],qa y) y q.1,q.2,(dd: ∀y∈[1,500,1000,1200,2986,32768,0,32769,7],(0:Int)<=y/\y<=32769) y q.1⟩)<|.d λx w y v h' D _=>k y x.2 h' v w.2 D)
theorem Lf(h:qa a):0<=a/\a<=32769:=h.elim (λh=>⟨az dd h.1,az h.2 dd⟩) λh=>h.elim (λe=>e▸(dd:(0:Int)<=0/\(0:Int)<=32769)) λe=>e▸(dd:(0:Int)<=32769/\(32769:Int)<=32769)
set_option smartUnfolding false in
theorem SX(e:M.ok)(ok:b.ok m)(m9:m<=900)(hs:1<=s/\s<=8388609)(hc:qa j)(D:Hd hb B (rI a b) h)(k: ∀left c b' h',0<=left/\left <1000->0<=c/\c <1000->Hd hb B (rI a b') h'->P .next (aq<|ny xs M a (U<|qL s) (U<|nW j) (U<|.int left .no) (U<|.int c .no) Y Y Y) h'):ex I CX Go (aq<|ny xs M a (U<|qL s) (U<|nW j) Y Y Y Y Y) h P:=
 gJ (n:=1) [103] [hD 1000 999 0<|m+1,hD 1000 999 0<|m+1+1] D (vz e rfl<|aT hs<|aT (Lf hc)<|aD<|aD<|aD<|aD<|aD q9)
  (.c (jD rfl ok dd dd dd<|az m9 dd)<|.c (λx w=>jD rfl w.2 dd dd dd<|az (g9 m9 1) dd)<|.d λx w y v h' D _=>k x.1 y.1 y.2 h' w.1 v.1 D)
abbrev nY(a:ai)(b:cX)(z:ai)(s s2:Int):G:=[(a,ke b),(z,.list [.int s,.int s2])]
set_option smartUnfolding false in
theorem aD0(c:M.ok)(hs:1<=s/\s<=8388609)(hc:qa l)(D:Hd hb B (rI a b) h)(k: ∀z h',Hd hb B (nY a b z s<|M.de*l/1000) h'->P .next (aq<|ny xs M a (U<|qL s) (U<|nW l) (U<|.int left .no) (U<|.int j .no) (U<|.ref 1 z) Y Y) h'):ex I CX DT (aq<|ny xs M a (U<|qL s) (U<|nW l) (U<|.int left .no) (U<|.int j .no) Y Y Y) h P:=
 gJ (n:=1) [103] [] D (vz c rfl<|aT hs<|aT (Lf hc)<|aT tI<|aT tI<|aD<|aD<|aD q9)
  (.d λz h' D _=>k z h' D)
end
section
variable{P:Fl->L->H->Prop}
noncomputable abbrev fA(M:aW)(s:Int):Fd:=⟨M,1,"fa",s⟩
noncomputable abbrev fB(M:aW)(s:Int):Fd:=⟨M,2,"fb",s⟩
abbrev k5(xs:List Int)(M:aW)(a z:ai)(s left b:Int)(x5:SV)(x9 x10:Option SV):SL:=ny xs M a (U<|qL s) (U x5) (U<|.int left .no) (U<|.int b .no) (U<|.ref 1 z) x9 x10
theorem By(c:M.ok)(hs:1<=s/\s<=8388609)(e:aN (nY a b z s h) x5)(w:a6 (nY a b z s h) [x9,x10,Y,Y,Y,Y,Y,Y,Y,Y,Y,Y,Y,Y,Y,Y]):a6 (nY a b z s h)<|k5 xs M a z s left j x5 x9 x10:=vz c rfl (aT hs<|aT e<|aT tI<|aT tI<|bG rfl w)
theorem T_(e:M.ok)(hs:1<=s/\s<=8388609)(g:1<=j/\j<=32768-> ∀b f h',H.le h h'->P .next (aq<|k5 xs M a z s left l (nW j) (U<|.op<|(fA M s).v b)<|U<|.op<|(fB M<|M.de*j/1000).v f) h')(k2:j=0\/j=32769-> ∀b h',H.le h h'->P .next (aq<|k5 xs M a z s left l (nW j) (U<|.op<|(fA M s).v b)<|U<|.op .none) h')(hc:qa j):
  ex I CS vE (aq<|k5 xs M a z s left l (nW j) Y Y) h P:=
 mA (nZ (ay (eN (ay (ap rfl (ay (bl (ay (ap rfl (ay (bl (bg (.inl (Y_ e hs.1 (az hs.2 dd) λb h1 l1=>
  ay (eN (ay (ap rfl (ay (bl (ay (bl (ay (ap rfl (bg (hc.elim (λc=> .inl<|VS e c.1 c.2 λf h2 l2=>bg<|Di rfl<|tA<|eI<|tA<|eI<|BF<|g c b f h2<|H.le_trans l1 l2)
   λc=>aQ9 c<|bg<|Di rfl<|tA<|eI<|tA<|eI<|BF<|k2 c b h1 l1)))))))))))))))))))))))))
set_option smartUnfolding false in
theorem aG1(c:M.ok)(hs:1<=s/\s<=8388609)(hc:1<=o/\o<=32768)(D:Hd hb B (nY a b z s l) h)(k: ∀h',Hd hb B (nY a b z s l) h'->aZ I CX xa (aq<|k5 xs M a z s left j (.int o<|.b 1 32768) (U<|.op<|(fA M s).v p)<|U<|.op<|(fB M l).v t) h' P):aZ I CX q_ (aq<|k5 xs M a z s left j (.int o<|.b 1 32768) (U<|.op<|(fA M s).v p)<|U<|.op<|(fB M l).v t) h P:=
 j1 (n:=1) 2 [109] [] D (By c hs hc<|aB<|aB q9) (.d λh' D _=>k h' D)
theorem M_(b:M.ok)(hs:1<=s/\s<=8388609):l8 (d+8) hb B 1 109 [.op<|.a8<|bs M.W,.int 2 x,.int s y,aL 0] g ai (λ_=>True) λa=>(.op<|(fB M s).v a,[]):=
 ⟨λ_ _=>tI,λh Q D k=>ab7 b hs.1 (az hs.2 dd) λa h' l=>k a h' tI<|D.le l⟩
set_option smartUnfolding false in
theorem YI(c:M.ok)(hs:1<=s/\s<=8388609)(hc:o=0\/o=32769)(D:Hd hb B (nY a b z s p) h)(k: ∀e h',Hd hb B (nY a b z s s) h'->aZ I CX xa (aq<|k5 xs M a z s left j (.int o .no) (U<|.op<|(fA M s).v l)<|U<|.op<|(fB M s).v e) h' P):aZ I CX q_ (aq<|k5 xs M a z s left j (.int o .no) (U<|.op<|(fA M s).v l)<|U<|.op .none) h P:=by
 rcases hc with rfl|rfl
 ·exact j1 (n:=1) (ρ:=k5 xs M a z s left j (aL 0) (U<|.op<|(fA M s).v l)<|some<|.op .none) 2 [109] [hF<|fB M s] D (By c hs ⟨aU _,aU _⟩<|aB<|aB q9) (.c (M_ c hs)<|.d λe _ h' D _=>k e h' D)
 ·exact j1 (n:=1) (ρ:=k5 xs M a z s left j (aL 32769) (U<|.op<|(fA M s).v l)<|some<|.op .none) 2 [109] [hF<|fB M s] D (By c hs ⟨aU _,aU _⟩<|aB<|aB q9) (.c (M_ c hs)<|.d λe _ h' D _=>k e h' D)
end
section
variable{M:aW}{P:Fl->L->H->Prop}
abbrev pX(xs:List Int)(x1 x2 x3:Option V):L:=[U<|.fl<|vi xs,x1,x2,x3,Y,Y,Y,Y,Y,Y,Y,Y,Y,Y,Y,Y,Y,Y,Y,Y,Y,Y,Y,Y,Y]
theorem aK9(hx:xs.length<=63)(k: ∀(M:aW) h',M.ok->P .next (pX xs (U M.v) Y Y) h'):ex I CX Br (pX xs Y Y Y) h P:=
 mA (eN<|ay<|eN<|ay<|eN<|ay<|ap rfl<|ay<|bl<|bg<|B3 hx dd dd λc h1 l1=>bg<|CE λa b h2 na ok e l=>bg<|V0 e ok λM h3 f=>eI<|k M h3 f)
theorem Uw(a:M.ok)(k: ∀h',P .next (pX xs (U M.v) (U<|.a8<|bs M.W) Y) h'):ex I CX D7 (pX xs (U M.v) Y Y) h P:=
 mA (eN<|ay<|eN<|ay<|ap rfl<|bg<|ah6 a λh1 l1=>bg<|Wo (by rw[Dn];have:=a.n4;have:=a.m3;lia) λh2 l2=>eI<|k h2)
theorem an2(hx:xs.length<=63)(k: ∀a b h',cX.ok b 0->h' a=U (cX.o b)->P .next (pX xs x1 x2<|U<|.ref a) h'):ex I CX FC (pX xs x1 x2 Y) h P:=
 mA (eN<|ay<|eN<|ay<|ap rfl<|ay<|bl<|bg<|B3 hx dd dd λc h1 l1=>bg<|CE λa b h2 na ok e l=>eI<|k a b h2 ok e)
theorem aA7(b:M.ok)(h1:0 <h/\h<=30100000)(h2:0 <a/\a<=30100000):(WW M h a j l).ok:=⟨b,λn=>by show 0 <(if n=1 then h else a);split;exact h1.1;exact h2.1,λn=>by show(if n=1 then h else a)<=_;split;exact h1.2;exact h2.2⟩
theorem JZ{s:Int}(h:1<=s/\s<=8388609):0 <s/\s<=30100000:=⟨h.1,az h.2 dd⟩
theorem Jy{s:Int}(h:0<=s/\s <1000):0<=s/\s<=1000:=⟨h.1,eT h.2⟩
theorem J3(hx:xs.length<=63)(c:M.ok)(hs:1<=s/\s<=8388609)(h2:0 <l/\l<=30100000)(lb:0<=left/\left <1000)(tb:0<=j/\j <1000)(e:Hd hb B (nY a b z s l) h):aZ I CX xa (aq<|k5 xs M a z s left j (.int u t) (U<|.op<|(fA M s).v o)<|U<|.op<|(fB M l).v p) h PT:=
 aN8 (W:=WW M s l o p) hx (aA7 c (JZ hs) h2) (e.am 1 z _ rfl) (Jy lb) (Jy tb)
theorem Ud(hx:xs.length<=63)(e:M.ok)(hs:1<=s/\s<=8388609)(hc:qa o)(lb:0<=left/\left <1000)(tb:0<=j/\j <1000)(D:Hd hb B (nY a b z s<|M.de*o/1000) h):kX (ex I CS vE) (aZ I CX q_) (aq<|k5 xs M a z s left j (nW o) Y Y) h PT:=
 pW (T_ e hs (λc g i q l=>oo<|aG1 e hs c (D.le l) λp f=>J3 hx e hs (Dp e c.1 c.2) lb tb f) (λc g q l=>oo<|YI e hs c (D.le l) λi p f=>J3 hx e hs (JZ hs) lb tb f) hc)
theorem av2(hx:xs.length<=63):CR (pX xs Y Y Y) nH PT:=by
 unfold CR
 exact pW (aK9 hx λM h1 c=>oo (pW (Uw c λh2=>oo (pW (an2 hx λa b h3 ok e=>oo (pW (ai9 c ok dd (Hd.of<|Fa.ls e bj Fa.nl) λs b1 h4 hs g D1=>oo (pW (ad6 c g dd hs D1 λsc b2 o hc f D2=>
  oo<|pW<|SX c f dd hs hc D2 λleft i b3 p lb tb h=>oo<|pW<|aD0 c hs hc h λz l j=>oo<|Ud hx c hs hc lb tb j)))))))))
end
end c6.La
namespace c6
open PySem PySem.W PySem.Calls PyProof.Rows PySem.SeqAt
set_option genCtorIdx true in
inductive Kd where
 |fr
 |own
 |it
inductive Rl where
 |kp (b:Kd) (o:Obj)
 |abs
 |dict (a:ai)
abbrev Rm:=ai->Option Rl
noncomputable def B_:Kd->Nat:=λ|.fr=>1|.own=>2|.it=>3
noncomputable def Om:Rl->Nat:=λ|.kp b _=>B_ b|.abs=>4|.dict _=>5
noncomputable def O3:Option Rl->Nat:=λ|Y=>0|U (.kp _ _)=>1|U .abs=>2|U (.dict _)=>3
theorem bH{a b:Option Rl}{C:Prop}(h:a=b)(e:(O3 a).beq (O3 b)=ae:=by rfl):C:=j4 ((AU _).symm.trans<|h▸e)
theorem qc{a b:Rl}{C:Prop}(h:a=b)(e:(Om a).beq (Om b)=ae:=by rfl):C:=j4 ((AU _).symm.trans<|h▸e)
theorem fX{a b:Kd}{C:Prop}(h:a=b)(e:(B_ a).beq (B_ b)=ae:=by rfl):C:=j4 ((AU _).symm.trans<|h▸e)
def Rm.kp(R:Rm)(b:Kd)(a:ai)(o:Obj):Prop:=R a=U (.kp b o)
abbrev Rm.is(R:Rm)(a:ai)(o:Obj):Prop:=R.kp .fr a o
noncomputable def Rm.bx(R:Rm)(a:ai)(r:Rl):Rm:=λx=>if x=a then U r else R x
def Rm.fl(R S:Rm):Prop:= ∀a o,R.is a o->S.is a o
def Rm.le(R S:Rm):Prop:= ∀a b o,R.kp b a o->S.kp b a o
theorem Rm.le.fl{R S:Rm}(l:R.le S):R.fl S:=λa o=>l a .fr o
theorem Rm.le_refl(R:Rm):R.le R:=λ_ _ _ e=>e
theorem Rm.cO(R:Rm)(a:ai)(r:Rl):R.bx a r a=U r:=aM rfl
theorem Rm.cV{R:Rm}{a b}{r}(e:b≠a):R.bx a r b=R b:=aE e
theorem Rm.ne{R:Rm}{a c}{o}{b}(e:R a=Y)(q:R.kp b c o):c≠a:=λz=>bH <|e.symm.trans ((aA R z).symm.trans q)
theorem Rm.jh{R:Rm}{a}{r}(h:R a=Y):R.le<|R.bx a r:=λ_ _ _ e=>(Rm.cV<|Rm.ne h e).trans e
noncomputable abbrev gS(ws:List av)(n:Nat):Obj:=⟨.type "tuple",Y,.seq ws.toArray n,#[]⟩
noncomputable abbrev cz(ws:List av)(n:Nat):Obj:=⟨.type "list",Y,.seq ws.toArray n,#[]⟩
noncomputable abbrev gb(es:List jj)(n:Nat):Obj:=⟨.type "dict",Y,.dict es.toArray n,#[]⟩
abbrev oP(c:Nat)(d:ai):Obj:=⟨.ref<|dL c,U d,.plain,#[]⟩
noncomputable abbrev jP(a:Array UInt8):List Int:=a.toList.map λx:UInt8=>(x.toNat:Int)
noncomputable def dJ(ds:List<|Int×V):List Int:=ds.map (·.1)
inductive iP (o:Obj) (m:Str->Option av) (k:Nat):Prop
 |mk (es:Array jj) (ep:Nat):o.data= .dict es ep->StrKeys es->(∀x,lH es x=m x)->es.size<=k->iP o m k
inductive bX {α β:Type} (r:α->β->Prop):List α->List β->Prop
 |nil:bX r [] []
 |cons {a:α} {b:β} {l:List α} {m:List β}:r a b->bX r l m->bX r (a::l) (b::m)
set_option inductive.autoPromoteIndices false in
inductive yK (r:V->av->Prop):Nat->List (Nat×V)->Obj->Prop
 |mk {c:Nat} {fs:List (Nat×V)} {o:Obj} {m:Str->Option av} (g:Nat->av):iP o m fs.length->(∀x w,m x=U w-> ∃f v,bc fs f=U v/\x=cN f)->
   (∀f v,bc fs f=U v->f <gz.length/\I.nG c f=aa/\m (cN f)=U (g f))->(∀f v,bc fs f=U v->r v (g f))->yK r c fs o
noncomputable def fY:List (Int×V)->List (Tok×av)->List jj
 |d::ds,t::ts=>⟨hashInt d.1,.int d.1 t.1,t.2⟩::fY ds ts
 |_,_=>[]
inductive ax (R:Rm):V->av->Prop
 |none:ax R .none .none
 |bool (b:Bool):ax R (.bool b) (.bool b)
 |int (i:Int) (t:Tok):ax R (.int i) (.int i t)
 |str (s:Str) (t:Tok):ax R (.str s) (.str s t)
 |a8 (a:Array UInt8) (t:Tok):ax R (.a8<|jP a) (.bytes a t)
 |aj {vs:List V} {ws:List av} {a:ai} {n:Nat}:R.is a (gS ws n)->bX (ax R) vs ws->ax R (.aj vs) (.ref a)
 |fl {vs:List V} {ws:List av} {a:ai} {n:Nat}:R.is a (cz ws n)->bX (ax R) vs ws->ax R (.fl vs) (.ref a)
 |fz {c:Nat} {fs:List<|Nat×V} {a d:ai} {o:Obj}:R.is a (oP c d)->R.is d o->yK (ax R) c fs o->ax R (.fz a c fs) (.ref a)
 |fd {ds:List<|Int×V} {tw:List<|Tok×av} {a:ai} {n:Nat}:R.is a (gb (fY ds tw) n)->(a==kP)=ae->(dJ ds).Nodup->bX (λd t=>ax R d.2 t.2) ds tw->ax R (.fd ds) (.ref a)
 |ref (a:ai):ax R (.ref a) (.ref a)
abbrev aV(R:Rm):List V->List av->Prop:=bX (ax R)
abbrev dD(R:Rm):List (Int×V)->List (Tok×av)->Prop:=bX λd t=>ax R d.2 t.2
abbrev gX(R:Rm):Nat->List (Nat×V)->Obj->Prop:=yK (ax R)
theorem ax.aG{R S}(l:R.fl S){v}{w}(r:ax R v w):ax S v w:=
 ax.rec
  .none .bool .int .str .a8 (λe _ r=> .aj (l _ _ e) r) (λe _ r=> .fl (l _ _ e) r) (λe d _ r=> .fz (l _ _ e) (l _ _ d) r) (λe m n _ r=> .fd (l _ _ e) m n r) .ref
  .nil (λ_ _=> .cons) (λg n a b _=> .mk g n a b) .nil (λ_ _ a b=>bX.cons a b) r
section
variable{r q:α->β->Prop}
theorem bX.aG(h: ∀a b,r a b->q a b)(x:bX r l m):bX q l m:=x.rec .nil λa _=> .cons (h _ _ a)
theorem bX.length(x:bX r l m):m.length=l.length:=x.rec rfl λ_ _=>aA (· +1)
theorem bX.append(x:bX r l m)(y:bX r h j):bX r (l++h)<|m++j:=x.rec y λa _=> .cons a
@[elab_as_elim] theorem bX.of{P:List β->Prop}{a}(x:bX r (a::l) m)(k: ∀b m,r a b->bX r l m->P (b::m)):P m:=
 bX.rec (motive:=λl' m _=>a::l=l'->P m) (λe=>nomatch e) (λp y _ e=>k _ _ ((aV3 e).1▸p)<|(aV3 e).2▸y) x rfl
@[elab_as_elim] theorem bX.bp{P:List β->Prop}{a}(x:bX r [a] m)(k: ∀b,r a b->P [b]):P m:=x.of λb m p y=>by cases y;exact k b p
@[elab_as_elim] theorem bX.none{P:List β->Prop}(x:bX r [] m)(k:P []):P m:=by cases x;exact k
end
theorem aV.aG{R S}{vs}{a}(r:aV R vs a)(l:R.fl S):aV S vs a:=bX.aG (λ_ _=>ax.aG l) r
theorem dD.aG{R S}{ds}{h}(r:dD R ds h)(l:R.fl S):dD S ds h:=bX.aG (λa b=>ax.aG l) r
theorem gX.aG{R S}(l:R.fl S){c}{h}{o}(r:gX R c h o):gX S c h o:=r.casesOn λg n a b r=> .mk g n a b λf v e=>(r f v e).aG l
theorem gX.of{R}{c}{h}{o}{G:Prop}(F:gX R c h o)(k: ∀(m:Str->Option av) (g:Nat->av),iP o m h.length->(∀x w,m x=U w-> ∃f v,bc h f=U v/\x=cN f)->
  (∀f v,bc h f=U v->f <gz.length/\I.nG c f=aa/\m (cN f)=U (g f))->(∀f v,bc h f=U v->ax R v (g f))->G):G:=
 yK.casesOn (motive:=λc' e o' _=>c'=c->e=h->o'=o->G) F (λg n a b r h1 h2 h3=>by subst h1;subst h2;subst h3;exact k _ g n a b r) rfl rfl rfl
noncomputable def VE(R:Rm)(P:av->Prop):V->Prop
 |.none=>P .none
 |.bool b=>P (.bool b)
 |.int i=> ∀t,P (.int i t)
 |.str s=> ∀t,P (.str s t)
 |.a8 l=> ∀a t,jP a=l->P (.bytes a t)
 |.aj vs=> ∀ws a n,R.is a (gS ws n)->aV R vs ws->P (.ref a)
 |.fl vs=> ∀ws a n,R.is a (cz ws n)->aV R vs ws->P (.ref a)
 |.fz a c fs=> ∀d o,R.is a (oP c d)->R.is d o->gX R c fs o->P (.ref a)
 |.fd ds=> ∀e a n,R.is a (gb (fY ds e) n)->(a==kP)=ae->(dJ ds).Nodup->dD R ds e->P (.ref a)
 |.ref a=>P (.ref a)
@[elab_as_elim] theorem ax.of{R}{P}{v}{w}(r:ax R v w):VE R P v->P w:=
 ax.casesOn r id (λ_=>id) (λ_ t k=>k t) (λ_ t k=>k t) (λa t k=>k a t rfl) (λe r k=>k _ _ _ e r) (λe r k=>k _ _ _ e r) (λe d r k=>k _ _ e d r) (λe m n r k=>k _ _ _ e m n r) λ_=>id
inductive h7 (R:Rm) (h:cu) (a:ai):O->Prop
 |list {vs:List V} {ws:List av} {n:Nat}:h.get? a=U (cz ws n)->aV R vs ws->h7 R h a (.list vs)
 |dict {ds:List (Int×V)} {tw:List (Tok×av)} {n:Nat}:h.get? a=U (gb (fY ds tw) n)->(dJ ds).Nodup->dD R ds tw->h7 R h a (.dict ds)
 |aK {c:Nat} {fs:List (Nat×V)} {d:ai} {o:Obj}:h.get? a=U (oP c d)->R d=U (.dict a)->h.get? d=U o->gX R c fs o->h7 R h a (.aK c fs)
noncomputable def Wb(R:Rm)(h:cu)(a:ai)(G:Prop):O->Prop
 |.list vs=> ∀ws n,h.get? a=U (cz ws n)->aV R vs ws->G
 |.dict ds=> ∀b n,h.get? a=U (gb (fY ds b) n)->(dJ ds).Nodup->dD R ds b->G
 |.aK c fs=> ∀d o,h.get? a=U (oP c d)->R d=U (.dict a)->h.get? d=U o->gX R c fs o->G
theorem h7.of{R}{h}{a}{G}{o}(x:h7 R h a o):Wb R h a G o->G:=
 h7.casesOn x (λe r k=>k _ _ e r) (λe n r k=>k _ _ e n r) λe d e' r k=>k _ _ e d e' r
theorem h7.at{R}{h}{a}{o}{G:Prop}(x:h7 R h a o)(e:h.get? a=Y):G:=x.casesOn (λq _=>bR <|e.symm.trans q) (λq _ _=>bR <|e.symm.trans q) λq _ _ _=>bR <|e.symm.trans q
theorem h7.keep{R S}{h h'}{a}{o}(l:R.fl S)(k: ∀p,h.get? a=U p->h'.get? a=U p)(kd: ∀d p,R d=U (.dict a)->h.get? d=U p->h'.get? d=U p/\S d=U (.dict a))(x:h7 R h a o):h7 S h' a o:=
 h7.casesOn x (λe r=> .list (k _ e)<|r.aG l) (λe n r=> .dict (k _ e) n<|r.aG l) λe d e' r=> .aK (k _ e) (kd _ _ d e').2 (kd _ _ d e').1 (r.aG l)
structure c4(R:Rm)(A:H)(h:cu):Prop where
 kp: ∀a b o,R.kp b a o->h.get? a=U o
 ob: ∀a o,A a=U o->R a=U .abs/\h7 R h a o
 no: ∀a,h.get? a=Y->R a=Y
section
variable{R S:Rm}{A B:H}{h h':cu}
theorem fV{a}(k: ∀o,h.get? a=U o->h'.get? a=U o)(e:h'.get? a=Y):h.get? a=Y:=match q:h.get? a with
 |.none=>rfl
 |U o=>bR <|e.symm.trans (k o q)
theorem c4.jx(s:c4 R A h)(a:ai)(f: ∀b,b≠a->S b=R b)(hA: ∀b,b≠a-> ∀o,B b=U o->A b=U o)(hh: ∀b o,b≠a->h.get? b=U o->h'.get? b=U o)
  (l:R.fl S) (hk: ∀b o,S.kp b a o->h'.get? a=U o) (ho: ∀o,B a=U o->S a=U .abs/\h7 S h' a o) (hd: ∀b,R a=U (.dict b)->B b=Y) (g:h'.get? a=Y->S a=Y):c4 S B h':=
 ⟨λb c o e=>if q:b=a then q▸hk c o (q▸e) else hh _ _ q<|s.kp _ c _<|(f b q).symm.trans e,
  λb o e=>if q:b=a then q▸ho o (q▸e) else
   have p:=s.ob b o (hA b q o e)
   ⟨(f b q).trans p.1,.keep l (λ_=>hh _ _ q) (λd _ dd e3=>
    have n:d≠a:=λz=>gI <|e.symm.trans (hd b<|z▸dd)
    ⟨hh _ _ n e3,(f d n).trans dd⟩) p.2⟩,
  λb e=>if q:b=a then q▸g (q▸e) else(f b q).trans<|s.no b<|fV (λ_=>hh _ _ q) e⟩
theorem c4.lt(s:c4 R A h)(e:R a≠Y):a <h.objs.size:=match q:h.get? a with
 |.none=>absurd (s.no a q) e
 |U _=>g_ q
theorem c4.dm(s:c4 R A h)(a:ai)(e:h.objs.size<=a):R a=Y:=Classical.byContradiction λq=>Rp.mpr e (s.lt q)
theorem c4.pr(s:c4 R A h)(l:H.le B A):c4 R B h:=⟨s.kp,λa o e=>s.ob a o<|l a o e,s.no⟩
theorem c4.k9(s:c4 R A h)(k: ∀a o,h.get? a=U o->h'.get? a=U o):c4 R A h':=
 ⟨λa b o e=>k _ _<|s.kp a b o e,λa o e=>⟨(s.ob a o e).1,.keep (λ_ _ e=>e) (λp=>k _ p) (λd p dd e=>⟨k _ _ e,dd⟩) (s.ob a o e).2⟩,λa e=>s.no a<|fV (k a) e⟩
theorem c4.kB(s:c4 R A h)(e:R a≠U .abs):A a=Y:=match q:A a with
 |.none=>rfl
 |U o=>absurd (s.ob a o q).1 e
theorem H.Ej(A:H)(a:ai):A.lu a a=Y:=aM rfl
theorem H.Fp(A:H)(a:ai):H.le (A.lu a) A:=λb o e=>by
 unfold H.lu at e
 split at e
 ·cases e
 ·exact e
theorem H.QC(A:H){a b}{o p}(n:b≠a)(e:A.cr a o b=U p):A b=U p:=(aE n).symm.trans e
theorem c4.keep(s:c4 R A h)(o:Obj)(hf:o.isFreed=ae)(b:Kd):c4 (R.bx h.objs.size<|.kp b o) A<|h.push o:=
 have d:=s.dm _ (dP _)
 s.jx h.objs.size (λ_=>Rm.cV) (λ_ _ _=>id) (λ_ _ _=>eB _) (Rm.jh d).fl λ_ _ e=>by cases(Rm.cO ..).symm.trans e;exact hg _ hf
  (λ_ e=>gI <|e.symm.trans<|s.kB λq=>bH <|d.symm.trans q) (λ_ e=>bH <|d.symm.trans e) λe=>gI <|(hg _ hf).symm.trans e
theorem c4.abs(s:c4 R A h)(a:ai)(c: ∀b,b≠a->S b=R b)(hh: ∀b o,b≠a->h.get? b=U o->h'.get? b=U o)(e:S a=U .abs)(n: ∀o,¬R.is a o)(nd: ∀b,R a≠U (.dict b)){o}(r:h7 S h' a o):c4 S (A.cr a o) h':=
 s.jx a c (λ_ n _=>H.QC A n) hh (λb o q=>(c b λz=>n o<|z▸q).trans q) (λ_ _ q=>bH <|e.symm.trans q) (λp q=>⟨e,by exact iK ((aM rfl).symm.trans q) r⟩) (λb q=>absurd q<|nd b) λz=>r.at z
theorem c4.mG(s:c4 R A h)(a:ai){b}{o}(e:h'.get? a=U o)(hh: ∀b o,b≠a->h.get? b=U o->h'.get? b=U o)(q:A a=Y)(n: ∀o,¬R.is a o)(nd: ∀b,R a=U (.dict b)->A b=Y):c4 (R.bx a<|.kp b o) A h':=
 s.jx a (λ_=>Rm.cV) (λ_ _ _=>id) hh (λc p z=>(Rm.cV λy=>n p<|(aA (λx=>R.is x p) y).mp z).trans z) (λ_ _ z=>by cases(Rm.cO ..).symm.trans z;exact e) (λ_ z=>bR <|q.symm.trans z) nd λz=>gI <|e.symm.trans z
end
noncomputable def Rm.of(B:cu):Rm:=λa=>(B.get? a).map (.kp .fr)
theorem Rm.zK{B}{a}{o}(e:(Rm.of B).is a o):B.get? a=U o:=by
 unfold Rm.is Rm.kp Rm.of at e
 cases q:B.get? a with
 |none=>rw[q] at e;cases e
 |some p=>rw[q] at e;cases e;rfl
structure Pk(B:cu) where
 K:n9
 jc:K.In B
 ga: ∀c,c <kU.length->h8 K (.ref<|dL c) "__getattribute__"=U (U<|.builtin "object.__getattribute__")
 gt: ∀c,c <kU.length->h8 K (.ref<|dL c) "__getattr__"=U Y
 hd: ∀c,c <kU.length->hasDictIn K (dL c)=aa
 po: ∀c,c <kU.length->plainOver K (dL c)=aa
 Ga: ∀c f,I.nG c f=aa->c <kU.length/\f <gz.length
 OD: ∀c f,I.nG c f=aa-> ∃attr,h8 K (.ref<|dL c) (cN f)=U attr/\noGet K attr=aa
 tk: ∀c f,I.nG c f=aa->GU K (dL c) (cN f)=U Y
 Ml: ∀c f v,I.vH c f=U v->c <kU.length/\f <gz.length/\ ∃a,h8 K (.ref<|dL c) (cN f)=U (U a)/\Rq K a "__get__"=U Y/\ax (Rm.of B) v a/\Rr.contains (cN f)=ae
 oD: ∀c m f,I.nq c m=U f->c <kU.length/\h8 K (.ref<|dL c) (kH m)=U (U<|.ref<|bQ f)/\A1 K (.ref<|bQ f)=U (.type "function")
 sy: ∀c f,I.kT c=U f->c <kU.length/\h8 K (.ref<|dL c) "__init__"=U (U<|.ref<|bQ f)/\A1 K (.ref<|bQ f)=U (.type "function")/\makesIn K (dL c)=aa
 set: ∀c,c <kU.length->h8 K (.ref<|dL c) "__setattr__"=U (U<|.builtin "object.__setattr__")
 Qc: ∀m f,f <gz.length->cN f=kH m->f=I.mf m
 names: ∀f g,f <gz.length->g <gz.length->cN f=cN g->f=g
noncomputable def ty:List<|Str×av:=[("len",.builtin "len"),("abs",.builtin "abs"),("max",.builtin "max"),("min",.builtin "min"),("sum",.builtin "sum"),("ord",.builtin "ord"),
 ("tuple",.type "tuple"),("list",.type "list"),("dict",.type "dict"),("bytes",.type "bytes"),("sorted",.builtin "sorted"),("range",.type "range"),("enumerate",.type "enumerate"),
 ("isinstance",.builtin "isinstance"),("int",.type "int"),("bool",.type "bool"),("str",.type "str")]
structure QZ(B:cu) where
 mg:Str->Option av
 mb:Str->Option av
 ng:B.Ns uN mg
 nb:B.Ns A2 mb
 gF: ∀k v,I.gF k=U v-> ∃w,mg (rK k)=U w/\ax (Rm.of B) v w
 bi: ∀n v,(n,v)∈ty->mg n=Y/\mb n=U v
noncomputable def rG(n:Nat):List Nat->Bool
 |[]=>ae
 |k::r=>cond (bF k n) aa (rG n r)
structure qQ where
 prog:pv
 w:kN
 B:cu
 p:Pk B
 g:QZ B
 E0: ∀f,f <sP.length->q4 p.K (.ref<|bQ f)=aa
 cls: ∀c f,I.kT c=U f->q4 p.K (.ref<|dL c)=aa
 oD: ∀c m f,I.nq c m=U f->q4 p.K (.ref<|bQ f)=aa
 QE:Obj
 nm:B.get? kP=U QE
 G:List Nat
 hG: ∀f,rG f G=aa->g.mg (rN f)=U (.ref<|bQ f)
 hC: ∀k,(I.kT k).isSome=aa->g.mg (tt k)=U (.ref<|dL k)
structure mU(env:Env)(ns:List Str):Prop where
 kind:env.scope.kind= .function
 gF:env.globals=uN
 blt:env.builtins=A2
 nd:ns.Nodup
 apart: ∀n n' c,env.cells.lookup n=U c->env.cells.lookup n'=U c->n=n'
structure Cx where
 T:qQ
 env:Env
 ns:List Str
 gens:Array Q8
 os:mn
 st:mU env ns
 ρ:L
abbrev Cx.at(x:Cx)(ρ:L):Cx:=⟨x.T,x.env,x.ns,x.gens,x.os,x.st,ρ⟩
abbrev M(x:Cx):Model:=fJ x.T.prog x.T.w
abbrev N0:av->bB->Prop:=λ_ _=>False
def Cx.own(x:Cx)(a:ai):Prop:=a=x.env.locals\/ ∃n,x.env.kindOf n=U .cell/\x.env.cells.lookup n=U a
inductive tj (x:Cx) (R:Rm) (i:Nat) (n:Str):Prop
 |dQ:x.env.kindOf n=U .local->tj x R i n
 |cell (c:ai) (o:Obj) (cv:Option av):x.env.kindOf n=U .cell\/x.env.kindOf n=U .free->x.env.cells.lookup n=U c->R.kp .own c o->o.data= .cell cv->
   (∀v,ah x.ρ i=U (U v)-> ∃w,cv=U w/\ax R v w)->tj x R i n
inductive v1 (x:Cx) (R:Rm):Prop
 |mk (o:Obj) (m:Str->Option av) (k:Nat):R.kp .own x.env.locals o->iP o m k->(∀i n v,ah x.ns i=U n->x.env.kindOf n=U .local->ah x.ρ i=U (U v)-> ∃w,m n=U w/\ax R v w)->v1 x R
structure Fr(x:Cx)(R:Rm):Prop where
 len:x.ρ.length=x.ns.length
 dQ:v1 x R
 var: ∀i n,ah x.ns i=U n->tj x R i n
theorem Fr.ua{x}{R S}(f:Fr x R)(l:R.fl S)(k: ∀a o,R.kp .own a o->S.kp .own a o):Fr x S:=
 ⟨f.len,f.dQ.casesOn λo m n e ns h=>⟨o,m,n,k _ _ e,ns,λi n v a b c=>(h i n v a b c).imp λ_ q=>⟨q.1,q.2.aG l⟩⟩,
  λi n e=>(f.var i n e).casesOn .dQ λc o cv h1 h2 h3 h4 g=> .cell c o cv h1 h2 (k _ _ h3) h4 λv e=>(g v e).imp λ_ q=>⟨q.1,q.2.aG l⟩⟩
theorem Fr.keep{x}{R S}(f:Fr x R)(l:R.le S):Fr x S:=f.ua l.fl λa o=>l a _ o
structure St(x:Cx) where
 R:Rm
 A:H
 s:bB
 bh:c4 R A s.heap
 bY: ∀a o,x.T.B.get? a=U o->R.is a o
 gens:s.gens=x.gens
 os:s.os=x.os
 fr:Fr x R
abbrev St.le{x y}(σ:St x)(τ:St y):Prop:=σ.R.le τ.R
def St.lo{x y}(σ:St x)(τ:St y):Prop:= ∀a b o,σ.R.kp b a o->(b= .own-> ¬x.own a)->τ.R.kp b a o
inductive PV {x:Cx} {α β:Type} (hM:Rm->β->α->Prop) (σ:St x) (K:β->H->Prop):α->bB->Prop
 |mk (τ:St x) (v:β) (w:α):σ.le τ->hM τ.R v w->K v τ.A->PV hM σ K w τ.s
def Ev{α β:Type}(a:Rm->β->α->Prop)(x:Cx)(Ar:cW)(m:Sem α)(f:H->(β->H->Prop)->Prop):Prop:=
 ∀(σ:St x) (K),f σ.A K->aw (M x) Ar m (PV a σ K) N0 σ.s
abbrev a3:= @Ev av V ax
abbrev ap1(n:Nat)(R:Rm)(vs:List V)(ws:List av):Prop:=aV R vs ws/\ws.length=n
abbrev fW(n:Nat):= @Ev (List av) (List V) (ap1 n)
abbrev rB(_:Rm)(b c:Bool):Prop:=b=c
def dU(x:Cx)(Ar:cW)(m:Sem Bool)(f:H->(H->Prop)->(H->Prop)->Prop):Prop:=Ev rB x Ar m λh K=>f h (K aa) (K ae)
section
variable{x:Cx}{σ:St x}{Ar:cW}{K:V->H->Prop}
def St.to(σ:St x)(R:Rm)(A:H)(h:cu)(t:Nat)(m:c4 R A h)(l:σ.R.le R):St x:=⟨R,A,{σ.s with heap:=h,toks:=t},m,λa o e=>l _ _ _<|σ.bY a o e,σ.gens,σ.os,σ.fr.keep l⟩
def St.kF(σ:St x)(t:Nat):St x:=σ.to σ.R σ.A σ.s.heap t σ.bh (Rm.le_refl _)
def St.pr(σ:St x){A}(l:H.le A σ.A):St x:=σ.to σ.R A σ.s.heap σ.s.toks (σ.bh.pr l) (Rm.le_refl _)
theorem St.new(σ:St x):σ.R σ.s.heap.objs.size=Y:=σ.bh.dm _ (dP _)
theorem St.Aa(σ:St x):σ.A σ.s.heap.objs.size=Y:=σ.bh.kB λq=>bH <|σ.new.symm.trans q
theorem St.dS(σ:St x)(r:Rl):σ.R.le<|σ.R.bx σ.s.heap.objs.size r:=Rm.jh σ.new
def St.keep(σ:St x)(o:Obj)(hf:o.isFreed=ae):St x:=σ.to (σ.R.bx σ.s.heap.objs.size<|.kp .fr o) σ.A (σ.s.heap.push o) σ.s.toks (σ.bh.keep o hf .fr) (σ.dS _)
theorem St.uc(σ:St x)(o:Obj)(hf:o.isFreed=ae):(σ.keep o hf).R.is σ.s.heap.objs.size o:=Rm.cO ..
def St.abs(σ:St x)(o:Obj)(a:O)(r:h7 (σ.R.bx σ.s.heap.objs.size .abs) (σ.s.heap.push o) σ.s.heap.objs.size a):St x:=
 σ.to (σ.R.bx σ.s.heap.objs.size .abs) (σ.A.cr σ.s.heap.objs.size a) (σ.s.heap.push o) σ.s.toks (σ.bh.abs _ (λ_=>Rm.cV) (λ_ _ _=>eB _) (Rm.cO ..) (λ_ e=>bH <|σ.new.symm.trans e) (λ_ e=>bH <|σ.new.symm.trans e) r) (σ.dS _)
theorem St.at{a}{b}{o}(σ:St x)(e:σ.R.kp b a o):σ.s.heap.get? a=U o:=σ.bh.kp _ b _ e
theorem St.jc(σ:St x){a}{o}(e:x.T.B.get? a=U o):σ.s.heap.get? a=U o:=σ.at (σ.bY _ _ e)
theorem St.Lb(σ:St x){v}{w}(r:ax (Rm.of x.T.B) v w):ax σ.R v w:=r.aG λa o e=>σ.bY a o (Rm.zK e)
theorem St.mF(σ:St x):x.T.p.K.In σ.s.heap:=λa o e=>σ.jc (x.T.p.jc a o e)
theorem St.Aq(σ:St x){a}{m}(e:x.T.B.Ns a m):σ.s.heap.Ns a m:=e.imp λ_ e=>e.imp λ_ e=>e.imp λ_ e=>⟨σ.jc e.1,e.2⟩
theorem St.ns(σ:St x){a}{o}{b}{m}{k}(e:σ.R.kp b a o)(n:iP o m k):σ.s.heap.Ns a m:=n.casesOn λes ep h1 h2 h3 _=>⟨o,es,ep,σ.at e,h1,h2,h3⟩
theorem St.sd(σ:St x){a}{o}(e:σ.A a=U o):(a==kP)=ae:=
 beq_eq_false_iff_ne.mpr λz=>bH <|(σ.bh.ob a o e).1.symm.trans ((aA σ.R z).trans<|σ.bY _ _ x.T.nm)
variable{α β γ δ:Type}{hM:Rm->β->α->Prop}{m:Sem α}{f:H->(β->H->Prop)->Prop}{J:β->H->Prop}
theorem PV.dc{v}{w}(r:hM σ.R v w)(k:J v σ.A):PV hM σ J w σ.s:=⟨σ,v,w,Rm.le_refl _,r,k⟩
theorem PV.tk{v}{w}{t}(r:hM σ.R v w)(k:J v σ.A):PV hM σ J w {σ.s with toks:=t}:=⟨σ.kF t,v,w,Rm.le_refl _,r,k⟩
theorem PV.aG{τ:St x}{w}{s}(l:σ.le τ)(p:PV hM τ J w s):PV hM σ J w s:=p.casesOn λυ v w l' r k=>⟨υ,v,w,λ_ _ _ e=>l' _ _ _<|l _ _ _ e,r,k⟩
theorem Ev.bind{Q:α->δ->bB->Prop}{g:α->Sem δ}(e:Ev hM x Ar m f)(h:f σ.A J)
  (k: ∀(τ:St x) v w,σ.le τ->hM τ.R v w->J v τ.A->aw (M x) Ar (g w) (Q w) N0 τ.s):aw (M x) Ar m (λw s=>aw (M x) Ar (g w) (Q w) N0 s) N0 σ.s:=
 bz (e σ J h) (λ_ _ p=>p.casesOn λτ v w l r j=>k τ v w l r j) λ_ _=>id
theorem Ev.map{Q:α->bB->Prop}(e:Ev hM x Ar m f)(h:f σ.A J)(k: ∀(τ:St x) v w,σ.le τ->hM τ.R v w->J v τ.A->Q w τ.s):aw (M x) Ar m Q N0 σ.s:=
 bz (e σ J h) (λ_ _ p=>p.casesOn λτ v w l r j=>k τ v w l r j) λ_ _=>id
theorem up{τ:St x}(l:σ.le τ)(h:aw (M x) Ar m (PV hM τ J) N0 τ.s):aw (M x) Ar m (PV hM σ J) N0 τ.s:=bz h (λ_ _ p=>p.aG l) λ_ _=>id
theorem ai8{k}{pos}:a3 x Ar (aQ (.Constant .none k pos) x.env) λA K=>K .none A:=λσ K h=>wpAny_Constant_none (.dc .none h)
theorem ay4{b}{k}{pos}:a3 x Ar (aQ (.Constant (.bool b) k pos) x.env) λA K=>K (.bool b) A:=λσ K h=>wpAny_Constant_bool (.dc (.bool b) h)
theorem ay7{b}{k}{pos}:a3 x Ar (aQ (.Constant (.str b) k pos) x.env) λA K=>K (.str b) A:=λσ K h=>wpAny_Constant_str (.tk (.str b _) h)
theorem O9{b}{k}{pos}:a3 x Ar (aQ (.Constant (.int b) k pos) x.env) λA K=>K (.int b) A:=λσ K h=>Rs (.tk (.int b _) h)
theorem rp{ρ}{i}{P}{G:Prop}(h:gj ρ i P)(k: ∀v,ah ρ i=U (U v)->P v->G):G:=by
 unfold gj at h
 generalize q:ah ρ i=o at h k
 cases o with
 |none=>exact h.elim
 |some u=>cases u with
  |none=>exact h.elim
  |some v=>exact k v rfl h
theorem St.Ed(σ:St x){i}{n}{pos}{v}{G:Prop}(hn:ah x.ns i=U n)(hd:(n==("__debug__":Str))=ae)(hc:(n==("__classdict__":Str))=ae)(hv:ah x.ρ i=U (U v))
  (k: ∀w,ax σ.R v w->(∀Q:av->bB->Prop,Q w σ.s->aw (M x) Ar (aQ (.Name n pos) x.env) Q N0 σ.s)->G):G:=
 (σ.fr.var i n hn).casesOn
  (λhl=>σ.fr.dQ.casesOn λo m c e ns h=>(h i n v hn hl hv).elim λw q=>k w q.2 λQ z=>GV (GW x.st.kind hl (σ.ns e ns) q.1 z) hd)
  λc o cv hk h2 h3 h4 b=>(b v hv).elim λw q=>k w q.2 λQ z=>
   have a:=⟨o,σ.at h3,h4.trans<|aA _ q.1⟩
   GV (hk.elim (λhk=>wpAny_loadName_cell x.st.kind hk h2 a z) λhk=>wpAny_loadName_free x.st.kind hk h2 a z hc) hd
theorem Yi{i}{n}{pos}(hn:ah x.ns i=U n)(hd:(n==("__debug__":Str))=ae)(hc:(n==("__classdict__":Str))=ae):a3 x Ar (aQ (.Name n pos) x.env) λA K=>gj x.ρ i λv=>K v A:=λσ K h=>
 rp h λv e h=>σ.Ed hn hd hc e λw r k=>k _ (.dc r h)
theorem wA{n}{pos}{w}{Q}(σ:St x)(hk:x.env.kindOf n=U .globalImplicit)(hd:(n==("__debug__":Str))=ae)(hw:x.T.g.mg n=U w)(h:Q w σ.s):aw (M x) Ar (aQ (.Name n pos) x.env) Q N0 σ.s:=
 Rt x.st.kind hk (aV4 (σ.Aq<|x.st.gF▸x.T.g.ng) hw h) hd
theorem wI{n}{pos}{w}{Q}(σ:St x)(hk:x.env.kindOf n=U .globalImplicit)(hd:(n==("__debug__":Str))=ae)(hw:(n,w)∈ty)(h:Q w σ.s):aw (M x) Ar (aQ (.Name n pos) x.env) Q N0 σ.s:=
 Rt x.st.kind hk (loadGlobal_builtin (σ.Aq<|x.st.gF▸x.T.g.ng) (x.T.g.bi _ _ hw).1 (σ.Aq<|x.st.blt▸x.T.g.nb) (x.T.g.bi _ _ hw).2 h) hd
theorem Zo{k}{pos}(hk:x.env.kindOf (rK k)=U .globalImplicit)(hd:((rK k)==("__debug__":Str))=ae):a3 x Ar (aQ (.Name (rK k) pos) x.env) (λh Q=>match I.gF k with|U v=>Q v h|.none=>False):=λσ K h=>by
 cases e:I.gF k with
 |none=>rw[e] at h;exact h.elim
 |some v=>rw[e] at h;exact(x.T.g.gF k v e).elim λw q=>wA σ hk hd q.1 (.dc (σ.Lb q.2) h)
theorem fW.nil:fW 0 x Ar (iS []) (λh K=>K [] h):=λσ K h=>Ru (.dc ⟨.nil,rfl⟩ h)
theorem fW.cons{n}{m}{f}{r}{g}(e:a3 x Ar m f)(er:fW n x Ar (iS r) g):
  fW (n+1) x Ar (iS<|(ae,m)::r) (λh K=>f h λv h=>g h λvs h=>K (v::vs) h):=λσ K h=>
 A3 (e.bind h λτ v w l r k=>er.map k λυ vs ws l' q k=>⟨υ,v::vs,w::ws,λ_ _ _ e=>l' _ _ _<|l _ _ _ e,⟨.cons (r.aG l'.fl) q.1,aA (· +1) q.2⟩,k⟩)
theorem jB{n}(h:a_ n):n<=jH:=A4▸ak h dd
theorem aq1{a}{k n}{pos}{g}(e:fW n x Ar (iS<|eV pos<|eW a x.env) g)(hn:a_ n):a3 x Ar (aQ (.Tuple a k pos) x.env) (λh Q=>g h λvs h=>Q (.aj vs) h):=λσ K h=>
 aV5 (e.map h λτ vs ws l r k=>⟨r.2▸jB hn,⟨τ.keep (gS ws 0) rfl,V.aj vs,_,λ_ _ _ e=>τ.dS _ _ _ _<|l _ _ _ e,.aj (τ.uc ..)<|r.1.aG (τ.dS _).fl,k⟩⟩)
theorem St.list{τ:St x}{fr}{vs}{a}(l:σ.le τ)(r:aV τ.R vs a)(k:j5 fr vs τ.A K):PV ax σ K (.ref τ.s.heap.objs.size) {τ.s with heap:=τ.s.heap.push<|cz a 0}:=match fr,k with
 |aa,k=>⟨τ.keep (cz a 0) rfl,V.fl vs,_,λ_ _ _ e=>τ.dS _ _ _ _<|l _ _ _ e,.fl (τ.uc ..)<|r.aG (τ.dS _).fl,k⟩
 |ae,k=>⟨τ.abs (cz a 0) (.list vs)<|.list (hg _ rfl)<|r.aG (τ.dS _).fl,.ref _,_,λ_ _ _ e=>τ.dS _ _ _ _<|l _ _ _ e,.ref _,k _ τ.Aa⟩
theorem YM{a}{n}{pos}{g}(e:fW n x Ar (iS<|eV pos<|eW a x.env) g)(hn:a_ n)(fr:Bool):a3 x Ar (aQ (.List a pos) x.env) (λh Q=>g h λvs h=>j5 fr vs h Q):=λσ K h=>
 wpAny_List_spliced (e.map h λτ vs ws l r k=>⟨r.2▸jB hn,St.list l r.1 k⟩)
end
noncomputable def nw:jM->Operator
 |.add=> .Add
 |.ro=> .Add
 |.sub=> .Sub
 |.mul=> .Mult
 |.nK=> .FloorDiv
 |.mN=> .Mod
 |.o0=> .Pow
 |.wt=> .RShift
theorem HM{a b:Int}{n:Nat}(h: -b<=a)(q:a<=b)(e:b=n):a.natAbs<=n:=bT.mp (e▸(Int.le_total 0 a).elim (λp=>(aV6 p).symm▸q) λp=>(aV7 p).symm▸(Int.neg_neg b▸GF h))
theorem KE(h:sR a):a.natAbs <2^64:=ms (HM h.1 h.2 rfl) dd
theorem W4{a:Int}(h:0 <a)(q:a <1073741824):a.natAbs <1073741824:=ms (HM (az dd<|eT h) (iR q) rfl) dd
section
variable{σ:St x}{K:V->H->Prop}
@[elab_as_elim] theorem ax.kK{P:av->av->Prop}(ra:ax R (.int i) w)(rb:ax R (.int j) u)(k: ∀t a,P (.int i t)<|.int j a):P w u:=ra.of λt=>rb.of λa=>k t a
theorem St.g6(σ:St x){G:Prop}(e:σ.A a=U (.list l))(k: ∀ws n,σ.s.heap.get? a=U (cz ws n)->aV σ.R l ws->G):G:=(σ.bh.ob a _ e).2.of k
theorem St.jb(σ:St x){G:Prop}(e:σ.A a=U (.dict l))(k: ∀b n,σ.s.heap.get? a=U (gb (fY l b) n)->(dJ l).Nodup->dD σ.R l b->G):G:=(σ.bh.ob a _ e).2.of k
theorem aV.line(r:aV R l a)(h:a_ l.length):a.length<=jH:=r.length▸jB h
theorem aV.Eg(r:aV R a j)(q:aV R b us)(h:a_ (a++b).length):j.toArray.size+us.toArray.size<=jH:=by
 rw[j8,j8,<-aC];exact(bX.append r q).length▸jB h
theorem Ek{p q n m:Nat}(e1:σ.s.heap.get? p=U (cz h n))(e2:σ.s.heap.get? q=U (cz us m))(r1:aV σ.R a h)(r2:aV σ.R b us)(hl:a_ (a++b).length)(k:j5 fr (a++b) σ.A K):
  aw (M x) Ar (Rv .Add (.ref p)<|.ref q) (PV ax σ K) N0 σ.s:=
 PySem.P.add_list e1 e2 (by rw[aV8];exact St.list (Rm.le_refl _) (r1.append r2) k) (r1.Eg r2 hl)
theorem aQ6{p q n m:Nat}(c:σ.R.is p<|gS h n)(i2:σ.R.is q<|gS us m)(r1:aV σ.R a h)(r2:aV σ.R b us)(hl:a_ (a++b).length)(k:K (.aj<|a++b) σ.A):
  aw (M x) Ar (Rv .Add (.ref p)<|.ref q) (PV ax σ K) N0 σ.s:=by
 refine xq (p:=h=[]) (λz=> ?_) λz=>xq (p:=us=[]) (λy=> ?_) λy=> ?_
 ·subst z
  refine Rw ⟨_,σ.at c,rfl⟩ ⟨_,σ.at i2,rfl⟩ Rx Ry Rz RA (RB _ _) (tuple_addW0 p q _ _ n m Y Y #[] #[] rfl) ⟨σ.at c,σ.at i2,.dc ?_ k⟩
  cases r1;exact .aj i2 r2
 ·subst y
  refine Rw ⟨_,σ.at c,rfl⟩ ⟨_,σ.at i2,rfl⟩ Rx Ry Rz RA (RB _ _) (tuple_addW1 p q _ _ n m Y Y #[] #[] (by simpa using z) rfl) ⟨σ.at c,σ.at i2,.dc ?_ k⟩
  cases r2;rw[c9];exact .aj c r1
 ·refine Rw ⟨_,σ.at c,rfl⟩ ⟨_,σ.at i2,rfl⟩ Rx Ry Rz RA (RB _ _) (tuple_addW2 p q _ _ n m Y Y #[] #[] (by simpa using z) (by simpa using y) (r1.Eg r2 hl)) ⟨σ.at c,σ.at i2,?_⟩
  rw[aV8]
  exact⟨σ.keep (gS (h++us) 0) rfl,_,_,σ.dS _,.aj (σ.uc ..)<|aV.aG (r1.append r2) (σ.dS _).fl,k⟩
theorem W6(h:gY σ.A K j o l)(ra:ax σ.R o w)(rb:ax σ.R l u):aw (M x) Ar (Rv (nw j) w u) (PV ax σ K) N0 σ.s:=
 gY.casesOn h
  (λk ra rb=>ra.kK rb λ_ _=>add_int<|.tk (.int _ _) k)
  (λk ra rb=>ra.kK rb λ_ _=>sub_int<|.tk (.int _ _) k)
  (λh k ra rb=>ra.kK rb λ_ _=>mul_int (.tk (.int _ _) k)<|.of_left<|intBits_le_iff.mpr<|KE h)
  (λh h' k ra rb=>ra.kK rb λ_ _=>floordiv_int (pA h) (.tk (.int _ _)<|aV9 _ (eT h)▸k)<|.inl<|aW0<|W4 h h')
  (λh k ra rb=>ra.kK rb λ_ _=>mod_int' (pA h)<|.tk (.int _ _)<|Int.fmod_eq_emod_of_nonneg _ (eT h)▸k)
  (λh h0 h1 k ra rb=>ra.kK rb λ_ _=>pow_int_small h0 (az h1 dd) (KE h)<|.tk (.int _ _) k)
  (λh k ra rb=>ra.kK rb λ_ _=>rshift_int h<|.tk (.int _ _)<|aV9 _ (eT<|Int.pow_pos (show(0) <2 by decide))▸k)
  (λhl k ra rb=>ra.of λ_ _ _ a r1=>rb.of λ_ _ _ i2 r2=>aQ6 a i2 r1 r2 hl k)
  (λhl k ra rb=>ra.of λ_ _ _ a r1=>rb.of λ_ _ _ i2 r2=>Ek (fr:=aa) (σ.at a) (σ.at i2) r1 r2 hl k)
  (λe hl k ra rb=>σ.g6 e λ_ _ e1 r1=>ra.of<|rb.of λ_ _ _ i2 r2=>Ek (fr:=aa) e1 (σ.at i2) r1 r2 hl k)
  (λhl k ra rb=>ra.of λ_ _ _ a r1=>rb.of λ_ _ _ i2 r2=>Ek (fr:=ae) (σ.at a) (σ.at i2) r1 r2 hl k) ra rb
theorem Wl(e:a3 x Ar (aQ a x.env) f)(er:a3 x Ar (aQ b x.env) g):
  a3 x Ar (aQ (.BinOp a (nw j) b pos) x.env) (λh Q=>f h λi h=>g h λc h=>gY h Q j i c):=λσ K h=>
 wpAny_BinOp (e.bind h λτ v w l r k=>er.bind k λυ v w l' r' k=>up (λ_ _ _ e=>l' _ _ _<|l _ _ _ e)<|W6 k (r.aG l'.fl) r')
end
theorem FM{R}{v}{w}(r:ax R v w):handedIn w=aa:=r.casesOn rfl (λ_=>rfl) (λ_ _=>rfl) (λ_ _=>rfl) (λ_ _=>rfl) (λ_ _=>rfl) (λ_ _=>rfl) (λ_ _ _=>rfl) (λ_ _ _ _=>rfl) λ_=>rfl
theorem iP.zP{o}{m}{k}(h:iP o m k)(n:Str):RC n o=U (m n):=by
 cases h with
 |mk es ep hd hk hf hz=>
  have q:=hf n
  unfold lH findBy at q
  rw[<-Array.find?_toList] at q
  unfold RC
  rw[hd,<-q]
  show(match es.toList.find? (·.key.isStr n) with|U e=>U (U e.val)|Y=>if es.toList.any (·.refKey) then Y else U Y)=U ((es.toList.find? (·.key.isStr n)).map (·.val))
  cases es.toList.find? (·.key.isStr n) with
  |some e=>rfl
  |none=>
   refine aE λz=> ?_
   obtain⟨d,h1,h2⟩:=List.any_eq_true.mp z
   obtain⟨a,t,h3⟩:=hk d (A5.mp h1)
   unfold aW1 at h2
   rw[h3] at h2
   cases h2
section
theorem Kj{β:Type}{k n:Nat}{a b:β}:cond (bF k n) a b=if k=n then a else b:=by
 rw[BT.beq_eq];exact xq (λh=>by rw[decide_eq_true h,aM h];rfl) λh=>by rw[decide_eq_false h,aE h];rfl
theorem o7(k:Nat)(v:α)(r:List<|Nat×α)(n:Nat):bc ((k,v)::r) n=if k=n then U v else bc r n:=Kj
theorem EI(k:Nat)(w:α)(r:List<|Nat×α)(n:Nat)(v:α):iB ((k,w)::r) n v=if k=n then(k,v)::r else(k,w)::iB r n v:=Kj
theorem xY(l:List<|Nat×α)(n:Nat)(v:α):bc (iB l n v) n=U v:=l.rec (o7 n v [] n▸aM rfl) λe r ih=>by
 rw[EI]
 refine xq (p:=e.1=n) (λh=> ?_) λh=> ?_
 ·rw[aM h,o7,aM h]
 ·rw[aE h,o7,aE h];exact ih
theorem vQ(l:List<|Nat×α){n i}(v:α)(q:n≠i):bc (iB l n v) i=bc l i:=l.rec ((o7 n v [] i).trans<|aE q) λe r ih=>by
 rw[EI,o7]
 refine xq (p:=e.1=n) (λh=> ?_) λh=> ?_
 ·rw[aM h,o7,aE<|h▸q,aE<|h▸q]
 ·rw[aE h,o7,ih]
theorem KM(l:List<|Nat×α)(n:Nat)(v:α):(iB l n v).length=if(bc l n).isSome then l.length else l.length+1:=l.rec rfl λe r ih=>by
 rw[EI,o7]
 refine xq (p:=e.1=n) (λh=> ?_) λh=> ?_
 ·rw[aM h,aM h];rfl
 ·rw[aE h,aE h,eU,ih]
  cases(bc r n).isSome <;>rfl
theorem yo: ∀{l:List α} {i:Nat} {a:α},ah l i=U a->i <l.length
 |_::_,0,_,_=>aS2 _
 |_::r,i+1,a,e=>GH (yo e)
theorem oB: ∀{l:List α} {i:Nat} {a:α},ah l i=U a->a∈l
 |_::_,0,_,e=>bL e▸ .head _
 |_::r,i+1,a,e=> .tail _ (oB e)
theorem B5: ∀{l:List α},l.Nodup-> ∀{i j:Nat} {a:α},ah l i=U a->ah l j=U a->i=j
 |_::_,_,0,0,_,_,_=>rfl
 |x::r,d,0,j+1,a,e,e'=>absurd (oB (l:=r) e') (bL e▸(lI.mp d).1)
 |x::r,d,i+1,0,a,e,e'=>absurd (oB (l:=r) e) (bL e'▸(lI.mp d).1)
 |x::r,d,i+1,j+1,a,e,e'=>aA (· +1) (B5 (lI.mp d).2 e e')
end
theorem Bz(v:V): ∀(ρ:L) (i:Nat),(cY ρ i v).length=ρ.length
 |[],_=>rfl
 |_::_,0=>rfl
 |_::r,i+1=>aA (· +1) (Bz v r i)
theorem Aj(v:V): ∀{ρ:L} {i:Nat},i <ρ.length->ah (cY ρ i v) i=U (U v)
 |_::_,0,_=>rfl
 |_::r,i+1,h=>Aj v (ρ:=r) (xk h)
theorem w8(v:V): ∀{ρ:L} {i j:Nat},i≠j->ah (cY ρ i v) j=ah ρ j
 |[],_,_,_=>rfl
 |_::_,0,0,h=>absurd rfl h
 |_::_,0,_+1,_=>rfl
 |_::_,_+1,0,_=>rfl
 |_::r,i+1,j+1,h=>w8 v (ρ:=r) λq=>h (aA (· +1) q)
noncomputable def CW(m:Str->Option av)(n:Str)(v:av):Str->Option av:=λx=>if x=n then U v else m x
theorem Qv{M}{Ar}{E}{s}{d}{o}{m}{k}{name}{v}{Q}(e:s.heap.get? d=U o)(n:iP o m k)
  (h: ∀o' h',h'.get? d=U o'->iP o' (CW m name v) (if(m name).isSome then k else k+1)->sX d s.heap h'->Q () {s with heap:=h',toks:=s.toks+1}):
  aw M Ar (nsSet d name v) Q E s:=by
 obtain⟨es,ep,hd,hk,hm,hz⟩:=n
 unfold nsSet
 refine aF (aF<|wpAny_askSetting<|wpAny_pure<|wpAny_bind<|wpAny_mkText<|wpAny_bind<|wpAny_loadPart e ?_)
 rw[hd]
 dsimp only
 have hany:es.any (·.refKey)=ae:=by
  rw[Array.any_eq_false'];intro e he;obtain⟨n,t,h⟩:=hk e he;simp[aW1,h]
 rw[aRefKeyMayBeTheName_eq]
 unfold aRefKeyMayBeTheNameByArray
 rw[hany,Bool.and_false,aE<|by simp]
 refine wpAny_updatePart e ?_
 obtain⟨c,dd,b,a⟩:=o
 subst hd
 cases hi:es.findIdx? (·.key.isStr name) with
 |some i=>
  refine h _ _ (uX _ e<|by simp only[GX,GY,hi];rfl) ⟨_,ep,by simp only[GX,GY,hi];rfl,hk.modify _ _,λx=> ?_,?_⟩ (A6 ..)
  ·show _=if x=name then U v else m x
   rw[<-hm];exact findBy_modify (λn v=>v.isStr n) av.isStr_inj es name x v i hi
  ·rw[Array.size_modify]
   split
   ·exact hz
   ·exact uU hz
 |none=>
  refine h _ _ (uX _ e<|by simp only[GX,GY,hi];rfl) ⟨_,ep+1,by simp only[GX,GY,hi];rfl,hk.push _ _ _ _,λx=> ?_,?_⟩ (A6 ..)
  ·show _=if x=name then U v else m x
   rw[<-hm]
   exact findBy_push (λn v=>v.isStr n) es name x _ _ v (λy=>by
    show(name==y)=decide (y=name)
    by_cases q:y=name
    ·subst q;simp
    ·rw[decide_eq_false q];exact beq_eq_false_iff_ne.mpr λz=>q z.symm) hi
  ·have:m name=Y:=by
    rw[<-hm]
    show(es.find? λe=>e.key.isStr name).map (·.val)=Y
    rw[Option.map_eq_none_iff,Array.find?_eq_none]
    rw[Array.findIdx?_eq_none_iff] at hi
    exact λe he=>by rw[hi e he];exact A7
   rw[this,Array.size_push]
   exact cg hz
section
variable{σ:St x}{K:V->H->Prop}
theorem iP.as0{o}{m}{k}{b:Bool}(n:iP o m (if b then k else k+1))(h:k<=100):o.data.pastItsLine=Y:=n.casesOn λes ep h1 _ _ h4=>h1▸aW2 (A4▸ak h4 (by cases b <;>first|exact ak (cg h) dd|exact ak h dd))
theorem IU{a d c f:Nat}{o}{h}{b}{v}(e1:σ.s.heap.get? a=U (oP c d))(e2:σ.s.heap.get? d=U o)(F:gX σ.R c h o)(e:bc h f=U v)(k:K v σ.A):
  aw (M x) Ar (RD (.ref a) (cN f) b) (PV ax σ K) N0 σ.s:=F.of λm g n h1 h2 r=>
 have q:=(h2 f v e).2
 have hc:=(x.T.p.Ga c f q.1).1
 (x.T.p.OD c f q.1).elim λ_ z=>get_value σ.mF ⟨e1,rfl,rfl,e2⟩ (x.T.p.ga c hc) (findObj_own (x.T.p.hd c hc) z.1 z.2<|(n.zP _).trans<|aA U q.2) (FM<|r f v e) (.tk (r f v e) k)
theorem gX.OR{R}{c}{o}{a}(F:gX R c a o){n}(h: ∀f v,f <gz.length->bc a f=U v->n≠cN f):RC n o=U Y:=F.of λm g q h1 h2 r=>
 (q.zP n).trans (aA U (match z:m n with
  |Y=>rfl
  |U w=>(h1 _ _ z).elim λe y=>y.elim λb y=>absurd y.2<|h e b (h2 e b y.1).1 y.1))
theorem Jt{v}{f}{b}(hf:f <gz.length)(h:kj I σ.A K v f){w}(r:ax σ.R v w):aw (M x) Ar (RD w (cN f) b) (PV ax σ K) N0 σ.s:=
 kj.casesOn (motive:=λv g _=>g=f->ax σ.R v w->aw (M x) Ar (RD w (cN f) b) (PV ax σ K) N0 σ.s) h
  (λe k q r=>r.of λ_ _ e1 e2 F=>IU (σ.at e1) (σ.at e2) F (q▸e) k)
  (λq e k z r=>r.of<|(σ.bh.ob _ _ q).2.of λ_ _ e1 _ e2 F=>IU e1 e2 F (z▸e) k)
  (λ{a c g fs v} en e k z r=>r.of λd o e1 e2 F=>
   have p:=x.T.p.Ml c f v (z▸e)
   p.2.2.elim λj y=>get_value σ.mF ⟨σ.at e1,rfl,rfl,σ.at e2⟩ (x.T.p.ga c p.1) (findObj_cls (x.T.p.hd c p.1) y.1 y.2.1 (FM y.2.2.1) y.2.2.2<|F.OR λg i l u t=>bR <|(x.T.p.names _ _ hf l t▸z▸en).symm.trans u) (FM y.2.2.1)<|.tk (σ.Lb y.2.2.1) k)
  rfl r
inductive PN (σ:St x) (K:H->Prop):bB->Prop
 |mk (τ:St x):σ.le τ->K τ.A->PN σ K τ.s
def St.cr(σ:St x){a}{p o}{h}(t:Nat)(e:σ.A a=U p)(b:sX a σ.s.heap h)(r:h7 σ.R h a o):St x:=
 have q:=(σ.bh.ob _ _ e).1
 σ.to σ.R (σ.A.cr a o) h t (σ.bh.abs a (λ_ _=>rfl) (λb' _ n q=>(b.2 b' n).trans q) q (λ_ z=>bH <|q.symm.trans z) (λ_ z=>bH <|q.symm.trans z) r) (Rm.le_refl _)
def St.ao8(σ:St x){a d}{p o}{h}{od}(t:Nat)(e:σ.A a=U p)(dd:σ.R d=U (.dict a))(b:sX d σ.s.heap h)(there:h.get? d=U od)(r:h7 σ.R h a o):St x:=
 have q:=(σ.bh.ob _ _ e).1
 σ.to σ.R (σ.A.cr a o) h t (((σ.bh.pr<|H.Fp _ a).jx d (λ_ _=>rfl) (λ_ _ _=>id) (λb' _ n q=>(b.2 b' n).trans q) (λ_ _=>id) (λ_ _ z=>bH <|dd.symm.trans z) (λo z=>bH <|dd.symm.trans (σ.bh.ob d o<|H.Fp _ a d o z).1) (λb z=>by cases dd.symm.trans z;exact H.Ej ..) λz=>gI <|there.symm.trans z)
  |>.jx a (λ_ _=>rfl) (λb n o z=>(aE n).trans (H.QC _ n z)) (λ_ _ _=>id) (λ_ _=>id) (λ_ _ z=>bH <|q.symm.trans z) (λo z=>⟨q,by cases(aM rfl).symm.trans z;exact r⟩) (λ_ z=>bH <|q.symm.trans z) λz=>r.at z) (Rm.le_refl _)
theorem gX.bx{R}{c f}{a}{o}{v}{w}(p: ∀f g,f <gz.length->g <gz.length->cN f=cN g->f=g)(hf:f <gz.length)(hk:I.nG c f=aa)(F:gX R c a o)(r:ax R v w)
  {G:Prop} (k: ∀m,iP o m a.length->(∀o',iP o' (CW m (cN f) w) (if(m<|cN f).isSome then a.length else a.length+1)->gX R c (iB a f v) o')->G):G:=F.of λm g n h1 h2 h3=>k m n λo' n=>
 have hs:(m<|cN f).isSome=(bc a f).isSome:=match q1:bc a f,q2:m (cN f) with
  |U b,_=>q2▸(aA RE (h2 f b q1).2.2)
  |Y,Y=>rfl
  |Y,U j=>(h1 _ _ q2).elim λe z=>z.elim λb z=>bR <|(p f e hf (h2 e b z.1).1 z.2▸q1).symm.trans z.1
 .mk (m:=CW m (cN f) w) (λi=>if i=f then w else g i) (by rw[hs,<-KM a f v] at n;exact n)
  (λy j h=>if z:y=cN f then⟨f,v,xY ..,z⟩ else(h1 _ _<|(aE z).symm.trans h).imp λe q=>q.imp λb q=>⟨(vQ _ _ λt=>z<|q.2.trans<|aA cN t.symm).trans q.1,q.2⟩)
  (λi u hi=>if z:f=i then z▸⟨hf,hk,(aM rfl).trans<|aA U (aM rfl).symm⟩ else
   have y:=h2 i u ((vQ _ _ z).symm.trans hi)
   ⟨y.1,y.2.1,(aE λt=>z (p i f y.1 hf t).symm).trans<|y.2.2.trans<|aA U (aE λt=>z t.symm).symm⟩)
  λi u hi=>if z:f=i then by subst z;exact bL ((xY ..).symm.trans hi)▸(aM rfl).symm▸r else(aE λt=>z t.symm:(if i=f then w else g i)=g i).symm▸h3 i u ((vQ _ _ z).symm.trans hi)
theorem Jz{f}{v j}{P}{Q:Unit->bB->Prop}{w u}(h:oI I σ.A f v P j)(r:ax σ.R v w)(ra:ax σ.R j u)(q: ∀τ:St x,τ.R=σ.R->P τ.A->Q () τ.s):aw (M x) Ar (setAttr u (cN f) w) Q N0 σ.s:=by
 refine oI.casesOn h (λ{a c fs} ha hk hl k ra=>ra.of<|(σ.bh.ob _ _ ha).2.of λd o e1 ed e2 F=> ?_) ra
 have p:=x.T.p.Ga _ _ hk
 refine(any_some<|x.T.p.hd _ p.1).elim λl hd=>set_plain σ.mF (od:=U o) ⟨e1,rfl,rfl,e2⟩ (x.T.p.set _ p.1) (osa_open (od:=U o) σ.mF ⟨e1,rfl,rfl,e2⟩ (x.T.p.po _ p.1) (x.T.p.tk _ _ hk) λb=> ?_)
 refine aF (bW<|aF<|aF<|wpAny_loadPart e1<|aF<|looks_clsIn σ.mF hd.1 _ _ _ _ (λ_ _ e=>e) ?_)
 rw[hd.2]
 exact bW (aF (bW (aF (F.bx x.T.p.names p.2 hk r λm n i=>Qv e2 n λo' h' e' g sb=>
  aF (aW3 e' (g.as0<|d6 hl)
   (bW<|q (σ.ao8 _ ha ed sb e'<|.aK ((sb.2 a λz=>bH <|((aA σ.R z).symm.trans (σ.bh.ob _ _ ha).1).symm.trans ed).trans e1) ed e'<|i o' g) rfl k))))))
theorem jZ{R:Rm}{a}{b c}{o p}(h:R.kp b a o)(q:R.kp c a p):b=c/\o=p:=by cases(Eq.symm h).trans q;exact⟨rfl,rfl⟩
theorem iQ{R:Rm}{a b}{c}{o}(y:b=a)(e:R.kp c a o):R.kp c b o:=y.symm▸e
theorem tH{R:Rm}{a b}{o p}(z:R.kp .fr b p)(e:R.kp .own a o):b≠a:=λy=>fX (jZ z<|iQ y e).1
def St.own(σ:St x){a}{o p}{h}(ρ:L)(t:Nat)(e:σ.R.kp .own a o)(q:h.get? a=U p)(sb:sX a σ.s.heap h)(f:Fr (x.at ρ)<|σ.R.bx a<|.kp .own p):St<|x.at ρ:=
 ⟨σ.R.bx a<|.kp .own p,σ.A,{σ.s with heap:=h,toks:=t},σ.bh.mG a q (λb _ n e=>(sb.2 b n).trans e) (σ.bh.kB λz=>bH <|e.symm.trans z) (λ_ z=>fX (jZ e z).1) λ_ z=>bH <|e.symm.trans z,
  λb o' z=>(Rm.cV<|tH (σ.bY b o' z) e).trans<|σ.bY b o' z,σ.gens,σ.os,f⟩
theorem St.P7(σ:St x){a}{o p}{h}{ρ}{t}{e:σ.R.kp .own a o}{q}{j:sX a σ.s.heap h}{f:Fr (x.at ρ)<|σ.R.bx a<|.kp .own p}(w:x.own a):σ.lo<|σ.own ρ t e q j f:=
 λb c o' z n=>(Rm.cV λy=>n (jZ z<|iQ y e).1<|y.symm▸w).trans z
theorem qf{R:Rm}{a}{o p}(e:R.kp .own a o):R.fl<|R.bx a<|.kp .own p:=λb o' z=>(Rm.cV<|tH z e).trans z
theorem tj.keep{R S:Rm}{i j}{n}{v}(l:R.fl S)(k: ∀c o,x.env.cells.lookup n=U c->R.kp .own c o->S.kp .own c o)(ne:i≠j)(h:tj x R j n):tj (x.at<|cY x.ρ i v) S j n:=h.casesOn (λh=> .dQ h) λc o cv h1 h2 h3 h4 a=>
 .cell c o cv h1 h2 (k c o h2 h3) h4 λv e=>(a v<|(w8 _ ne).symm.trans e).imp λ_ q=>⟨q.1,q.2.aG l⟩
theorem v1.keep{R S}{i}{v}{w}{p}{m o:Str->Option av}{t}(l:R.fl S)(e:S.kp .own x.env.locals p)(n:iP p o t)(h: ∀i n v,ah x.ns i=U n->x.env.kindOf n=U .local->ah x.ρ i=U (U v)-> ∃w,m n=U w/\ax R v w)
  (hi: ∀n,ah x.ns i=U n->x.env.kindOf n=U .local->o n=U w/\ax R v w) (ho: ∀j n,i≠j->ah x.ns j=U n->o n=m n) (hl:i <x.ρ.length):v1 (x.at<|cY x.ρ i v) S:=
 .mk p o t e n λj n u a b c=>if q:i=j then⟨w,by
  subst q;obtain⟨h1,h2⟩:=hi n a b;cases(Aj v hl).symm.trans c;exact⟨h1,h2.aG l⟩⟩ else(h j n u a b<|(w8 _ q).symm.trans c).imp λ_ z=>⟨(ho j n q a).trans z.1,z.2.aG l⟩
theorem v_{i}{n}{v}{w}{P:H->Prop}{Q:Unit->bB->Prop}(hn:ah x.ns i=U n)(hf:x.env.kindOf n≠U .free)(r:ax σ.R v w)(k:P σ.A)(q: ∀τ:St<|x.at<|cY x.ρ i v,σ.lo τ->(x.env.kindOf n=U .local-> ∀a b o,a≠x.env.locals->σ.R.kp b a o->τ.R.kp b a o)->P τ.A->Q () τ.s):
  aw (M x) Ar (storeName x.env n w) Q N0 σ.s:=by
 have hl:=σ.fr.len▸yo hn
 have len:(cY x.ρ i v).length=x.ns.length:=(Bz ..).trans σ.fr.len
 obtain⟨o,m,c,e,ns,h⟩:=σ.fr.dQ
 have nd: ∀{j:Nat} {f:Str},i≠j->ah x.ns j=U f->f≠n:=λne a z=>ne (B5 x.st.nd hn<|z▸a)
 have apart: ∀{c' o' cv},σ.R.kp .own c' o'->o'.data= .cell cv->c'≠x.env.locals:=λg d z=>ns.casesOn λ_ _ h0 _ _ _=>nomatch h0.symm.trans ((aA Obj.data (jZ e<|iQ z.symm g).2).trans d)
 refine(σ.fr.var i n hn).casesOn (λhk=> ?_) λc' o' cv hk h2 h3 h4 l=> ?_
 ·refine wpAny_storeName_local hk (σ.ns e ns) (λh' f sb=> ?_) (by rw[x.st.kind];rfl)
  obtain⟨p,es,ep,e1,e2,e3,e4⟩:=f
  have F:Fr (x.at<|cY x.ρ i v)<|σ.R.bx x.env.locals<|.kp .own p:=by
   refine⟨len,.keep (w:=w) (qf e) (Rm.cO ..) ⟨es,ep,e2,e3,e4,dP _⟩ h (λf a b=> ?_) (λj f ne a=>aE<|nd ne a) hl,λj f a=> ?_⟩
   ·exact iK (hn.symm.trans a) ⟨aM rfl,r⟩
   ·refine if z:i=j then ?_ else ?_
    ·subst z;exact iK (hn.symm.trans a) (.dQ hk)
    ·exact(σ.fr.var j f a).casesOn (λh=> .dQ h) λc o' cv h1 h2 h3 h4 l=> .cell c o' cv h1 h2 ((Rm.cV<|apart h3 h4).trans h3) h4 λv e'=>(l v<|(w8 _ z).symm.trans e').imp λ_ q=>⟨q.1,q.2.aG<|qf e⟩
  exact q (σ.own _ _ e e1 sb F) (σ.P7<|.inl rfl) (λ_ a b o n z=>(Rm.cV n).trans z) k
 ·have hk:=hk.resolve_right hf
  refine wpAny_storeName_cell x.st.kind hk h2 ⟨o',σ.at h3,h4⟩ λh' f sb=> ?_
  obtain⟨p,e1,e2⟩:=f
  have F:Fr (x.at<|cY x.ρ i v)<|σ.R.bx c'<|.kp .own p:=by
   refine⟨len,.keep (w:=w) (qf h3) ((Rm.cV λz=>apart h3 h4 z.symm).trans e) ns h (λf a b=> ?_) (λj f ne a=>rfl) hl,λj f a=> ?_⟩
   ·rw[bL<|a.symm.trans hn,hk] at b;exact nomatch b
   ·refine if z:i=j then ?_ else(σ.fr.var j f a).keep (qf h3) (λt u g s=>(Rm.cV λy=>nd z a<|x.st.apart f n c' (g.trans<|congrArg U y) h2).trans s) z
    subst z
    exact iK (hn.symm.trans a) (.cell c' p _ (.inl hk) h2 (Rm.cO ..) e2 λv e=>⟨w,rfl,bL (bL<|(Aj _ hl).symm.trans e)▸r.aG (qf h3)⟩)
  exact q (σ.own _ _ h3 e1 sb F) (σ.P7<|.inr ⟨n,hk,h2⟩) (λz=>nomatch hk.symm.trans z) k
end
open Classical in
theorem my{p} [d:Decidable p]:decide p=fC p:=by unfold fC;congr
open Classical in
theorem tq{p}:(!fC p)=fC (¬p):=(my (p:= ¬p))▸(decide_not).symm
open Classical in
theorem ub{p}(h:p):aa=fC p:=(decide_eq_true h).symm
open Classical in
theorem oz{p}(h: ¬p):ae=fC p:=(decide_eq_false h).symm
theorem Ll{b}:b=fC (b=aa):=by cases b;exact oz A7;exact ub rfl
theorem at6{p q}(h:p↔q):fC p=fC q:=aA fC (propext h)
theorem Vx{A}{s}(b c:Array UInt8)(t u:Tok):xr A s (.bytes b t) (.bytes c u)<|b.toList==c.toList:=λprog w E Q h=>by
 unfold eqBool
 refine e8 ?_
 by_cases hab:(aW4 b t==aW4 c u)=aa
 ·rw[aM hab]
  have e:b=c:=by have:=c_ hab;injection this
  subst e
  exact aF (wpAny_rule<|bW<|by simpa using h)
 ·rw[aE hab]
  exact aF (eq_bytes<|pI h)
theorem aJ5{b c}(h:jP b=jP c):b.toList=c.toList:=(List.map_inj_right λx y e=>UInt8.toNat_inj.mp<|aU9 e).mp h
section
variable{σ:St x}{R:Rm}{s:bB}
def Dw(Ar:cW)(s:bB)(ws us:List av):Prop:=ws.toArray.size=us.toArray.size/\ ∀j (h1) (h2:j <us.toArray.size),xr Ar.in1 s ws.toArray[j] us.toArray[j] aa
theorem zs{n}{Ar}(b:Ar.units+(n+1) <q5)(ih: ∀(Ar:cW) (v:V) (w u:av),fT n v=aa->Ar.units+n <q5->ax R v w->ax R v u->xr Ar s w u aa){vs}{a us}(h:vs.all (fT n)=aa)(r:aV R vs a)(q:aV R vs us):Dw Ar s a us:=
 bX.rec
  (λus _ q=>q.none ⟨rfl,λj h1=>absurd h1<|GD _⟩) (λ{v w vs a} p _ ih2 us h q=>q.of λu us y q=>
   have h:=fG.mp h
   have z:=ih2 us h.2 q
   ⟨aA (· +1) z.1,λj=>match j with
    |0=>λ_ _=>ih _ _ _ _ h.1 (show Ar.units+1+n <q5 by rw[cH,c5 1];exact b) p y
    |j+1=>λh1 h2=>z.2 j (xk h1)<|xk h2⟩) r us h q
theorem MA{Ar}{a b m j:Nat}{h us}(e:s.heap.get? a=U (gS h m))(e':s.heap.get? b=U (gS us j))(c:Ar.units <q5)(y:Dw Ar s h us):uY Ar s (.ref a) (.ref b) aa/\xt Ar s (.ref a) (.ref b) ae:=by
 have h1:=uY.tuples ⟨_,e,rfl,_,rfl⟩ ⟨_,e',rfl,_,rfl⟩ c y.2
 have h2:=xt.tuples (e:=λ_=>aa) ⟨_,e,rfl,_,rfl⟩ ⟨_,e',rfl,_,rfl⟩ c y.2
 rw[y.1,beq_self_eq_true,A8.mpr λ_ _=>rfl] at h1 h2
 exact⟨h1,h2⟩
theorem K7{Ar}{a b m j:Nat}{h us}(e:s.heap.get? a=U (cz h m))(e':s.heap.get? b=U (cz us j))(c:Ar.units <q5)(y:Dw Ar s h us):uY Ar s (.ref a) (.ref b) aa/\xt Ar s (.ref a) (.ref b) ae:=by
 have h1:=aW5 ⟨_,e,rfl,_,rfl⟩ ⟨_,e',rfl,_,rfl⟩ y.1 c y.2
 have h2:=aW6 (e:=λ_=>aa) ⟨_,e,rfl,_,rfl⟩ ⟨_,e',rfl,_,rfl⟩ y.1 c y.2
 rw[A8.mpr λ_ _=>rfl] at h1 h2
 exact⟨h1,h2⟩
theorem J6(g: ∀a o,R.is a o->s.heap.get? a=U o): ∀(n:Nat) (Ar:cW) (v:V) (w u:av),fT n v=aa->Ar.units+n <q5->ax R v w->ax R v u->xr Ar s w u aa:=by
 intro n
 refine n.rec (λ_ _ _ _ h=>fE h) λn ih Ar v w u h j r q=> ?_
 have f:=ms (cm ..) j
 cases v with
 |none=>exact r.of (q.of<|.same _)
 |int i=>exact r.of λt=>q.of λc=>(beq_self_eq_true i)▸aW7 i t i c
 |str i=>exact r.of λt=>q.of λc=>(beq_self_eq_true i)▸xr.str_str i t i c
 |a8 l=>exact r.of λa t e=>q.of λb c e'=>by have:=Vx (A:=Ar) (s:=s) a b t c;rwa[aJ5<|e.trans e'.symm,beq_self_eq_true] at this
 |aj l=>exact r.of λws a m e r=>q.of λus b p e' q=>if z:a=b then z▸ .same _ else .of_refs z (MA (g _ _ e) (g _ _ e') f<|zs j ih h r q).1
 |fl l=>exact r.of λws a m e r=>q.of λus b p e' q=>if z:a=b then z▸ .same _ else .of_refs z (K7 (g _ _ e) (g _ _ e') f<|zs j ih h r q).1
 |_=>cases h
theorem BQ{a b n m:Nat}{l}(e:s.heap.get? a=U (cz l n))(e':s.heap.get? b=U (cz [] m))(c:Ar.units <q5):uY Ar s (.ref a) (.ref b) l.isEmpty/\xt Ar s (.ref a) (.ref b) (!l.isEmpty):=match l,e with
 |[],e=>⟨aW5 (e:=λ_=>aa) ⟨_,e,rfl,_,rfl⟩ ⟨_,e',rfl,_,rfl⟩ rfl c λj h=>absurd h<|GD _,aW6 (e:=λ_=>aa) ⟨_,e,rfl,_,rfl⟩ ⟨_,e',rfl,_,rfl⟩ rfl c λj h=>absurd h<|GD _⟩
 |_::_,e=>⟨.lists_lengths ⟨_,e,rfl,_,rfl⟩ ⟨_,e',rfl,_,rfl⟩ rfl c,.lists_lengths ⟨_,e,rfl,_,rfl⟩ ⟨_,e',rfl,_,rfl⟩ rfl c⟩
theorem aV.Fo{l}{a}(r:aV R l a):a.isEmpty=fC (l=[]):=r.casesOn (ub rfl) λ_ _=>oz λz=>Ah z
noncomputable def md(i:Int):av->Bool
 |.int j _=>j==i
 |_=>ae
theorem aV.DQ(i:Int)(t:Tok): ∀(l:List Int) (ws:List av),aV R (vi l) ws->(∀y∈ws,xr Ar s y (.int i t)<|md i y)/\ws.any (md i)=fC (i∈l):=by
 intro l
 refine l.rec (λws r=>r.none ⟨λy h=>(dB h),oz λz=>dB z⟩) λj l ih ws r=>r.of λw ws p r=>p.of λu=> ?_
 have z:=ih ws r
 refine⟨λy h=>(bC.mp h).elim (λe=>e▸aW7 j u i t)<|z.1 y,?_⟩
 show(j==i||ws.any (md i))=_
 rw[z.2]
 refine if e:i=j then ?_ else ?_
 ·rw[<-ub<|bC.mpr<|.inl e];exact xm.mpr (.inl<|beq_iff_eq.mpr e.symm)
 ·rw[at6<|bC.trans<|or_iff_right e,beq_eq_false_iff_ne.mpr λq=>e q.symm];rfl
abbrev ik(x:Cx):PySem.KeyKind x.T.prog x.T.w Int:=intKind x.T.prog x.T.w
noncomputable def kv:List (Int×V)->List (Tok×av)->List (Int×av)
 |d::ds,t::ts=>(d.1,t.2)::kv ds ts
 |_,_=>[]
theorem mw(k:Int)(t:Tok):A9 k (.int k t)=aa:=beq_self_eq_true k
theorem dD.Py{ds}{h}(r:dD R ds h):aW8 (ik x) (fY ds h)<|kv ds h:=r.rec .nil λ{a b _ _} _ _ q=> .cons (mw a.1 b.1) rfl q
theorem dD.dJ{ds:List<|Int×V}{a:List<|Tok×av}(r:dD R ds a):(kv ds a).map (·.1)=dJ ds:=r.rec rfl λ_ _ q=>aA (_) q
theorem dD.has{ds}{j}(r:dD R ds j): ∀e∈fY ds j,∃k,(ik x).is k e.key=aa/\e.hash=(ik x).hash k:=r.rec (λ_ h=>dB h) λ{a b _ _} _ _ q e h=>(bC.mp h).elim (λz=>z▸⟨_,mw a.1 b.1,rfl⟩) (q e)
theorem rZ{h:cu}{a n:Nat}{ds}{j}(e:h.get? a=U (gb (fY ds j) n))(nd:(dJ ds).Nodup)(r:dD R ds j):h.DictOf (ik x) a<|kv ds j:=
 ⟨_,(fY ds j).toArray,n,e,⟨rfl,rfl,rfl⟩,rfl,λe he=>r.has e<|A5.mpr he,r.Py,r.dJ▸nd⟩
noncomputable def r5(R:Rm)(o:Option V)(q:Option av):Prop:=match o with
 |U v=> ∃w,q=U w/\ax R v w
 |Y=>q=Y
theorem dD.get{ds}{a}(r:dD R ds a)(k:Int):r5 R (bw ds k)<|RF (kv ds a) k:=r.rec rfl λ{d t ds ts} p _ q=>by
 show r5 R (if d.1=k then U d.2 else bw ds k) (RF ((d.1,t.2)::kv ds ts) k)
 unfold RF
 rw[List.find?_cons]
 refine if e:d.1=k then ?_ else ?_
 ·rw[aM e,decide_eq_true e];exact⟨_,rfl,p⟩
 ·rw[aE e,decide_eq_false e];exact q
theorem r5.some{o}{q}(g:r5 R o q):q.isSome=o.isSome:=match o,g with
 |.some _,g=>g.elim λ_ z=>z.1▸rfl
 |.none,g=>aA RE g
def vg(x:Cx)(Ar:cW)(s:bB)(a:CmpOp)(w u:av)(p:Prop):Prop:= ∀Q:av->bB->Prop,(∀t,Q (.bool<|fC p) {s with toks:=t})->aw (M x) Ar (uZ a w u) Q N0 s
theorem vg.mk{a}{w u}{p}{b}(e:b=fC p)(t:Tok)(h: ∀Q:av->bB->Prop,Q (.bool b) {s with toks:=t}->aw (M x) Ar (uZ a w u) Q N0 s):vg x Ar s a w u p:=λQ q=>h Q (e▸q t)
theorem za{a}{ds}{h}{n}{i}{t}(e:s.heap.get? a=U (gb (fY ds h) n))(nd:(dJ ds).Nodup)(r:dD R ds h)(hm:(a==kP)=ae):
  vg x Ar s .In (.int i t) (.ref a) ((bw ds i).isSome=aa)/\vg x Ar s .NotIn (.int i t) (.ref a) (¬(bw ds i).isSome=aa):=
 have m:=(rZ e nd r).mapOf
 ⟨.mk ((r.get i).some.trans Ll) (s.toks+1) λ_=>wpAny_in_of (mw i t) hm m,.mk ((aA not<|(r.get i).some.trans Ll).trans tq) (s.toks+1) λ_=>wpAny_notIn_of (mw i t) hm m⟩
theorem ah3{a b c l d j:Nat}{Q}(ha:s.heap.get? a=U (oP c d))(hb:s.heap.get? b=U (oP l j))(h:Q (a==b) s):aw (M x) Ar (isSame (.ref a)<|.ref b) Q N0 s:=by
 show aw (M x) Ar (if(a==b)=aa then cG aa else _) Q N0 s
 cases e:a==b with
 |true=>exact bW (e▸h)
 |false=>exact aF (RG ha<|wpAny_bind<|wpAny_load hb<|wpAny_pure<|e▸h)
theorem Qe{v}{w}(h:sh v=ae)(r:ax R v w):(w==av.none)=ae:=ax.casesOn r (λh=>j4 h) (λ_ _=>rfl) (λ_ _ _=>rfl) (λ_ _ _=>rfl) (λ_ _ _=>rfl) (λ_ _ _=>rfl) (λ_ _ _=>rfl) (λ_ _ _ _=>rfl) (λ_ _ _ _ _=>rfl) (λ_ _=>rfl) h
noncomputable def iJ:mX->CmpOp
 |.eq=> .Eq
 |.ne=> .NotEq
 |.lt=> .Lt
 |.le=> .LtE
 |.gt=> .Gt
 |.ge=> .GtE
 |.is=> .Is
 |.ml=> .IsNot
 |.oV=> .In
 |.sC=> .NotIn
structure d9(k:Nat)(Ar:cW):Prop where
 hd:Ar.handled=Y
 oE:Ar.depth+k <GZ
 un:Ar.units+8*k+20 <q5
theorem d9.u{k n}(r:d9 k Ar)(h:n<=20):Ar.units+n <q5:=ms (gQ (cm _ _) h) r.un
theorem we{k}(rm:d9 k Ar){X}{W D}{w u}{J}{G:Prop}(h:cy σ.A J X W D)(ra:ax σ.R W w)(rb:ax σ.R D u)(z: ∀p,J p->vg x Ar σ.s (iJ X) w u p->G):G:=by
 have j:=rm.u (j7 _)
 have hF: ∀a o,σ.R.is a o->σ.s.heap.get? a=U o:=λa o e=>σ.at e
 exact cy.casesOn h
  (λk ra rb=>ra.kK rb λt f z=>z _ k<|.mk my _ λQ q=>uY.int_int _ _ _ _ _ _ _ _ q)
  (λk ra rb=>ra.kK rb λt f z=>z _ k<|.mk ((aA not my).trans tq) _ λQ q=>xt.int_int _ _ _ _ _ _ _ _ q)
  (λk ra rb=>ra.of<|rb.of λz=>z _ k<|.mk ((aA not my).trans tq) _ λQ q=>xt.bool_bool _ _ _ _ _ _ q)
  (λk ra rb=>ra.kK rb λt f z=>z _ k<|.mk my _ λQ q=>PySem.P.lt_int q)
  (λk ra rb=>ra.kK rb λt f z=>z _ k<|.mk my _ λQ q=>PySem.P.le_int q)
  (λk ra rb=>ra.kK rb λt f z=>z _ k<|.mk my _ λQ q=>PySem.P.gt_int q)
  (λk ra rb=>ra.kK rb λt f z=>z _ k<|.mk my _ λQ q=>PySem.P.ge_int q)
  (λk ra rb=>ra.of λt=>rb.of λf z=>z _ k<|.mk my _ λQ q=>uY.str_str _ _ _ _ _ _ _ _ q)
  (λk ra rb=>ra.of<|rb.of λf z=>z _ k<|.mk (oz id) _ λQ q=>uY.none_int _ _ _ _ _ _ q)
  (λk ra rb=>ra.of λws a n e r=>rb.of λus b m e' q z=>z _ k<|.mk r.Fo _ λQ y=>(BQ (σ.at e) (q.none id<|σ.at e') j).1 _ _ _ _ y)
  (λk ra rb=>ra.of λws a n e r=>rb.of λus b m e' q z=>z _ k<|.mk ((aA not r.Fo).trans tq) _ λQ y=>(BQ (σ.at e) (q.none id<|σ.at e') j).2 _ _ _ _ y)
  (λg k ra rb=>ra.of<|rb.of λus b m e' q z=>σ.g6 g λws n e r=>z _ k<|.mk r.Fo _ λQ y=>(BQ e (q.none id<|σ.at e') j).1 _ _ _ _ y)
  (λg k ra rb=>ra.of λws a n e r=>rb.of λus b m e' q z=>z _ k<|.mk (oz id) _ λQ y=>(MA (σ.at e) (σ.at e') j<|zs (rm.u dd) (J6 hF 7) g r q).2 _ _ _ _ y)
  (λg k ra rb=>ra.of λws a n e r=>rb.of λus b m e' q z=>z _ k<|.mk (oz id) _ λQ y=>(K7 (σ.at e) (σ.at e') j<|zs (rm.u dd) (J6 hF 7) g r q).2 _ _ _ _ y)
  (λk ra rb=>ra.of<|rb.of λz=>z _ k<|.mk (ub tI) _ λQ q=>is_none_gen q)
  (λg k ra rb=>rb.of λz=>z _ k<|.mk ((Qe g ra).trans<|oz id) _ λQ q=>is_none_gen q)
  (λk ra rb=>ra.of<|rb.of λz=>z _ k<|.mk (oz id) _ λQ q=>aW9 q)
  (λg k ra rb=>rb.of λz=>z _ k<|.mk ((aA not<|Qe g ra).trans<|ub tI) _ λQ q=>aW9 q)
  (λ{a b c d fs gs} k ra rb=>ra.of λ_ _ e _ _=>rb.of λ_ _ e' _ _ z=>z _ k<|.mk ((aA not my).trans tq) _ λQ q=>aF<|ah3 (σ.at e) (σ.at e')<|bW q)
  (λk ra rb=>ra.of λt=>rb.of λA a n e hm nd r z=>z _ k (za (σ.at e) nd r hm).1)
  (λg k ra rb=>ra.of λt=>rb.of λz=>σ.jb g λA n e nd r=>z _ k (za e nd r<|σ.sd g).1)
  (λk ra rb=>ra.of λt=>rb.of λA a n e hm nd r z=>z _ k (za (σ.at e) nd r hm).2)
  (λg k ra rb=>ra.of λt=>rb.of λz=>σ.jb g λA n e nd r=>z _ k (za e nd r<|σ.sd g).2)
  (λ{l i} k ra rb=>ra.of λt=>rb.of λws a n e r z=>z _ k (have y:=r.DQ i t; .mk y.2 _ λQ q=>in_listAt _ ⟨_,σ.at e,rfl,_,rfl⟩ (λv h=>y.1 v<|RH.mp h)<|RI▸q))
  (λ{l i} k ra rb=>ra.of λt=>rb.of λws a n e r z=>z _ k (have y:=r.DQ i t; .mk y.2 _ λQ q=>in_tupleAt _ ⟨_,σ.at e,rfl,_,rfl⟩ (λv h=>y.1 v<|RH.mp h)<|RI▸q))
  (λ{l i} k ra rb=>ra.of λt=>rb.of λws a n e r z=>z _ k (have y:=r.DQ i t; .mk ((aA not y.2).trans tq) _ λQ q=>notIn_tupleAt _ ⟨_,σ.at e,rfl,_,rfl⟩ (λv h=>y.1 v<|RH.mp h)<|RI▸q)) ra rb z
end
section
variable{σ:St x}{a b d:Expr}
theorem BW{p}{K:Bool->Prop}(h:(p->K aa)/\(¬p->K ae)):K<|fC p:=(G0 p).elim (λq=>ub q▸h.1 q) λq=>oz q▸h.2 q
theorem BA{vs j}{s}{Q}{E}(h:Q () s):aw (M x) Ar (xu vs j) Q E s:=λc p _=>by rw[Sem.wp_release];exact h
theorem Gg{vs}{s}{m}{Q}{E}(h:aw (M x) Ar m Q E s):aw (M x) Ar (xv vs m) Q E s:=λe p c=>by rw[Sem.wp_operate];exact h e p c
theorem aQ0(rm:d9 k Ar)(hm:xw (iJ o) b=ae)(ea:a3 x Ar (aQ a x.env) f)(eb:a3 x Ar (aQ b x.env) g):
  a3 x Ar (aQ (.Compare a [iJ o] [b] pos) x.env) (λh Q=>f h λq h=>g h λi h=>cy h (λp=>Q (.bool<|fC p) h) o q i):=λσ K h=>
 wpAny_Compare1 (ea.bind h λτ v w l r k=>eb.map k λυ s u l' r' k=>we rm k (r.aG l'.fl) r' λp j c=>c _ λt=>⟨υ.kF t,_,_,λ_ _ _ e=>l' _ _ _<|l _ _ _ e,.bool _,j⟩) hm
theorem ag9(rm:d9 k Ar){o}(hm:xw (iJ u) b=ae)(ea:a3 x Ar (aQ a x.env) f)(eb:a3 x Ar (aQ b x.env) g):
  dU x Ar (isTrue (.Compare a [iJ u] [b] pos) x.env o) (λh T F=>f h λq h=>g h λi h=>cy h (λp=>(p->T h)/\(¬p->F h)) u q i):=λσ K h=>
 wpAny_isTrue_Compare1 (ea.bind h λτ v w l r k=>eb.map k λυ s y l' r' k=>we rm k (r.aG l'.fl) r' λp j c=>c _ λt=>pI ⟨υ.kF t,_,_,λ_ _ _ e=>l' _ _ _<|l _ _ _ e,rfl,BW (K:=λb=>K b υ.A) j⟩) hm
theorem aa0(env:Env)(l op op2 r r2 pos):aQ (.Compare l [op,op2] [r,r2] pos) env=(do
  let a<-aQ l env
  let b<-iT [a] (aQ r env)
  u1 pos
  let c<-iT [a,b] (uZ op a b)
  xu [a,b] [c]
  if<-iT [c,b] (xx c) then(do
   let rv<-iT [b] (aX0 op2 r2<|aQ r2 env)
   u1 pos
   xv [b,rv]<|uZ op2 b rv) else cG c):=rfl
theorem WM(env:Env)(l op op2 r r2 pos whole):isTrue (.Compare l [op,op2] [r,r2] pos) env whole=(do
  let a<-aQ l env
  let b<-iT [a] (aQ r env)
  u1 pos
  let c<-iT [a,b] (uZ op a b)
  xu [a,b] [c]
  if<-iT [c,b] (xx c) then(do
   let rv<-iT [b] (aX0 op2 r2<|aQ r2 env)
   u1 pos
   let d<-xv [b,rv] (uZ op2 b rv)
   iT [d]<|xx d) else cG ae):=rfl
theorem AH{α}{m:av->Sem α}{n:av->Sem α}{Q}{J:H->V->Prop->Prop}(rm:d9 k Ar)(ea:a3 x Ar (aQ a x.env) f)(eb:a3 x Ar (aQ b x.env) g)(h:f σ.A λu h=>g h λi h=>cy h (λp=>J h i p) A u i)
  (z: ∀(τ:St x) v w p,σ.le τ->ax τ.R v w->J τ.A v p->(p->aw (M x) Ar (m w) Q N0 τ.s)/\(¬p->aw (M x) Ar (n<|.bool ae) Q N0 τ.s)):
  aw (M x) Ar (do
   let a<-aQ a x.env
   let b<-iT [a] (aQ b x.env)
   u1 pos
   let c<-iT [a,b] (uZ (iJ A) a b)
   xu [a,b] [c]
   if<-iT [c,b] (xx c) then m b else n c) Q N0 σ.s:=
 aF (ea.bind h λτ v w l r k=>aF (e8 (eb.map k λυ s o l' r' k=>aF (jn (aF (e8 (we rm k (r.aG l'.fl) r' λp j c=>c _ λt=>aF (BA (aF (e8 (pI
  (have y:=z (υ.kF t) s o p (λ_ _ _ e=>l' _ _ _<|l _ _ _ e) r' j
   BW (K:=λb=>aw (M x) Ar (if b=aa then m o else n<|.bool b) Q N0 (υ.kF t).s) ⟨λq=>y.1 q,λq=>y.2 q⟩))))))))))))
theorem TM(rm:d9 k Ar)(hm:xw (iJ o) d=ae)(ea:a3 x Ar (aQ a x.env) f)(eb:a3 x Ar (aQ b x.env) g)(ed:a3 x Ar (aQ d x.env) e):
  a3 x Ar (aQ (.Compare a [iJ y,iJ o] [b,d] pos) x.env) (λh Q=>f h λu h=>g h λi h=>cy h (λp=>(p->e h λs h=>cy h (λp=>Q (.bool<|fC p) h) o i s)/\(¬p->Q (.bool ae) h)) y u i):=λσ K h=>by
 rw[aa0]
 refine AH rm ea eb h λτ v w p l r j=>⟨λq=>aF<|e8 ?_,λq=>bW ⟨τ,_,_,l,.bool _,j.2 q⟩⟩
 rw[aX1 hm]
 exact ed.map (j.1 q) λυ z A l' r' k=>aF (jn<|Gg<|we rm k (r.aG l'.fl) r' λp j c=>c _ λt=>⟨υ.kF t,_,_,λ_ _ _ e=>l' _ _ _<|l _ _ _ e,.bool _,j⟩)
theorem ar9(rm:d9 k Ar){o}(hm:xw (iJ u) d=ae)(ea:a3 x Ar (aQ a x.env) f)(eb:a3 x Ar (aQ b x.env) g)(ed:a3 x Ar (aQ d x.env) e):
  dU x Ar (isTrue (.Compare a [iJ z,iJ u] [b,d] pos) x.env o) (λh T F=>f h λy h=>g h λi h=>cy h (λp=>(p->e h λs h=>cy h (λp=>(p->T h)/\(¬p->F h)) u i s)/\(¬p->F h)) z y i):=λσ K h=>by
 rw[WM]
 refine AH rm ea eb h λτ v w p l r j=>⟨λq=>aF<|e8 ?_,λq=>bW ⟨τ,_,_,l,rfl,j.2 q⟩⟩
 exact aX1 hm▸ed.map (j.1 q) λυ A D l' r' k=>aF (jn<|aF<|Gg<|we rm k (r.aG l'.fl) r' λp j c=>c _ λt=>e8<|pI ⟨υ.kF t,_,_,λ_ _ _ e=>l' _ _ _<|l _ _ _ e,rfl,BW (K:=λb=>K b υ.A) j⟩)
theorem OP(ev:a3 x Ar (aQ a x.env) f):a3 x Ar (aQ (.UnaryOp .USub a pos) x.env) (λh Q=>f h λv h=>r7 h Q v):=λσ K h=>
 aX2 (ev.map h λτ v w l r k=>r7.casesOn k (λz r=>r.of λt=>PySem.P.neg_int ⟨τ.kF _,_,_,l,.int _ _,z⟩) r)
theorem av1(ev:a3 x Ar (aQ a x.env) f):a3 x Ar (aQ (.UnaryOp .Not a pos) x.env) (λh Q=>f h λv h=>sO h Q v):=λσ K h=>
 aX2 (ev.map h λτ v w l r k=>sO.casesOn k (λz r=>r.of<|not_of<|pI ⟨τ,_,_,l,.bool _,z⟩) r)
theorem af3{j}{f}(ev:dU x Ar (isTrue a x.env<|aQ a x.env) f):dU x Ar (isTrue (.UnaryOp .Not a pos) x.env j) (λh T F=>f h F T):=λσ K h=>
 wpAny_isTrue_Not (Ev.map ev h λτ v w l r k=>⟨τ,_,_,l,aA not r,k⟩)
theorem Gr{m}(ev:a3 x Ar m f):dU x Ar (do let v<-m;u1 a.pos;iT [v] (xx v)) (λh T F=>f h λv h=>tv h T F v):=λσ K h=>
 aF (ev.map h λτ v w l r k=>aF<|jn<|e8<|tv.casesOn k (λ{b} y n r=>r.of<|pI ⟨τ,_,_,l,rfl,match b with|aa=>y rfl|ae=>n rfl⟩) r)
theorem aI9{t}{ft}(c:dU x Ar (isTrue t x.env<|aQ t x.env) ft)(ea:a3 x Ar (aQ a x.env) f)(eb:a3 x Ar (aQ b x.env) g):
  a3 x Ar (aQ (.IfExp t a b pos) x.env) (λh Q=>ft h (λh=>f h Q) λh=>g h Q):=λσ K h=>
 wpAny_IfExp (Ev.map c (J:=λb h=>match b with|aa=>f h K|ae=>g h K) h λτ v w l r k=>match v,w,r,k with
  |aa,_,rfl,k=>up l (ea τ K k)
  |ae,_,rfl,k=>up l<|eb τ K k)
@[elab_as_elim] theorem lB.of{R}{A B}{P:av->Prop}{v}{w}(q:lB A B v)(r:ax R v w)(y:A->P (.bool aa))(n:B->P (.bool ae)):P w:=
 lB.casesOn q (λ{b} z z' r=>r.of (match b,z,z' with|aa,z,_=>y (z rfl)|ae,_,z=>n<|z rfl)) r
theorem aI6{m j}{r}(e:a3 x Ar m f)(er:a3 x Ar (A_ pos .And<|j::r) g):a3 x Ar (A_ pos .And<|m::j::r) (λh Q=>f h λv h=>lB (g h Q) (Q (.bool ae) h) v):=λσ K h=>by
 refine(?_)
 exact aF (e.map h λτ v w l r k=>aF<|jn<|aF<|e8<|k.of r (λk=>pI<|up l<|er τ K k) λk=>pI<|bW ⟨τ,_,_,l,.bool _,k⟩)
theorem ab4{m j}{r}(e:a3 x Ar m f)(er:a3 x Ar (A_ pos .Or<|j::r) g):a3 x Ar (A_ pos .Or<|m::j::r) (λh Q=>f h λv h=>lB (Q (.bool aa) h) (g h Q) v):=λσ K h=>by
 refine(?_)
 exact aF (e.map h λτ v w l r k=>aF<|jn<|aF<|e8<|k.of r (λk=>pI<|bW ⟨τ,_,_,l,.bool _,k⟩) λk=>pI<|up l<|er τ K k)
theorem al8{j}(ev:dU x Ar (isTrue a x.env<|aQ a x.env) t):dU x Ar (xy j [a] x.env) t:=λσ K h=>match j with
 |.And=>aX3 (bz (ev σ K h) (λb s p=>match b,p with|ae,p=>p|aa,p=>wpAny_allTrue_And_nil p) λ_ _=>id)
 |.Or=>aX4 (bz (ev σ K h) (λb s p=>match b,p with|aa,p=>p|ae,p=>wpAny_allTrue_Or_nil p) λ_ _=>id)
theorem am9{r}(ev:dU x Ar (isTrue a x.env<|aQ a x.env) t)(er:dU x Ar (xy .And r x.env) u):dU x Ar (xy .And (a::r) x.env) (λh T F=>t h (λh=>u h T F) F):=λσ K h=>
 aX3 (Ev.map ev (J:=λb h=>match b with|aa=>u h (K aa) (K ae)|ae=>K ae h) h λτ v w l r k=>match v,w,r,k with
  |aa,_,rfl,k=>up l (er τ K k)
  |ae,_,rfl,k=>⟨τ,_,_,l,rfl,k⟩)
theorem aP1{r}(ev:dU x Ar (isTrue a x.env<|aQ a x.env) t)(er:dU x Ar (xy .Or r x.env) u):dU x Ar (xy .Or (a::r) x.env) (λh T F=>t h T λh=>u h T F):=λσ K h=>
 aX4 (Ev.map ev (J:=λb h=>match b with|aa=>K aa h|ae=>u h (K aa)<|K ae) h λτ v w l r k=>match v,w,r,k with
  |aa,_,rfl,k=>⟨τ,_,_,l,rfl,k⟩
  |ae,_,rfl,k=>up l<|er τ K k)
end
section
variable{σ:St x}{K:V->H->Prop}
theorem bX.Fz{α β}{r}{G:Prop}{l}{m:List β}(q:bX r l m): ∀(i:Nat) (a:α),c6.ah l i=U a->(∀b,m[i]? =U b->r a b->G)->G:=
 q.rec (λ_ _ h=>bR h) λp _ ih i a h k=>match i,h,k with
  |0,h,k=>k _ rfl (bL h▸p)
  |_+1,h,k=>ih _ a h k
theorem bX.ah{α β}{r}{G:Prop}{l}{m:List β}{i}{a:α}(q:bX r l m)(h:c6.ah l i=U a)(k: ∀b,m[i]? =U b->r a b->G):G:=q.Fz i a h k
theorem lP{α}: ∀(l:List α) (i:Nat),c6.ah l i=l[i]?
 |[],_=>rfl
 |_::_,0=>rfl
 |_::r,i+1=>lP r i
theorem Ls{α:Type}{l:List α}{i}{a}(h:l[i]? =U a):i <l.length:=(List.getElem?_eq_some_iff.mp h).1
theorem JB{i}{n}(h:0<=i)(q:i.toNat <n):seqIndex? i n=U i.toNat:=by
 have h0:=fH.mpr h
 unfold seqIndex?
 exact aE h0▸aM (fG.mpr ⟨decide_eq_true h,decide_eq_true<|(aX5 h).mp q⟩)
theorem Gf{i:Int}(q:i<=4611686018427387904):i <2^63:=g8 q dd
theorem Ng{i}(h:0<=i): -2^63<=i:=az dd h
theorem KZ{a n:Nat}{l}{h}{i}{t}{v}(e:σ.s.heap.get? a=U (cz h n))(r:aV σ.R l h)(h0:0<=i)(h1:i<=4611686018427387904)(hv:ah l i.toNat=U v)(k:K v σ.A):aw (M x) Ar (mu (.ref a)<|.int i t) (PV ax σ K) N0 σ.s:=
 r.ah hv λw e' p=>wpAny_getItem_list ⟨_,e,rfl,_,rfl⟩ h0 (Gf h1) ((u2 ..).trans e') (.dc p k)
theorem bX.Vp{α β}{r}{a}{G:Prop}: ∀(l:List α) (m:List β),bX r (l++[a]) m->(∀us w,m=us++[w]->bX r l us->r a w->G)->G:=by
 intro l
 refine l.rec (λm q k=> ?_) λc l ih m q k=> ?_
 ·exact q.of (P:=λf=>m=f->G) (λb f p q e=>k [] b (q.none id e) .nil p) rfl
 ·exact q.of (P:=λf=>m=f->G) (λb f p q e=>ih f q λus w e' h g=>k (b::us) w (e.trans<|aA (b:: ·) e') (.cons p h) g) rfl
theorem bX.nX{α β}{r}{a}{G:Prop}{l:List α}{m:List β}(q:bX r (l++[a]) m)(k: ∀us w,m=us++[w]->bX r l us->r a w->G):G:=bX.Vp l m q k
theorem KT{a n:Nat}{l}{h}{t}{v}(e:σ.s.heap.get? a=U (cz h n))(r:aV σ.R (l++[v]) h)(k:K v σ.A):aw (M x) Ar (mu (.ref a)<|.int (-1) t) (PV ax σ K) N0 σ.s:=
 r.nX λus w e' _ p=>wpAny_getItem_list_neg ⟨_,e,rfl,_,rfl⟩ dd (by rw[e',j8,aC];exact GF<|GN<|dx _) dd
  (by
   rw[e',j8,aC,u2,qY,iy]
   show(us++[w])[((us.length:Int)+1+ -1).toNat]? =_
   rw[Int.add_neg_cancel_right,aX6,aX7<|dP _,aX8];rfl) (.dc p k)
theorem QX{a n:Nat}{ds}{h}{i}{t}{v}(e:σ.s.heap.get? a=U (gb (fY ds h) n))(nd:(dJ ds).Nodup)(r:dD σ.R ds h)(hv:bw ds i=U v)(k:K v σ.A):aw (M x) Ar (mu (.ref a)<|.int i t) (PV ax σ K) N0 σ.s:=
 (show r5 σ.R (U v) _ from hv▸(r.get i)).elim λw z=>wpAny_getItem_of (mw i t) (rZ e nd r).mapOf z.1 (.tk z.2 k)
theorem ah1{b}{i}{t a}{v}(hv:ah (vi<|jP b) i.toNat=U v)(h0:0<=i)(h1:i<=4611686018427387904)(k:K v σ.A):aw (M x) Ar (mu (.bytes b t)<|.int i a) (PV ax σ K) N0 σ.s:=by
 have hb: ∃c,b.toList[i.toNat]? =U c/\v= .int c.toNat:=by
  rw[lP,G1,G1] at hv
  cases e:b.toList[i.toNat]? with
  |none=>rw[e] at hv;cases hv
  |some c=>rw[e] at hv;exact⟨c,rfl,(bL hv).symm⟩
 obtain⟨c,e,rfl⟩:=hb
 refine getItem_gives (q6 σ.s b t) dd RJ aX9 (aY0 _ _) (gives_bytes_getitem _ i t a c (fG.mpr ⟨decide_eq_true<|Ng h0,decide_eq_true<|Gf h1⟩) ?_) (.tk (.int _ _) k)
 rw[JB h0<|Array.length_toList▸Ls e];exact(s7 ..).symm.trans e
def qP(s:bB)(w:av):Prop:= ∃T id,s.TypeIs w T/\typeLookup (.type T) "__getitem__"=cG (U<|.builtin id)
theorem th{a n:Nat}{h}(e:s.heap.get? a=U (cz h n)):qP s<|.ref a:=⟨"list",_,⟨_,e,rfl⟩,PySem.F.slot_list_getitem.lookup⟩
theorem NU{a n:Nat}{h}(e:s.heap.get? a=U (gS h n)):qP s<|.ref a:=⟨"tuple",_,⟨_,e,rfl⟩,PySem.F.slot_tuple_getitem.lookup⟩
theorem MT{a n:Nat}{h}(e:s.heap.get? a=U (gb h n)):qP s<|.ref a:=⟨"dict",_,⟨_,e,rfl⟩,PySem.F.slot_dict_getitem.lookup⟩
theorem IQ{b}{t}:qP s<|.bytes b t:=⟨"bytes",_,rfl,RJ.lookup⟩
theorem Ov{o j}{w u}(h:gi σ.A K o j)(ra:ax σ.R o w)(ri:ax σ.R j u):qP σ.s w/\aw (M x) Ar (mu w u) (PV ax σ K) N0 σ.s:=
 gi.casesOn h
  (λh0 h1 hv k ra ri=>ra.of λws a n e r=>ri.of λt=>⟨NU<|σ.at e,r.ah hv λw e' p=>PySem.P.getItem_tuple (σ.at e) (Ng h0) (Gf h1) (JB h0<|j8▸Ls e') ((u2 ..).trans e')<|.dc p k⟩)
  (λh0 h1 hv k ra ri=>ra.of λws a n e r=>ri.of λt=>⟨th<|σ.at e,KZ (σ.at e) r h0 h1 hv k⟩)
  (λ{l i v} h0 h1 hv k ra ri=>ra.of λb t e=>ri.of λf=>⟨IQ,ah1 (e▸hv) h0 h1 k⟩)
  (λg h0 h1 hv k ra ri=>ra.of<|ri.of λt=>σ.g6 g λws n e r=>⟨th e,KZ e r h0 h1 hv k⟩)
  (λk ra ri=>ra.of λws a n e r=>ri.of λt=>⟨th<|σ.at e,KT (σ.at e) r k⟩)
  (λg k ra ri=>ra.of<|ri.of λt=>σ.g6 g λws n e r=>⟨th e,KT e r k⟩)
  (λhv k ra ri=>ra.of λc a n e hm nd r=>ri.of λt=>⟨MT<|σ.at e,QX (σ.at e) nd r hv k⟩)
  (λg hv k ra ri=>ra.of<|ri.of λt=>σ.jb g λc n e nd r=>⟨MT e,QX e nd r hv k⟩) ra ri
end
section
variable{σ:St x}{K:V->H->Prop}
noncomputable def FH(e:Expr):Bool:= !bF e.ctorIdx 26
theorem aL0{a}{o i}(h:FH a=aa):RK a ae o i=xv [o,i] (mu o i):=by
 cases a <;>first|rfl|cases h
theorem qP.tail{v a}{w u}{vs}{Q:av->bB->Prop}(h:RK a ae w u=xv vs (mu w u))(z:qP s w)(q:aw (M x) Ar (mu w u) (λr s=>aw (M x) Ar (letTemporaryGo v w r) (λ_ s=>Q r s) N0 s) N0 s):aw (M x) Ar (RL v a w u) Q N0 s:=by
 obtain⟨T,i,hT,hl⟩:=z
 unfold RL
 refine aF ?_
 rw[getitemInPython_of_ne hT.not_modules]
 refine aF (aY1 hT hl<|wpAny_pure<|wpAny_bind ?_)
 rw[h]
 exact Gg (bz q (λ_ _ q=>aF<|wpAny_mono q (λ_ _ q=>bW q) λ_ _=>id) λ_ _=>id)
theorem Ut(hs:FH b=aa)(ev:a3 x Ar (aQ a x.env) f)(ei:a3 x Ar (aQ b x.env) g):a3 x Ar (aQ (.Subscript a b pos) x.env) (λh Q=>f h λv h=>g h λi h=>gi h Q v i):=λσ K h=>
 RM (ev.bind h λτ v w l r k=>ei.map k λυ c j l' r' k=>
  have z:=Ov k (r.aG l'.fl) r'
  z.1.tail (aL0 hs)<|bz (up (λ_ _ _ e=>l' _ _ _<|l _ _ _ e) z.2) (λ_ _ q=>RN q) λ_ _=>id)
theorem aL7{n}(hn:n <gz.length)(hb:xz a (cN n) x.env (aQ a x.env)=aQ a x.env)(ev:a3 x Ar (aQ a x.env) f):a3 x Ar (aQ (.Attribute a (cN n) pos) x.env) (λh Q=>f h λv h=>kj I h Q v n):=λσ K h=>by
 rw[arm_eval_Attribute,hb]
 exact aF (ev.map h λτ v w l r k=>aF<|jn<|aF<|e8<|bz (up l<|Jt hn k r) (λr s q=>aF<|RN<|bW q) λ_ _=>id)
theorem qH{i}(n:Nat)(h:0<=i):Ba n i=min i.toNat n:=by
 have:=clipAt_nat n i.toNat;rwa[Rn h] at this
theorem bX.take{α β}{r}{l:List α}{m:List β}(q:bX r l m): ∀n,bX r (l.take n)<|m.take n:=q.rec (λn=>by rw[RO,RO];exact .nil) λp _ ih n=>match n with
 |0=> .nil
 |n+1=> .cons p (ih n)
theorem bX.drop{α β}{r}{l:List α}{m:List β}(q:bX r l m): ∀n,bX r (l.drop n)<|m.drop n:=q.rec (λn=>by rw[RP,RP];exact .nil) λp q ih n=>match n with
 |0=> .cons p q
 |n+1=>ih n
theorem QG{α}(l:List α)(a b:Nat):cB l a b=(l.drop a).take (b -a):=List.drop_take
theorem U5(b n:Nat)(hb:b<=n):RQ Y (U (b:Int)) 1 (n:Int)=(0,(b:Int)):=by
 unfold RQ
 simp only[(fH.mpr<|dx b),if_false,show¬((1) <0) by decide]
 exact aA (Prod.mk 0) (Int.min_eq_left<|bT.mpr hb)
theorem ar4(b:Nat):G2 0 (b:Int) 1=b:=by
 unfold G2
 simp only[show(1) >0 by decide,if_true,GK]
 split <;>lia
theorem aN6{E}{j}{b n:Nat}{u}{Q}(hs:s.heap.IsSliceOf j .none (.int b u) .none)(hb:b<=n)(h:Q (0,1,b) s):
  aw (M x) Ar (aY2 (.ref j)<|cG (n:Int)) Q E s:=by
 obtain⟨os,a,e,c⟩:=hs
 unfold aY2 iU.Slice.sliceFields
 refine aF (aF<|wpAny_field a c rfl<|wpAny_bind<|wpAny_field a c rfl<|wpAny_bind<|wpAny_field a c rfl<|wpAny_pure<|wpAny_bind<|slicePart_none ?_)
 refine(?_:aw _ _ (if((1)==0)=aa then _ else _) _ _ s)
 rw[aE dd]
 refine aF (slicePart_none<|wpAny_bind<|slicePart_int<|wpAny_bind<|wpAny_pure ?_)
 refine(?_:aw _ _ (match RQ Y (U<|b) 1 (n) with|(lo,hi)=>cG (lo,(1:Int),G2 lo hi 1)) _ _ s)
 rw[U5 b n hb]
 refine(?_:aw _ _ (cG ((0:Int),(1:Int),G2 0 (b) 1)) _ _ s)
 rw[ar4 b]
 exact bW h
theorem UK(ws:List av)(b:Nat):((u3 b).filterMap λ(k:Nat)=>ws.toArray[((0:Int)+(k:Int)*1).toNat]?).toArray=(ws.take b).toArray:=by
 have e:(λ(k:Nat)=>ws.toArray[((0)+(k:Int)*1).toNat]?)=λk=>ws.toArray[0+k]? :=funext λk=>by rw[Int.mul_one,qU,aX6,gM]
 have:=pick_run ws.toArray 0 b
 rw[List.filterMap_map] at this
 rw[e]
 exact aA List.toArray this
theorem Yo{t j n:Nat}{a}{b:Nat}{u}{Q}(e:s.heap.get? t=U (gS a n))(hs:s.heap.IsSliceOf j .none (.int b u) .none)(hb:b <a.length)
  (h:Q (.ref s.heap.objs.size) {s with heap:=s.heap.push<|gS (a.take b) 0}) (hsz:a.length<=jH):aw (M x) Ar (mu (.ref t)<|.ref j) Q N0 s:=by
 have hdrop:=(j8▸ak (List.length_take_le' ..) hsz:(a.take b).toArray.size<=jH)
 obtain⟨os,c,f,g⟩:=id hs
 have ht:IsTup s.heap t a.toArray:=⟨_,e,rfl,_,rfl⟩
 unfold mu
 try with_reducible refine e8 ?_
 first|refine aF (bW ?_)|skip
 refine aF (aY3 ht.typeIs dd ?_)
 refine aF (RR ht.typeIs aY4
  (G3 aY4 ht.typeIs entry_tuple_getitem ?_<|args_tuple_getitem _ _))
 refine(?_:aw _ _ (iU.Tuple.tupleItemsOf (.ref t) >>=_) _ _ s)
 refine aF (tupleItemsOf_ ht<|wpAny_bind<|wpAny_typeOf ⟨os,c,f⟩ ?_)
 rw[aM dd]
 refine aF (aN6 hs (j8▸uV hb) ?_)
 refine(?_:aw _ _ (if((0)==0&&(1)==1&&b==a.toArray.size)=aa then _ else _) _ _ s)
 rw[aE (by rw[show(b==a.toArray.size)=ae from beq_eq_false_iff_ne.mpr<|List.size_toArray▸jI hb];decide),UK]
 first
  |exact aF (u4 (bW ⟨_,rfl,bW h⟩) hdrop)
  |exact aF (u4 (aF<|wpAny_pure<|wpAny_pure ⟨_,rfl,bW h⟩) hdrop)
  |exact aF (aF<|wpAny_newObj_type (bW<|wpAny_pure ⟨_,rfl,bW h⟩) hdrop)
  |exact aF (aF<|wpAny_newObj_type (bW ⟨_,rfl,bW h⟩) hdrop)
theorem bX.iz{α β}{r}{l:List α}{m:List β}(q:bX r l m):bX r l.reverse m.reverse:=q.rec .nil λp _ ih=>by
 rw[pB,pB];exact ih.append (.cons p .nil)
def nV(σ:St x)(Ar:cW)(K:V->H->Prop)(w:av)(a:ai):Prop:=qP σ.s w/\aw (M x) Ar (mu w<|.ref a) (PV ax σ K) N0 σ.s
theorem qN{i}{w}(r:ax R (.int i) w):xA w<|U i:=r.of λt=> .int i t
theorem zx{w}(r:ax R .none w):xA w Y:=r.of .none
section
variable{lo hi:Option Int}
theorem yG{a n:Nat}{l}{h}(e:σ.s.heap.get? a=U (cz h n))(r:aV σ.R l h)(hs:σ.s.heap.IsSliceOf o t p .none)(hl:a_ l.length)(c:xA t lo)(b:xA p hi)
  (e1:lo.elim 0 (Ba l.length)=i) (e2:hi.elim l.length (Ba l.length)=j) (k:K (.fl<|cB l i j) σ.A):nV σ Ar K (.ref a) o:=
 ⟨th e,aY5 ⟨_,e,rfl,_,rfl⟩ hs c b .none (λz=>bR z) (by
  rw[slicePick_plain,show h.toArray.size=l.length from j8.trans r.length,e1,e2]
  rw[QG] at k
  exact St.list (fr:=aa) (Rm.le_refl _) ((r.drop _).take _) k)<|j8▸r.line hl⟩
theorem Nk{c}{t}{l}(e:jP c=l)(hs:σ.s.heap.IsSliceOf a o h .none)(hl:a_ l.length)(f:xA o lo)(b:xA h hi)
  (e1:lo.elim 0 (Ba l.length)=i) (e2:hi.elim l.length (Ba l.length)=j) (k:K (.a8<|cB l i j) σ.A):nV σ Ar K (.bytes c t) a:=by
 subst e
 rw[show(jP c).length=c.size from(bO ..).trans<|s8 ..] at hl e1 e2
 refine⟨IQ,getItem_meets (q6 _ _ _) dd RJ aX9 (aY0 _ _) (KBc.meets_slice2 c t _ f b) ⟨hs,ak (KBc.size_picked_le c _ _)<|jB hl,λg p=> .tk (.a8 _ _) ?_⟩⟩
 rw[KBc.picked_eq,e1,e2]
 rw[QG,<-List.map_drop,<-List.map_take] at k
 exact k
theorem Z3{a n:Nat}{l}{h}{b}{t}(e:σ.s.heap.get? a=U (gS h n))(r:aV σ.R l h)(hs:σ.s.heap.IsSliceOf j .none (.int b t) .none)(hl:a_ l.length)(h0:0<=b)(h1:b <l.length)(k:K (.aj<|l.take b.toNat) σ.A):nV σ Ar K (.ref a) j:=by
 obtain⟨b,rfl⟩:=GS h0
 exact⟨NU e,Yo e hs (r.length▸mo.mp h1) ⟨σ.keep (gS (h.take b) 0) rfl,_,_,σ.dS _,.aj (σ.uc ..)<|aV.aG (r.take b) (σ.dS _).fl,k⟩<|r.line hl⟩
theorem YF{v lo hi}{w}(h:jp σ.A K v lo hi)(hs:σ.s.heap.IsSliceOf j o l .none)(rl:ax σ.R lo o)(ru:ax σ.R hi l)(r:ax σ.R v w):nV σ Ar K w j:=
 jp.casesOn h
  (λhl h0 h1 k rl ru r=>r.of λc t e=>Nk e hs hl (qN rl) (qN ru) (qH _ h0) (qH _ h1) k)
  (λhl h0 k rl ru r=>r.of λws a n e r=>yG (σ.at e) r hs hl (qN rl) (zx ru) (qH _ h0) rfl k)
  (λhl h0 k rl ru r=>r.of λws a n e r=>yG (σ.at e) r hs hl (zx rl) (qN ru) rfl (qH _ h0) k)
  (λhl h0 h1 k rl ru r=>r.of λws a n e r=>yG (σ.at e) r hs hl (qN rl) (qN ru) (qH _ h0) (qH _ h1) k)
  (λg hl h0 k rl ru r=>r.of<|σ.g6 g λws n e r=>yG e r hs hl (qN rl) (zx ru) (qH _ h0) rfl k)
  (λhl h0 k rl ru r=>r.of λc t e=>Nk e hs hl (qN rl) (zx ru) (qH _ h0) rfl k)
  (λhl h0 h1 k rl ru r=>r.of λws a n e r=>rl.of (ru.of λt hs=>Z3 (σ.at e) r hs hl h0 h1 k) hs) rl ru r
theorem Y1{v}{w}{t}(h:oy σ.A K v)(hs:σ.s.heap.IsSliceOf j .none .none<|.int (-1) t)(r:ax σ.R v w):nV σ Ar K w j:=
 have go: ∀{a n:Nat} {l:List V} {ws:List av},σ.s.heap.get? a=U (cz ws n)->aV σ.R l ws->a_ l.length->K (.fl l.reverse) σ.A->nV σ Ar K (.ref a) j:=λe r hl k=>
  ⟨th e,aY5 ⟨_,e,rfl,_,rfl⟩ hs .none .none (.int (-1) t) (λz=>nomatch z) (by rw[krv_pick];exact St.list (fr:=aa) (Rm.le_refl _) r.iz k)<|j8▸r.line hl⟩
 oy.casesOn h (λhl k r=>r.of λws a n e r=>go (σ.at e) r hl k) (λg hl k r=>r.of<|σ.g6 g λws n e r=>go e r hl k) r
end
def St.pe(σ:St x)(o:Obj):St x:=σ.to σ.R σ.A (σ.s.heap.push o) σ.s.toks (σ.bh.k9 λ_ _=>eB _) (Rm.le_refl _)
theorem aL9:a3 x Ar (G4 Y x.env) (λh Q=>Q .none h):=λ_ _ h=>bW (.dc .none h)
theorem nV.tail{τ:St x}{w}{p}{t u j}{o}{vs}(h:RK (.Slice t u j p) ae w (.ref τ.s.heap.objs.size)=xv vs (mu w<|.ref τ.s.heap.objs.size))(l:σ.le τ)(z:nV (τ.pe o) Ar K w τ.s.heap.objs.size):
  aw (M x) Ar (RL a (.Slice t u j p) w<|.ref τ.s.heap.objs.size) (PV ax σ K) N0 (τ.pe o).s:=
 z.1.tail h (bz (up l z.2) (λ_ _ q=>RN q) λ_ _=>id)
theorem aj5{o j}{p}(ev:a3 x Ar (aQ a x.env) f)(el:a3 x Ar (G4 o x.env) g)(b:a3 x Ar (G4 j x.env) k):
  a3 x Ar (aQ (.Subscript a (.Slice o j Y p) pos) x.env) (λh Q=>f h λv h=>g h λl h=>k h λu h=>jp h Q v l u):=λσ K h=>by
 refine RM (ev.bind h λτ v w l1 r1 k=>wpAny_Slice<|el.bind k λυ c w2 l2 r2 k=>b.map k λφ i w3 l3 r3 k=> ?_)
 rw[aY6]
 exact bW (nV.tail rfl (λ_ _ _ e=>l3 _ _ _<|l2 _ _ _<|l1 _ _ _ e)<|YF k (aY7 ..) (r2.aG l3.fl) r3<|r1.aG λ_ _ e=>l3 _ _ _<|l2 _ _ _ e)
theorem X6{j}{p}(ev:a3 x Ar (aQ a x.env) f)(es:a3 x Ar (aQ j x.env) λh Q=>Q (.int (-1)) h):
  a3 x Ar (aQ (.Subscript a (.Slice Y Y (U j) p) pos) x.env) (λh Q=>f h λv h=>oy h Q v):=λσ K h=>by
 refine RM (ev.bind h λτ v w l1 r1 k=>wpAny_Slice ?_)
 rw[aY6,evalPart_some]
 refine bW (bW<|es.map (J:=λi h=>i= .int (-1)/\oy h K v) ⟨rfl,k⟩ λυ b w2 l2 r2 k=> ?_)
 obtain⟨rfl,k⟩:=k
 exact r2.of λt=>nV.tail rfl (λ_ _ _ e=>l2 _ _ _<|l1 _ _ _ e) (Y1 k (aY7 ..)<|r1.aG l2.fl)
end
section
variable{σ:St x}{Ar:cW}{K:V->H->Prop}{R:Rm}{s:bB}
abbrev Kv(R:Rm):List (Int×V)->List (Int×av)->Prop:=bX λd p=>p.1=d.1/\ax R d.2 p.2
theorem Kv.of(r:dD R ds h):Kv R ds<|kv ds h:=r.rec .nil λ{a b _ _} p _ q=> .cons ⟨rfl,p⟩ q
theorem aJ2{k:Int}{v:av}(h:A9 k v=aa): ∃t,v= .int k t:=by
 cases v
 case int=>exact⟨_,aA (s9 · _)<|eq_of_beq h⟩
 all_goals exact fE h
theorem bX.unc{α β:Type}{r:α->β->Prop}{b m}{l:List α}(h:bX r l<|b::m): ∃a as,l=a::as/\r a b/\bX r as m:=by
 cases h
 exact⟨_,_,rfl,a_1,a_2⟩
theorem X7{e:jj}{a b c}(h:e.hash=a)(k:e.key=b)(v:e.val=c):e=⟨a,b,c⟩:=by
 cases e
 exact h▸k▸v▸rfl
theorem aF1(p:aW8 (ik x) j a): ∀ds,Kv R ds a->(∀e∈j,∃k,(ik x).is k e.key=aa/\e.hash=(ik x).hash k)-> ∃b,j=fY ds b/\dD R ds b:=
 p.rec (λds r _=>by cases r;exact⟨[],rfl,.nil⟩) λ{e kv j a} hk hv _ ih ds r ha=>r.unc.elim λd w=>w.elim λds w=>(ih ds w.2.2 λe he=>ha e<|.tail _ he).elim λb q=>(aJ2 hk).elim λt e2=>(ha _<|.head _).elim λc h1=>
  ⟨(t,kv.2)::b,by
   have h:=h1.1
   rw[e2] at h
   rw[w.1,q.1,X7 h1.2 e2 hv,<-c_ h,w.2.1.1]
   rfl,w.1▸ .cons w.2.1.2 q.2⟩
theorem En{h:cu}(d:h.DictOf (ik x) a j)(r:Kv R ds j): ∃b n,h.get? a=U (gb (fY ds b) n)/\dD R ds b:=by
 obtain⟨⟨oc,od,odt,os⟩,es,ep,h1,⟨e1,e2,e3⟩,h2,h3,h4,h5⟩:=d
 cases e1;cases e2;cases e3;cases h2
 exact(aF1 h4 _ r λe he=>h3 e<|Array.mem_toList_iff.mp he).elim λb z=>⟨b,ep,by rw[h1,<-z.1],z.2⟩
theorem Kv.dJ(r:Kv R ds h):h.map (·.1)=c6.dJ ds:=r.rec rfl λ{a b _ _} p _ q=>by show b.1::_=a.1::_;rw[p.1,q];rfl
theorem aq9 p r(k:Int) w(nd:p.1∉r.map (·.1)):G5 (p::r) k w=if p.1=k then(p.1,w)::r else p::G5 r k w:=by
 unfold G5
 rw[List.any_cons,kO]
 refine if e:p.1=k then ?_ else ?_
 ·rw[aM e,aM e,decide_eq_true e,Bool.true_or,aM rfl]
  refine aA _ ((aY8 λq a=> ?_).trans<|List.map_id _)
  exact aE λz:q.1=k=>nd (e.trans z.symm▸List.mem_map_of_mem a)
 ·rw[aE e,aE e,decide_eq_false e,Bool.false_or]
  split <;>rfl
theorem Kv.bx(r:Kv R ds h)(rv:ax R v w):(c6.dJ ds).Nodup->Kv R (eX ds k v) (G5 h k w):=
 r.rec (λ_=> .cons ⟨rfl,rv⟩ .nil) λ{a b l m} p q ih nd=>by
  have nd:=lI.mp nd
  rw[aq9 b m k w<|by rw[p.1,Kv.dJ q];exact nd.1]
  show Kv R (if a.1=k then(a.1,v)::l else a::eX l k v) _
  refine if e:a.1=k then ?_ else ?_
  ·rw[aM e,aM<|p.1.trans e];exact .cons ⟨p.1,rv⟩ q
  ·rw[aE e,aE λz=>e<|p.1.symm.trans z];exact .cons p (ih nd.2)
theorem Jr: ∀(ds:List<|Int×V) (k:Int) (v:V),dJ (eX ds k v)=if k∈dJ ds then dJ ds else dJ ds++[k]
 |[],_,_=>rfl
 |d::ds,k,v=>by
  show dJ (if d.1=k then(d.1,v)::ds else d::eX ds k v)=_
  refine if e:d.1=k then ?_ else ?_
  ·rw[aM e,aM<|e▸ .head _];rfl
  ·rw[aE e]
   show d.1::dJ (eX ds k v)=_
   rw[Jr ds k v]
   refine if m:k∈dJ ds then ?_ else ?_
   ·rw[aM m,aM<|.tail _ m];rfl
   ·rw[aE m];exact(aE λq=>(bC.mp q).elim (λz=>e z.symm) m).symm
theorem yt(nd:(dJ ds).Nodup) k v:(dJ<|eX ds k v).Nodup:=by
 rw[Jr]
 refine if m:k∈dJ ds then ?_ else ?_
 ·rw[aM m];exact nd
 ·rw[aE m];exact A0.mpr ⟨nd,lI.mpr ⟨λh=>(dB h),.nil⟩,λa ha b hb e=>m<|b_.mp hb▸e▸ha⟩
theorem dD.len(r:dD R ds a):(kv ds a).length=ds.length:=r.rec rfl λ_ _=>aA (· +1)
theorem Yh{K}(h:σ.A a=U (.dict ds))(hl:a_ ds.length)(rv:ax σ.R v w)(k:K<|σ.A.cr a<|.dict<|eX ds i v):aw (M x) Ar (xB (.ref a) (.int i t) w) (λ_=>PN σ K) N0 σ.s:=
 σ.jb h λg n e nd rd=>wpAny_setItem_pairs (mw i t) (rZ e nd rd) (λh' f b=>(En f<|(Kv.of rd).bx rv nd).elim λc z=>z.elim λj z=>⟨σ.cr _ h b<|.dict z.1 (yt nd i v) z.2,Rm.le_refl _,k⟩) (rd.len▸jB hl)
theorem EZ(σ:St x):(σ.s.heap.objs.size==kP)=ae:=beq_eq_false_iff_ne.mpr λe=>RS _ (e▸g_ (σ.jc x.T.nm))
theorem Y0 fr:a3 x Ar (aQ (.Dict [] [] pos) x.env) (λh Q=>ww fr [] h Q):=λσ K h=>wpAny_Dict_empty (match fr,h with
 |aa,h=>⟨σ.keep (gb (fY [] []) 0) rfl,V.fd [],_,σ.dS _,.fd (σ.uc ..) (EZ σ) .nil .nil,h⟩
 |ae,h=>⟨σ.abs (gb [] 0) (.dict [])<|.dict (hg _ rfl) .nil .nil,.ref _,_,σ.dS _,.ref _,h _ σ.Aa⟩)
def St.seal(σ:St x){h:cu}(t:Nat)(e:h.get? σ.s.heap.objs.size=U o)(b: ∀a o,σ.s.heap.get? a=U o->h.get? a=U o):St x:=
 σ.to (σ.R.bx σ.s.heap.objs.size<|.kp .fr o) σ.A h t (σ.bh.mG _ e (λb' o _=>b b' o) σ.Aa (λ_ z=>bH <|σ.new.symm.trans z) λ_ z=>bH <|σ.new.symm.trans z) (σ.dS _)
theorem VM(h1:ah x.ns a=U t)(h2:ah x.ns b=U p)(d1:(t==("__debug__":Str))=ae)(c1:(t==("__classdict__":Str))=ae)(y:(p==("__debug__":Str))=ae)(D:(p==("__classdict__":Str))=ae):
  a3 x Ar (aQ (.Dict [U<|.Constant (.int j) k W,U<|.Constant (.int l) k' p2] [.Name t p3,.Name p X] pos) x.env) (λh Q=>gj x.ρ a λc=>gj x.ρ b λf=>ww aa (eX (eX [] j c) l f) h Q):=λσ K h=>
 rp h λc ha h=>rp h λf hb h=>
 wpAny_Dict_walk rfl rfl (λz=>Ah z) (by show 2<=15;decide) (aY9 (Rs (((σ.pe<|gb [] 0).kF<|σ.s.toks+1).Ed h1 d1 c1 ha λg ra u=>u _ (aY9 (Rs
  (((σ.pe<|gb [] 0).kF<|σ.s.toks+1+1).Ed h2 y D hb λi rb w=>w _ (pairTrees_nil_walk ⟨[(j,g),(l,i)],⟨mw _ σ.s.toks,rfl,mw _<|σ.s.toks+1,rfl,tI⟩,cu.DictOf.new _,λh' A bb=>by
   have kv:Kv σ.R (eX (eX [] j c) l f)<|merged [] [(j,g),(l,i)]:=((Kv.bx .nil ra .nil).bx rb<|yt (ds:=[]) .nil j c)
   obtain⟨J,n,e,rd⟩:=En A kv
   exact⟨σ.seal _ e λb' o q=>(bb.2 b'<|Nat.ne_of_lt<|Heap.lt_size q).trans<|Heap.get?_push_of_some _ q,_,_,σ.dS _,.fd (Rm.cO ..) (EZ σ) (yt (yt (ds:=[]) .nil j c) l f)<|rd.aG (σ.dS _).fl,h⟩⟩)))))))
end
section
variable{σ:St x}{K:V->H->Prop}{R:Rm}
theorem Rm.tY{a}{r}(h: ∀b o,¬R.kp b a o):R.le<|R.bx a r:=λb c o z=>(Rm.cV λy=>h c o<|(aA (λb=>R.kp c b o) y).mp z).trans z
theorem St.sj(σ:St x){a}{p}(e:σ.A a=U p): ∀b o,¬σ.R.kp b a o:=λ_ _ z=>bH <|(σ.bh.ob _ _ e).1.symm.trans z
def St.gu(σ:St x){a}{p}{o}(q:σ.A a=U p)(e:σ.s.heap.get? a=U o):St x:=
 σ.to (σ.R.bx a<|.kp .fr o) (σ.A.lu a) σ.s.heap σ.s.toks ((σ.bh.pr<|H.Fp _ a).mG a e (λ_ _ _=>id) (H.Ej ..) (λo=>σ.sj q .fr o) λ_ z=>bH <|(σ.bh.ob _ _ q).1.symm.trans z) (Rm.tY<|σ.sj q)
theorem St.I5(σ:St x){a d}{p}(q:σ.A a=U p)(e:σ.R d=U (.dict a)):d≠a:=λz=>bH <|(σ.bh.ob _ _ q).1.symm.trans ((aA σ.R z).symm.trans e)
theorem St.Gy(σ:St x){a d}{p}{o od}(q:σ.A a=U p)(e:σ.R d=U (.dict a)):σ.R.le<|(σ.R.bx a<|.kp .fr o).bx d<|.kp .fr od:=λb c o z=>
 (Rm.cV λy=>bH <|e.symm.trans<|(aA (λb=>σ.R.kp c b o) y).mp z).trans (Rm.tY (σ.sj q) b c o z)
def St.Yg(σ:St x){a d}{p}{o od}(q:σ.A a=U p)(e:σ.s.heap.get? a=U o)(dd:σ.R d=U (.dict a))(ed:σ.s.heap.get? d=U od):St x:=
 have n:=σ.I5 q dd
 have dd':σ.R.bx a (.kp .fr o) d=U (.dict a):=(Rm.cV n).trans dd
 σ.to ((σ.R.bx a<|.kp .fr o).bx d<|.kp .fr od) (σ.A.lu a) σ.s.heap σ.s.toks ((σ.gu q e).bh.mG d ed (λ_ _ _=>id) ((σ.gu q e).bh.kB λz=>bH <|dd'.symm.trans z) (λ_ z=>bH <|dd'.symm.trans z) λb z=>by cases dd'.symm.trans z;exact H.Ej ..) (σ.Gy q dd)
theorem zm{a}{G:Prop}(h:nU σ.A K a)(k: ∀(τ:St x) v,τ.s=σ.s->σ.le τ->ax τ.R v (.ref a)->K v τ.A->G):G:=
 h.casesOn (λq z=>σ.g6 q λws n e r=>k (σ.gu q e) _ rfl (Rm.tY<|σ.sj q) (.fl (Rm.cO ..)<|r.aG (Rm.tY<|σ.sj q).fl) z)
  (λq z=>σ.jb q λb n e nd r=>k (σ.gu q e) _ rfl (Rm.tY<|σ.sj q) (.fd (Rm.cO ..) (σ.sd q) nd<|r.aG (Rm.tY<|σ.sj q).fl) z)
  λq z=>(σ.bh.ob _ _ q).2.of λd o e ed e' F=>k (σ.Yg q e ed e') _ rfl (σ.Gy q ed) (.fz ((Rm.cV (σ.I5 q ed).symm).trans<|Rm.cO ..) (Rm.cO ..)<|F.aG (σ.Gy q ed).fl) z
theorem Df: ∀{vs:List V} {j:List av} {σ:St x} {K:List V->H->Prop} {G:Prop},aV σ.R vs j->pQ vs σ.A K->(∀(τ:St x) us,τ.s=σ.s->σ.le τ->aV τ.R us j->K us τ.A->G)->G
 |[],_,σ,K,G,r,h,k=>r.none (P:=λj=>(∀(τ) us,τ.s=σ.s->σ.le τ->aV τ.R us j->K us τ.A->G)->G) (λk=>k σ [] rfl (Rm.le_refl _) .nil h) k
 |v::vs,_,σ,K,G,r,h,k=>r.of (P:=λj=>(∀(τ) us,τ.s=σ.s->σ.le τ->aV τ.R us j->K us τ.A->G)->G) (λw j p rs k=>by
  have plain:=λh=>Df rs h λτ us e l q z=>k τ (v::us) e l (.cons (p.aG l.fl) q) z
  cases v with
  |ref a=>exact p.of (P:=λw=>(∀(τ) us,τ.s=σ.s->σ.le τ->aV τ.R us (w::j)->K us τ.A->G)->G) (λk=>zm h λτ v e l q z=>Df (aV.aG rs l.fl) z λυ us e' l' b z=>k υ (v::us) (e'.trans e) (λ_ _ _ y=>l' _ _ _<|l _ _ _ y) (.cons (q.aG l'.fl) b) z) k
  |_=>exact plain h) k
theorem X5{v}{w}{G:Prop}(h:qx σ.A K v)(r:ax σ.R v w)(k: ∀(τ:St x) v,τ.s=σ.s->σ.le τ->ax τ.R v w->K v τ.A->G):G:=
 qx.casesOn h (λh r=>r.of (zm h) k)
  (λh r=>r.of (P:=λw=>(∀(τ) v,τ.s=σ.s->σ.le τ->ax τ.R v w->K v τ.A->G)->G) (λws a n e r k=>Df r h λτ us e' l q z=>k τ _ e' l (.aj (l _ _ _ e) q) z) k) r
theorem PV.at{α β}{a}{J}{τ:St x}{v:β}{w:α}{s}(e:τ.s=s)(l:σ.le τ)(r:a τ.R v w)(k:J v τ.A):PV a σ J w s:=e▸⟨τ,v,w,l,r,k⟩
theorem Ub{m}{f}(ev:a3 x Ar m f):a3 x Ar m (λh Q=>f h λv h=>qx h Q v):=λσ K h=>
 ev.map h λτ v w l r k=>X5 k r λυ u e l' r' k=> .at e (λ_ _ _ y=>l' _ _ _<|l _ _ _ y) r' k
inductive nR (R:Rm):Fl->sS->Prop
 |next:nR R .next .next
 |brk:nR R .brk .brk
 |cont:nR R .cont .cont
 |ret {v:V} {w:av}:ax R v w->nR R (.ret v) (.ret w)
inductive PS {x:Cx} (σ:St x) (Q:Fl->L->H->Prop) (fl:sS):bB->Prop
 |mk (ρ:L) (τ:St<|x.at ρ) (v:Fl):σ.lo τ->nR τ.R v fl->Q v ρ τ.A->PS σ Q fl τ.s
def dj(x:Cx)(Ar:cW)(m:Sem sS)(f:L->H->(Fl->L->H->Prop)->Prop):Prop:=
 ∀ρ (σ:St<|x.at ρ) (Q),f ρ σ.A Q->aw (M x) Ar m (PS σ Q) N0 σ.s
end
theorem Bt{M}{E}{Q} [Decidable c] {a b:Sem α}(h: ¬c)(k:aw M A b Q E s):aw M A (if c then a else b) Q E s:=(aE h).symm▸k
noncomputable def jU:List (Str×av)->List (Str×av)->List (Str×av)
 |[],acc=>acc
 |(n,d)::r,acc=>jU r (if(acc.lookup n).isNone then acc++[(n,d)] else acc)
theorem Ib: ∀(a b acc:List<|Str×av),jU (a++b) acc=jU b (jU a acc)
 |[],_,_=>rfl
 |(n,d)::a,b,acc=>by
  show jU (a++b) _=_
  rw[Ib a b];rfl
theorem KN: ∀(l acc:List<|Str×av),(∀p∈l,(acc.lookup p.1).isSome=aa)->jU l acc=acc
 |[],_,_=>rfl
 |(n,d)::l,acc,h=>by
  have h1:=h (n,d) xj
  show jU l (if(acc.lookup n).isNone then acc++[(n,d)] else acc)=acc
  rw[aE<|by rw[aZ0];intro e;rw[e] at h1;cases h1]
  exact KN l acc λp hp=>h p (GE _ hp)
theorem Wn(a b:List<|Str×av) n:(a++b).lookup n=((a.lookup n).or<|b.lookup n):=by
 induction a with
 |nil=>simp
 |cons p a ih=>
  obtain⟨k,v⟩:=p
  rw[Rh,pJ,pJ,ih]
  cases n==k <;>simp
theorem KQ: ∀(R:List Str) ds (acc:List<|Str×av),R.Nodup->(∀n∈R,acc.lookup n=Y)->jU (R.zip ds) acc=acc++R.zip ds
 |[],_,acc,_,_=>(c9 acc).symm
 |_::_,[],acc,_,_=>(c9 acc).symm
 |n::R,d::ds,acc,nd,h=>by
  rw[lI] at nd
  rw[G6]
  show jU (R.zip ds) (if(acc.lookup n).isNone then acc++[(n,d)] else acc)=_
  rw[aM (by rw[h n xj];rfl),KQ R ds _ nd.2 λm hm=> ?_]
  ·simp
  ·rw[Wn,h m<|GE _ hm]
   have:(m==n)=ae:=beq_eq_false_iff_ne.mpr λe=>nd.1 (e▸hm)
   simp[pJ,this]
theorem Gj: ∀(P:List Str) (vs:List av) n,n∈P.take vs.length->((P.zip vs).lookup n).isSome=aa
 |[],_,_,h=>by simp at h
 |_::_,[],_,h=>by simp at h
 |p::P,v::vs,n,h=>by
  rw[G6,pJ]
  cases e:n==p with
  |true=>rfl
  |false=>
   have:n∈P.take vs.length:=by
    rw[eU,List.take_succ_cons] at h
    rcases bC.mp h with h|h
    ·subst h;simp at e
    ·exact h
   exact Gj P vs n this
theorem Op: ∀(P:List Str) (vs:List av) n,n∉P->(P.zip vs).lookup n=Y
 |[],_,_,_=>by simp
 |_::_,[],_,_=>by simp
 |p::P,v::vs,n,h=>by
  rw[bC,not_or] at h
  rw[G6,pJ,show(n==p)=ae from beq_eq_false_iff_ne.mpr h.1]
  exact Op P vs n h.2
theorem HQ{α β:Type}{f g:α->Option β}: ∀{l:List α},(∀a∈l,f a=g a)->l.filterMap f=l.filterMap g
 |[],_=>rfl
 |a::l,h=>by rw[RT,RT,h a xj,HQ λb hb=>h b<|GE _ hb]
theorem Mj: ∀(P:List Str) (ws:List av),P.Nodup->ws.length=P.length->P.filterMap (λn=>((P.zip ws).lookup n).map (n, ·))=P.zip ws
 |[],_,_,_=>rfl
 |p::P,[],_,h=>by cases h
 |p::P,w::ws,nd,h=>by
  rw[lI] at nd
  rw[RT,G6,pJ]
  simp only[beq_self_eq_true,Option.map_some]
  congr 1
  have e: ∀n∈P,((p,w)::P.zip ws).lookup n=(P.zip ws).lookup n:=λn hn=>by
   rw[pJ,show(n==p)=ae from beq_eq_false_iff_ne.mpr λe=>nd.1<|e▸hn]
  have:=Mj P ws nd.2 (pH h)
  exact Eq.trans (HQ λn hn=>by rw[e n hn]) this
theorem CY(f:Str×av->List (Str×av)->Sem (ForInStep<|List<|Str×av))(hf: ∀n d acc,f (n,d) acc=if(acc.lookup n).isNone then cG (.yield<|acc++[(n,d)]) else cG<|.yield acc):
  ∀(l acc:List<|Str×av),forIn l acc f=cG (jU l acc)
 |[],acc=>by rw[List.forIn_nil];rfl
 |(n,d)::l,acc=>by
  rw[aZ1,hf]
  show _=cG (jU l (if(acc.lookup n).isNone then acc++[(n,d)] else acc))
  split
  ·rw[pure_bind];exact CY f hf l _
  ·rw[pure_bind];exact CY f hf l _
noncomputable def rU(names:List Str)(vals dv:List av):List<|Str×av:=names.zip (vals++dv.drop (dv.length -(names.length -vals.length)))
theorem aQ2{P S R:List Str}(h1:P.length=vs.length)(h2:S.length=D1.length)(hn:(P++R).Nodup)(hs: ∀n∈S,n∈P):jU ((S++R).zip<|D1++D2) ((P++R).zip vs)=(P++R).zip (vs++D2):=by
 have e:(P++R).zip vs=P.zip vs:=by rw[<-c9 vs,RU h1,c9,List.zip_nil_right,c9]
 rw[e,RU h2,Ib,RU h1,KN _ _ λp hp=>Gj _ _ _<|by rw[<-h1,RV];exact hs _ (RW (show(p.1,p.2)∈_ from hp)).1]
 exact KQ _ _ _ (A0.mp hn).2.1 λn hm=>Op _ _ _ λhp=>(A0.mp hn).2.2 n hp n hm rfl
theorem ab2 names vals dv(hn:names.Nodup)(h1:vals.length<=names.length)(h2:names.length<=vals.length+dv.length)(h3:dv.length<=names.length):
  jU ((names.drop<|names.length -dv.length).zip dv) (names.zip vals)=rU names vals dv:=by
 have hk:names.length -dv.length<=(names.take vals.length).length:=by rw[Bb h1];exact aZ2 h2
 have a:=aZ3 vals.length names
 have:=aQ2 (D1:=dv.take<|dv.length -(names.length -vals.length)) (D2:=dv.drop<|dv.length -(names.length -vals.length))
  (Bb h1) (by rw[RX,Bb h1,Bb<|Nat.sub_le ..,aZ4 _ h3,aZ4 _ h1,c5]) (by rw[a];exact hn) λn h=>aU3 h
 rwa[<-List.drop_append_of_le_length hk,a,aZ3] at this
noncomputable abbrev lC(as:List Arg):List Str:=as.map λa=>a.arg
inductive vr (p:Arguments) (names:List Str):Prop
 |mk (as:List Arg) (kd:List<|Option Expr) (df:List Expr):p=⟨[],as,Y,[],kd,Y,df⟩->lC as=names->vr p names
theorem QS(c:vr l.params a)(hn:a.Nodup)(h1:h.length<=a.length)(h2:a.length<=h.length+j.length)(h3:j.length<=a.length)
  (hd: ∀M A E Q,(∀d,(d.getD #[]).toList=j->Q d s)->aw M A (seqItems? l.defaults) Q E s):
  BindsTo s l ⟨h,[]⟩<|rU a h j:=λM A E Q b=>by
 cases l with|mk fn fq fp fb fs fg fc fdf fk fdoc fm fa fcode fct fbl=> ?_
 cases c with|mk as kd df e0 e1=> ?_
 cases e0;subst e1
 have hk:=aZ2 h2
 delta bindArgs
 refine aF (bW<|wpAny_bind<|hd M A E _ λd e=>Bt (λz=>Rp.mpr h1<|of_decide_eq_true (fG.mp z).1)<|Bt ?_<|wpAny_bind<|wpAny_of_eq (CY _ (λn d acc=>rfl) _ _)<|wpAny_bind<|wpAny_pure<|Bt A7<|wpAny_pure ?_)
 ·refine(?_: ¬(!(List.filter (λn=>(G7 n<|(lC as).zip h).isNone)<|(lC as).take<|(lC as).length -((d.getD #[]).toList.drop<|(d.getD #[]).toList.length -(lC as).length).length).isEmpty)=aa)
  rw[e,aZ5 h3,aZ6,List.filter_eq_nil_iff.mpr λn hm=>by
   rw[Bool.not_eq_true,Option.isNone_eq_false_iff];exact Gj _ h n<|List.take_subset_take_left _ hk hm]
  exact A7
 ·refine(?_:Q (((lC as)++[]).filterMap λn=>((jU ((aR6 ((lC as).length -((d.getD #[]).toList.drop<|(d.getD #[]).toList.length -(lC as).length).length)<|lC as).zip<|(d.getD #[]).toList.drop<|(d.getD #[]).toList.length -(lC as).length)<|(lC as).zip h).lookup n).map (n, ·)) s)
  rw[e,aZ5 h3,aZ6,ab2 _ h j hn h1 h2 h3,c9,rU,Mj _ _ hn<|by rw[aC,RX,aZ7<|Nat.sub_le_iff_le_add'.mpr h2,RY h1]]
  exact b
theorem FL: ∀(names:List<|Str×n_) (n:Nat) (acc:List<|Str×ai) (x:Str),((x,aZ8)∈names\/ ∃c,(x,c)∈acc)-> ∃c,(x,c)∈Bc n names acc
 |[],_,_,_,h=>h.elim (λh=>dB h) id
 |(y,k)::r,n,acc,x,h=>by
  unfold Bc
  cases e:k== .cell with
  |true=>exact FL r (n+1) _ x (h.elim (λh=>(bC.mp h).elim (λz=> .inr ⟨n,by cases z;exact .head _⟩) .inl) λh=> .inr<|h.imp λ_=> .tail _)
  |false=>exact FL r n acc x (h.imp (λh=>(bC.mp h).elim (λz=>by cases z;cases e) id) id)
theorem Ig{α:Type}{l:List<|Str×α}{n:Str}{c:α}(h:(n,c)∈l):(l.lookup n).isSome=aa:=by
 induction l with
 |nil=>exact dB h
 |cons p r ih=>
  rw[pJ]
  cases e:n==p.1 with
  |true=>rfl
  |false=>exact(bC.mp h).elim (λz=>by rw[<-z,beq_self_eq_true] at e;exact j4 e) ih
theorem IF(h:a.lookup x=U .cell): ∃c,(Bc n a []).lookup x=U c:=
 (FL a n [] x<|.inl<|mem_of_lookup h).elim λ_ z=>u5.mp (Ig z)
section
variable{F:List (Str×av)->(Str->Option av)->Str->Option av}{S:Str->av->(Str->Option av)->Str->Option av}(h0: ∀m,F [] m=m)(h1: ∀k v r m,F ((k,v)::r) m=F r (S k v m))(h2: ∀k v m n,n≠k->S k v m n=m n)
include h0 h1 h2
theorem Oe: ∀(b:List<|Str×av) (m:Str->Option av) (n:Str),n∉b.map (·.1)->F b m n=m n
 |[],_,_,_=>congrFun (h0 _) _
 |(k,v)::b,m,n,h=>(congrFun (h1 ..) n).trans ((Oe b _ n λz=>h<|.tail _ z).trans<|h2 _ _ _ _ λz=>h<|z▸ .head _)
theorem Gu(hs: ∀m,S n u m n=U u): ∀names us m i,names.Nodup->ah names i=U n->ah us i=U u->F (names.zip us) m n=U u
 |[],_,_,_,_,h,_=>bR h
 |_::_,[],_,_,_,_,h=>bR h
 |k::names,v::us,m,0,nd,e1,e2=>by
  have e1:=bL e1
  have e2:=bL e2
  subst e1 e2
  refine(congrFun (h1 ..) _).trans ((Oe h0 h1 h2 _ _ _ λhm=> ?_).trans<|hs m)
  obtain⟨⟨a,b⟩,h3,h4⟩:=AX.mp hm
  exact(lI.mp nd).1 (h4▸(RW h3).1)
 |k::names,v::us,m,i+1,nd,e1,e2=>(congrFun (h1 ..) n).trans (Gu hs names us _ i (lI.mp nd).2 e1 e2)
end
theorem DV(nd:a.Nodup)(e1:ah a i=U n)(e2:ah us i=U u)(hk:h n=U .local):bindL h (a.zip us) (λ_=>Y) n=U u:=
 Gu (λ_=>rfl) (λ_ _ _ _=>rfl) (λk v m n q=>by split;exact aE q;rfl) (λm=>by rw[aM hk];exact aM rfl) a us _ i nd e1 e2
theorem aj8(nd:a.Nodup)(e1:ah a i=U n)(e2:ah us i=U u)(hk:h n=U .cell):bindC h (a.zip us) (λ_=>Y) n=U u:=
 Gu (λ_=>rfl) (λ_ _ _ _=>rfl) (λk v m n q=>by split;rfl;exact aE q) (λm=>by rw[aE<|by rw[hk];decide];exact aM rfl) a us _ i nd e1 e2
theorem N8: ∀(l:List α) k i,i <k->ah (l.take k) i=ah l i
 |[],k,i,_=>by rw[RO]
 |a::l,k+1,0,_=>rfl
 |a::l,k+1,i+1,h=>N8 l k i (xk h)
theorem NM: ∀k i v,ah (gp k (Y:Option V)) i≠U (U v)
 |0,_,_,h=>bR h
 |_+1,0,_,h=>nomatch h
 |k+1,i+1,v,h=>NM k i v h
theorem Ps: ∀us k i v,ah (us.map U++gp k (Y:Option V)) i=U (U v)->ah us i=U v
 |[],k,i,v,h=>absurd h (NM k i v)
 |u::us,k,0,v,h=>bL h
 |u::us,k,i+1,v,h=>Ps us k i v h
structure Ck(T:qQ)(f:Nat)(fn:Fn) where
 fd:FuncData
 o:Obj
 at_:T.B.get? (bQ f)=U o
 data:o.data= .func fd
 gF:fd.globals=uN
 blt:fd.builtins=A2
 si:fd.closure=[]
 mY:List cj
 FN:fd.body= .stmts mY
 co:fd.scope.isCoroutine=ae
 jx:fd.scope.isGenerator=ae
 kind:fd.scope.kind= .function
 code:T.B.CodeRec fd.code fd.qualname
 ns:List Str
 nd:ns.Nodup
 len:ns.length=fn.nl
 np:fn.np<=fn.nl
 D9:vr fd.params (ns.take fn.np)
 dv:List av
 Hu:aV (Rm.of T.B) fn.gU dv
 dle:fn.gU.length<=fn.np
 gU:(fd.defaults= .none/\dv=[])\/ ∃t od n,fd.defaults= .ref t/\T.B.get? t=U od/\od.data= .seq dv.toArray n
 KR: ∀n∈ns,fd.scope.names.lookup n=U .local\/fd.scope.names.lookup n=U .cell
noncomputable def Rm.ext(R:Rm)(n:Nat)(h:cu):Rm:=λa=>if a <n then R a else(h.get? a).map (.kp .own)
theorem Rm.DW{R:Rm}(e:a <n):R.ext n h a=R a:=aM e
theorem Rm.Jk{R:Rm}{n a}(e:n<=a)(q:h.get? a=U o):(R.ext n h).kp .own a o:=(aE<|Rp.mpr e).trans (aA _ q)
theorem c4.ext(s:c4 R A h)(k: ∀a o,h.get? a=U o->h'.get? a=U o):c4 (R.ext h.objs.size h') A h':=
 ⟨λa b o e=>if q:a <h.objs.size then k a o (s.kp a b o<|(Rm.DW q).symm.trans e) else by
   unfold Rm.kp Rm.ext at e;rw[aE q] at e
   cases z:h'.get? a with
   |none=>rw[z] at e;cases e
   |some p=>rw[z] at e;cases e;rfl,
  λa o e=>have p:=s.ob a o e
   have old: ∀{b r},R b=U r->R.ext h.objs.size h' b=U r:=λz=>(Rm.DW<|s.lt λy=>gI <|z.symm.trans y).trans z
   ⟨old p.1,p.2.keep (λ_ _ z=>old z) (λp=>k _ p) λd p dd e=>⟨k _ _ e,old dd⟩⟩,
  λa e=>by
   unfold Rm.ext;rw[s.no a<|fV (k a) e,e];exact ite_self _⟩
theorem c4.TG(s:c4 R A h):R.le<|R.ext h.objs.size h':=λa b o e=>(Rm.DW<|s.lt λy=>bH <|e.symm.trans y).trans e
section
variable{x:Cx}{σ:St x}{Ar:cW}{K:V->H->Prop}
noncomputable def CT(σ:St x)(K:V->H->Prop)(r:u6)(s:bB):Prop:=match r with
 |.ok (.ret v)=>PV ax σ K v s
 |_=>False
@[elab_as_elim] theorem CT.of{P:u6->Prop}{r}{s}(q:CT σ K r s)(k: ∀v,PV ax σ K v s->P (.ok<|.ret v)):P r:=by
 rcases r with e|f
 ·exact q.elim
 ·cases f
  case ret=>exact k _ q
  all_goals exact q.elim
def mK(T:qQ)(C:cZ)(k:Nat):Prop:= ∀(x:Cx),x.T=T-> ∀(Ar:cW),d9 k Ar-> ∀(σ:St x) (K:V->H->Prop) (f:Nat) (vs:List V) (ws:List av),aV σ.R vs ws->C f vs σ.A K->oa (M x) Ar (.call (.ref<|bQ f) ⟨ws,[]⟩) (CT σ K) σ.s
structure Ec(T:qQ)(f:Nat)(fn:Fn) where
 ck:Ck T f fn
 ok: ∀(C:cZ) (k:Nat) (x:Cx) (Ar:cW),mK T C k->x.T=T->x.env.scope=ck.fd.scope->x.ns=ck.ns->d9 (k+2) Ar->dj x Ar (kQ ck.mY x.env) (aZ I C fn.body)
theorem d9.oF{k j}{Ar}(r:d9 k Ar)(h:j<=k):d9 j Ar:=⟨r.hd,ms (eH h _) r.oE,ms (cL (eH (jl 8 h) _) _) r.un⟩
theorem aJ0{M}{A}{E}{s}{Q}(h:Q Y s):aw M A (seqItems? .none) Q E s:=RZ rfl h
variable{f:Nat}{fn:Fn}{vs:List V}{ws:List av}{ρ:L}{T:qQ}
def Ck.us(c:Ck T f fn)(ws:List av):List av:=ws++c.dv.drop (c.dv.length -((c.ns.take fn.np).length -ws.length))
theorem Ck.take(c:Ck T f fn):(c.ns.take fn.np).length=fn.np:=Bb (c.len▸c.np)
theorem Ck.P4{R}(c:Ck T f fn)(l:(Rm.of T.B).fl R)(b:oT fn vs=U ρ)(r:aV R vs ws){G:Prop}
  (k: ∀us,ws.length<=(c.ns.take fn.np).length->(c.ns.take fn.np).length<=ws.length+c.dv.length->c.dv.length<=(c.ns.take fn.np).length->aV R us (c.us ws)->us.length=fn.np->ρ=us.map U++gp (fn.nl -fn.np) Y->G):G:=by
 unfold oT at b
 refine if h:vs.length<=fn.np/\fn.np<=vs.length+fn.gU.length then ?_ else ?_
 ·rw[aM h] at b
  have l1:=r.length
  have l2:=c.Hu.length
  refine k (vs++fn.gU.drop (fn.gU.length -(fn.np -vs.length))) (by rw[c.take,l1];exact h.1) (by rw[c.take,l1,l2];exact h.2) (by rw[c.take,l2];exact c.dle) ?_ ?_ (bL b).symm
  ·unfold Ck.us
   rw[c.take,l1,l2]
   exact r.append ((c.Hu.aG l).drop _)
  ·rw[aC,RX,aZ7<|Nat.sub_le_iff_le_add'.mpr h.2,RY h.1]
 ·rw[aE h] at b;cases b
def Ck.st(c:Ck T f fn){L:ai}(a:(Bc (L+1) c.fd.scope.names []).Pairwise λx y=>x.2≠y.2):mU (callEnvC c.fd L<|bQ f) c.ns:=⟨c.kind,c.gF,c.blt,c.nd,λ_ _ _ e e'=>name_of_addr a (mem_of_lookup e)<|mem_of_lookup e'⟩
theorem Ck.at2(c:Ck T f fn){s a}{R}{g}{t}(l:(Rm.of T.B).fl R)(b:oT fn vs=U ρ)(r:aV R vs ws)
  (X:InCallC s s.heap.objs.size (bindL (callEnvC c.fd s.heap.objs.size<|bQ f).kindOf (rU (c.ns.take fn.np) ws c.dv) λ_=>Y) (Bc (s.heap.objs.size+1) c.fd.scope.names [])
   (bindC (callEnvC c.fd s.heap.objs.size<|bQ f).kindOf (rU (c.ns.take fn.np) ws c.dv) λ_=>Y) a) (le:R.fl<|R.ext s.heap.objs.size a.heap):
  Fr ⟨T,callEnvC c.fd s.heap.objs.size<|bQ f,c.ns,g,t,c.st X.apart,ρ⟩<|R.ext s.heap.objs.size a.heap:=c.P4 l b r λus _ _ _ ru j e=>by
 subst e
 have ndt:(c.ns.take fn.np).Nodup:=c.nd.sublist (aZ9 ..)
 have argv: ∀{i:Nat} {n:Str} {v:V},ah c.ns i=U n->ah (us.map U++gp (fn.nl -fn.np) (Y)) i=U (U v)-> ∃w,ah (c.ns.take fn.np) i=U n/\ah (c.us ws) i=U w/\ax R v w:=λ{i n v} h1 h2=>
  have h3:=Ps _ _ _ _ h2
  ru.ah h3 λw e p=>⟨w,(N8 _ _ _<|j▸yo h3).trans h1,(lP ..).trans e,p⟩
 refine⟨?_,?_,λi n h1=>(c.KR n<|oB h1).elim (λh=> .dQ h) λhk=> ?_⟩
 ·show(us.map U++gp (fn.nl -fn.np) Y).length=_
  rw[aC,bO,GR,j,c.len,RY c.np]
 ·obtain⟨o,es,ep,e1,e2,e3,e4⟩:=X.toInCall.ns
  exact .mk o _ _ (Rm.Jk (dP _) e1) ⟨es,ep,e2,e3,e4,dP _⟩ λi n v h1 h2 h3=>(argv h1 h3).imp λw q=>⟨DV ndt q.1 q.2.1 h2,q.2.2.aG le⟩
 ·obtain⟨cc,e⟩:=IF hk
  obtain⟨o,h4,u⟩:=X.cell n cc e
  exact .cell cc o _ (.inl hk) e (Rm.Jk (uV<|X.above n cc<|mem_of_lookup e) h4) u λv h3=>(argv h1 h3).imp λw q=>⟨aj8 ndt q.1 q.2.1 hk,q.2.2.aG le⟩
def Ck.fx(c:Ck T f fn)(n:Nat)(g:Array Q8)(os:mn)(st:mU (callEnvC c.fd n<|bQ f) c.ns)(ρ:L):Cx:=⟨T,callEnvC c.fd n<|bQ f,c.ns,g,os,st,ρ⟩
theorem xi{T}{f}{fn}{vs}{ws}{ρ}(hl:T.B.NoLimit)(c:Ck T f fn){Ar:cW}(hdep:Ar.depth <GZ){R}{A}{s:bB}(bh:c4 R A s.heap)(bY: ∀a o,T.B.get? a=U o->R.is a o){g}{h}(J:s.gens=g)(ho:s.os=h)(hb:oT fn vs=U ρ)(r:aV R vs ws){G:u6->bB->Prop}
  (k: ∀(st:mU (callEnvC c.fd s.heap.objs.size<|bQ f) c.ns) (τ:St<|c.fx s.heap.objs.size g h st ρ),R.le τ.R->τ.A=A->(∀a,(c.fx s.heap.objs.size g h st ρ).own a->s.heap.get? a=Y)->(∀n a,(callEnvC c.fd s.heap.objs.size<|bQ f).cells.lookup n=U a->a≠s.heap.objs.size)->
   aw (fJ T.prog T.w) (Ar.deeper<|callEnvC c.fd s.heap.objs.size<|bQ f) (kQ c.mY<|callEnvC c.fd s.heap.objs.size<|bQ f) (λfl s'=>G (.ok<|.ret (match fl with|.ret v=>v|_=> .none)) s')
    (λe s'=>aw (fJ T.prog T.w) (Ar.deeper<|callEnvC c.fd s.heap.objs.size<|bQ f) (R0 (callEnvC c.fd s.heap.objs.size<|bQ f) e) (λ_ b=>G (.error e) b) (λe' b=>G (.error e') b) s') τ.s):
  oa (fJ T.prog T.w) Ar (.call (.ref<|bQ f) ⟨ws,[]⟩) G s:=by
 have l:=λa o e=>bY a o (Rm.zK e)
 have hB: ∀a o,T.B.get? a=U o->s.heap.get? a=U o:=λa o e=>bh.kp _ _ _ (bY _ _ e)
 refine a00 hdep (hB _ _ c.at_) c.data c.co c.jx c.FN (c.code.keeps hB) ?_
 refine c.P4 l hb r λus D u p _ _ _=>QS c.D9 (c.nd.sublist<|aZ9 ..) D u p (λM A E Q i=> ?_) _ _ _ _ ?_
 ·exact c.gU.elim (λz=>z.1▸aJ0 (i Y z.2.symm)) λz=>z.elim λt z=>z.elim λod z=>z.elim λn z=>z.1▸R2 (hB _ _ z.2.1) z.2.2 (i _ rfl)
 ·rw[c.si,c.gF,c.blt]
  refine a01 c.kind (λy j=>(c.KR _<|aU2 (RW (show(y.1,y.2)∈_ from j)).1).imp id λq=>⟨q,(IF q).elim λcc e=>by rw[e];rfl⟩) λenv he s' X=> ?_
  have he:env=callEnvC c.fd s.heap.objs.size (bQ f):=by rw[he];unfold callEnvC;rw[c.gF,c.blt]
  subst he
  have hk:=X.toInCall.keep
  obtain⟨h1,tk,e1⟩:=X.toInCall.same
  have le:=bh.TG (h':=s'.heap)
  exact⟨(hl.keeps hB).keeps hk,codeAny_func (k (c.st X.apart) ⟨R.ext s.heap.objs.size s'.heap,A,s',bh.ext hk,λa o e=>le a .fr o<|bY a o e,(aA bB.gens e1).trans J,(aA bB.os e1).trans ho,c.at2 l hb r X le.fl⟩ le rfl
   (λa w=>w.elim (λz=>R3<|Nat.le_of_eq z.symm) λz=>z.elim λn z=>R3<|Nat.le_of_lt<|X.above n a<|mem_of_lookup z.2) λn a q=>R4<|X.above n a<|mem_of_lookup q)⟩
theorem HA{T}(hl:T.B.NoLimit)(S: ∀f fn,I.fn f=U fn->Nonempty (Ec T f fn)): ∀d,mK T (al I d) (4*d)
 |0=>λx e Ar _ σ K f vs ws r h=>h.elim
 |d+1=>λx e Ar rm σ K f vs ws r h=>by
  subst e
  exact MG h λfn hf h=>MG h λρ hb h=>by
   obtain⟨⟨c,ok⟩⟩:=S f fn hf
   have rm':d9 (4*d+2)<|Ar.deeper<|callEnvC c.fd σ.s.heap.objs.size<|bQ f:=⟨rm.hd,by show Ar.depth+1+_ <_;have:=rm.oE;lia,by show Ar.units+3+_+_ <_;have:=rm.un;lia⟩
   refine xi hl c (ms (cm ..) rm.oE) σ.bh σ.bY σ.gens σ.os hb r λst τ le i own _=> ?_
   refine bz (ok (al I d) (4*d) (c.fx σ.s.heap.objs.size x.gens x.os st ρ) _ (HA hl S d) rfl rfl rfl rm' ρ τ _<|i▸h) (λfl s2 q=> ?_) λ_ _ q=>q.elim
   obtain⟨p,υ,v,lo,r2,l,j,k2⟩:=q
   have g:=λa b o e=>lo a b o (le a b o e) λ_ w=>bH <|(σ.bh.no a<|own a w).symm.trans e
   let φ:St x:=⟨υ.R,l,υ.s,υ.bh.pr j,υ.bY,υ.gens,υ.os,σ.fr.keep g⟩
   cases r2 with
   |ret r=>exact⟨φ,_,_,g,r,k2⟩
   |_=>exact⟨φ,_,_,g,.none,k2⟩
end
noncomputable def fF(e:Expr):Bool:= !bF e.ctorIdx 22
section
variable{x:Cx}{σ:St x}{Ar:cW}{K:V->H->Prop}{k n:Nat}
theorem pj(h:fF e=aa):eV pos (eW (e::r) env)=(ae,aQ e env)::eV pos (eW r env):=by
 cases e <;>first|rfl|cases h
theorem tM: ∀{r:List Expr},r.all fF=aa->(eV pos (eW r env)).any (·.1)=ae
 |[],_=>rfl
 |e::r,h=>by
  have h:=fG.mp h
  rw[pj h.1];exact tM h.2
theorem zo{Q:Args->bB->Prop}(hs:a.all fF=aa)(h:aw (M x) Ar (iS<|eV pos<|eW a x.env) (λvs s'=>Q ⟨vs,[]⟩ s') N0 s):
  aw (M x) Ar (evalArgs f aa (eV pos<|eW a x.env) []) Q N0 s:=by
 cases a with
 |nil=>exact aF (bz h (λvs s' q=>aF<|wpAny_pure<|wpAny_holding<|wpAny_bind<|wpAny_pure<|wpAny_bind<|wpAny_pure<|wpAny_pure q) λ_ _ q=>q)
 |cons e r=>
  rw[pj (fG.mp hs).1] at h⊢
  exact a02 h
variable{args:List Expr}{pos q:Pos}{ge:H->(List V->H->Prop)->Prop}{G:List V->H->Prop}{fv:List av}{C:cZ}{nm:Str}
theorem Gl(hk:q4 x.T.p.K f=aa)(hs:args.all fF=aa)(el:fW n x Ar (iS<|eV pos<|eW args x.env) ge)(h:ge σ.A G)
  (z: ∀(τ:St x) vs ws,σ.le τ->aV τ.R vs ws->G vs τ.A->aw (M x) Ar (call f<|fv++ws) (PV ax σ K) N0 τ.s):aw (M x) Ar (u7 pos f fv (eV pos<|eW args x.env) []) (PV ax σ K) N0 σ.s:=
 callWith_of (by rw[tM hs];rfl) (keeps_K hk) (zo hs<|el.map h λτ vs ws l r k=>⟨τ.mF,z τ vs ws l r.1 k⟩)
theorem C6(hs:args.all fF=aa)(el:fW n x Ar (iS<|eV pos<|eW args x.env) ge)(h:ge σ.A G)
  (z: ∀(τ:St x) vs ws,σ.le τ->aV τ.R vs ws->G vs τ.A->aw (M x) Ar (call (.builtin b)<|fv++ws) (PV ax σ K) N0 τ.s):aw (M x) Ar (u7 pos (.builtin b) fv (eV pos<|eW args x.env) []) (PV ax σ K) N0 σ.s:=
 R5 (tM hs) (zo hs<|el.map h λτ vs ws l r k=>z τ vs ws l r.1 k)
theorem Gc(gc:mK x.T C k)(rm:d9 k Ar)(r:aV σ.R vs a)(h:C f vs σ.A K):aw (M x) Ar (call (.ref<|bQ f) a) (PV ax σ K) N0 σ.s:=
 s_ (xC (gc x rfl Ar rm σ K f vs a r h) λr s' q=>q.of λ_ q=>q)
theorem S8(gc:mK x.T C k)(rm:d9 k Ar)(hf:f <sP.length)(hk:x.env.kindOf nm=U .globalImplicit)(hd:(nm==("__debug__":Str))=ae)(hw:x.T.g.mg nm=U (.ref<|bQ f))(hs:args.all fF=aa)(el:fW n x Ar (iS<|eV pos<|eW args x.env) ge):
  a3 x Ar (aQ (.Call (.Name nm q) args [] pos) x.env) (λh Q=>ge h λvs h=>C f vs h Q):=λσ K h=>
 u8 (wA σ hk hd hw<|Gl (x.T.E0 f hf) hs el h λτ vs ws l r k=>up l<|Gc gc rm r k)
theorem ag0:gX R c [] Be:= .mk (λ_=> .none) ⟨#[],0,rfl,λe he=>(nomatch A5.mpr he),λ_=>rfl,dP _⟩ (λ_ _ e=>bR e) (λ_ _ e=>bR e) λ_ _ e=>bR e
theorem St.DX(σ:St x):σ.R.le<|(σ.R.bx σ.s.heap.objs.size<|.dict<|σ.s.heap.objs.size+1).bx (σ.s.heap.objs.size+1) .abs:=λa b o e=>
 (Rm.cV<|Rm.ne (σ.bh.dm _<|jm _) e).trans (σ.dS _ a b o e)
def St.aK(σ:St x)(c:Nat):St x:=
 have up:=λa (o) (e)=>eB Be e
 have z1:=tc ..
 have m1:c4 (σ.R.bx σ.s.heap.objs.size<|.dict<|σ.s.heap.objs.size+1) σ.A<|σ.s.heap.push Be:=σ.bh.jx _ (λ_=>Rm.cV) (λ_ _ _=>id) (λb o _=>up b o) (σ.dS _).fl (λ_ _ e=>bH <|(Rm.cO ..).symm.trans e)
  (λ_ e=>bR <|σ.Aa.symm.trans e) (λ_ e=>bR <|σ.new.symm.trans e) λe=>gI <|(hg _ rfl).symm.trans e
 have e1:σ.R.bx σ.s.heap.objs.size (.dict<|σ.s.heap.objs.size+1) (σ.s.heap.objs.size+1)=Y:=(Rm.cV<|td _).trans (σ.bh.dm _<|jm _)
 σ.to _ (σ.A.cr (σ.s.heap.objs.size+1)<|.aK c []) ((σ.s.heap.push Be).push<|instObj (dL c) σ.s.heap.objs.size) σ.s.toks
  (m1.abs _ (λ_=>Rm.cV) (λ_ _ _=>eB _) (Rm.cO ..) (λ_ e=>bH <|e1.symm.trans e) (λ_ e=>bH <|e1.symm.trans e)
   (.aK (z1▸hg (σ.s.heap.push Be) rfl) ((Rm.cV (td _).symm).trans<|Rm.cO ..) (eB _<|hg _ rfl) ag0)) σ.DX
theorem VH(rm:d9 (k+1) Ar):d9 k<|Ar.under<|.builtin "type.__call__" ⟨.ref a::rest,[]⟩:=
 ⟨rm.hd,by show Ar.depth+1+k <_;have:=rm.oE;lia,by show Ar.units+1+8*k+20 <_;have:=rm.un;lia⟩
theorem ax4(gc:mK x.T C k)(rm:d9 (k+1) Ar)(hi:I.kT c=U f)(hk:x.env.kindOf nm=U .globalImplicit)(hd:(nm==("__debug__":Str))=ae)(hw:x.T.g.mg nm=U (.ref<|dL c))(hs:args.all fF=aa)
  (el:fW n x Ar (iS<|eV pos<|eW args x.env) ge):
  a3 x Ar (aQ (.Call (.Name nm q) args [] pos) x.env) (λh Q=>ge h λvs h=>(match I.kT c with
   |U f=> ∀a,h a= .none->C f (.ref a::vs) (h.cr a<|.aK c []) λv h=>rX (Q (.ref a) h) v
   |.none=>False)):=λσ K h=>by
 rw[hi] at h
 have p:=x.T.p.sy c f hi
 refine u8 (wA σ hk hd hw (Gl (x.T.cls c f hi) hs el h λτ vs ws l r k=>s_ (make_core (makes_of τ.mF p.2.2.2) (R6 τ.mF p.2.1) (λself=>bind_fn τ.mF self p.2.2.1) (.inl rfl) (xC
  (gc x rfl _ (VH rm) (τ.aK c) _ f _ _ (.cons (.ref _)<|r.aG τ.DX.fl)<|k _<|τ.bh.kB λz=>bR <|(τ.bh.dm _<|jm _).symm.trans z) λr s' q=>q.of λw q=>q.casesOn λυ v w l' r' b=> ?_))))
 exact rX.casesOn b (λz r=>r.of ⟨rfl,υ,_,_,λ_ _ _ e=>l' _ _ _<|τ.DX _ _ _<|l _ _ _ e,.ref _,z⟩) r'
end
section
variable{σ:St x}{K:V->H->Prop}
theorem ER f ws n: ∃a,u9 f (cz ws n)=cz (f ws.toArray).toList a:=⟨_,by unfold u9;rfl⟩
theorem St.E6(q:σ.A a=U p)(e:σ.s.heap.get? a=U (cz h n))(c:(f h.toArray).toList=us)(r:aV σ.R vs us)(b:ax σ.R v w)(k:K v<|σ.A.cr a<|.list vs):
  PV ax σ K w {σ.s with heap:=σ.s.heap.update a<|u9 f}:=(ER f h n).elim λg en=>
 ⟨σ.cr σ.s.toks q (A6 ..)<|.list ((uX _ e<|by rw[en];rfl).trans<|by rw[en,c]) r,v,w,Rm.le_refl _,b,k⟩
noncomputable def Np:Nat->String
 |0=>"list.append"
 |1=>"list.pop"
 |_=>"list.extend"
theorem au9(h:nI σ.A K a m vs)(r:aV σ.R vs j):aw (M x) Ar (call (.builtin<|Np m)<|.ref a::j) (PV ax σ K) N0 σ.s:=
 have ext: ∀{l k:List V} {b n2:Nat} {us:List av},σ.A a=U (.list l)->σ.s.heap.get? b=U (cz us n2)->aV σ.R k us->a_ (l++k).length->K .none (σ.A.cr a<|.list<|l++k)->aw (M x) Ar (call (.builtin "list.extend") [.ref a,.ref b]) (PV ax σ K) N0 σ.s:=λ{l k b n2 us} q e2 r2 hl z=>
  σ.g6 q λj n e r=>have hz:=r.Eg r2 hl
   G8 a03 ⟨_,e,rfl⟩ PySem.F.entry_list_extend (PySem.F.args_list_extend_2 _ _) (AutoSeq1.list_extend_list_list_0 a j.toArray n b us.toArray n2 (extend_door hz) (ak (cm _ _) hz)<|uU hz) ⟨e,e2,St.E6 q e (Array.toList_append ..) (r.append r2) .none z⟩
 nI.casesOn h
  (λq hl z rv=>rv.bp λw p=>σ.g6 q λj n e r=>G8 R7 ⟨_,e,rfl⟩ a04 (a05 _ _) (a06 a j.toArray n w<|j8▸ak (r.length▸jm _) (jB hl)) ⟨e,St.E6 q e (Array.toList_push ..) (r.append<|.cons p .nil) .none z⟩)
  (λq hl z rv=>rv.none (σ.g6 q λj n e r=>r.nX λus w e1 r' p=>by
   subst e1
   have sz:(us++[w]).toArray.size -1=us.length:=by rw[j8,aC];rfl
   refine G8 a07 ⟨_,e,rfl⟩ PySem.F.entry_list_pop (PySem.F.args_list_pop_1 _) (MeetsSeq.list_pop_last a (us++[w]).toArray n w (by rw[sz,u2,aX7<|dP _,aX8];rfl)<|by rw[j8,aC,r'.length];exact ak (cg hl)<|by rw[A4];decide) ⟨e,St.E6 q e ?_ r' p z⟩
   rw[sz]
   have:=kl_erase us [] w
   rw[c9] at this
   exact aA Array.toList this))
  (λq hl z rv=>rv.bp λw p=>p.of λus b n2 e2 r2=>ext q (σ.at e2) r2 hl z)
  (λq ne c hl z rv=>rv.bp λw p=>p.of<|σ.g6 c λus n2 e2 r2=>ext q e2 r2 hl z) r
theorem r5.or(g:r5 R o q)(rd:ax R d w):ax R (o.getD d)<|q.getD w:=match o,g with
 |.some _,g=>g.elim λ_ z=>z.1▸z.2
 |.none,g=>(show q=Y from g)▸rd
theorem HR{a n:Nat}(h:ow σ.A K ds vs)(r:aV σ.R vs j)(e:σ.s.heap.get? a=U (gb (fY ds l) n))(hm:(a==kP)=ae)(nd:(dJ ds).Nodup)(rd:dD σ.R ds l):
  aw (M x) Ar (call (.builtin "dict.get")<|.ref a::j) (PV ax σ K) N0 σ.s:=
 have b:=(rZ e nd rd).mapOf
 ow.casesOn h
  (λ{i} z r=>r.bp λw p=>p.of λt=>call_meetsIn R8 ⟨_,e,rfl⟩ a08 (PySem.F.args_dict_get_2 _ _) (meets_dict_get (ik x) a (mw i t) hm) ⟨_,b,.tk ((rd.get i).or .none) z⟩)
  (λ{i d} z r=>r.of λw j p r=>p.of λt=>r.bp λw0 p0=>call_meetsIn R8 ⟨_,e,rfl⟩ a08 (PySem.F.args_dict_get_3 _ _ _) (meets_dict_get_default (ik x) a (key:= .int i t) (mw i t) hm w0) ⟨_,b,.tk ((rd.get i).or p0) z⟩) r
end
section
variable{σ:St x}
theorem IJ: ∀{r:List Expr},r.all fF=aa->(eV pos<|eW r env).all (λx=> !x.1)=aa
 |[],_=>rfl
 |e::r,h=>by
  have h:=fG.mp h
  rw[pj h.1];exact IJ h.2
theorem N4(hb:xz e name x.env (aQ e x.env)=aQ e x.env)(hl:(j.endLine==pos.line)=aa)(hn:a.length <30)(hs:a.all fF=aa)
  (h:aw (M x) Ar (aQ e x.env) (λov s₁=> ∀g,aw (M x) Ar (xD ov name g) (λfx b=>aw (M x) Ar (u7 pos fx.1 fx.2 (eV pos<|eW a x.env) []) Q N0 b) N0 s₁) N0 s):
  aw (M x) Ar (aQ (.Call (.Attribute e name j) a [] pos) x.env) Q N0 s:=by
 rw[arm_eval_Call,hb]
 refine aF (bz h (λov s₁ f=>aF<|jn ?_) λ_ _ e=>e)
 have hform:a09 (a.length+([]:List Keyword).length) (eV pos<|eW a x.env) (backToKw pos<|keywordEach [] x.env)=aa:=by
  unfold a09
  rw[IJ hs]
  exact decide_eq_true hn
 have hpos:a10 aa e x.env j pos=cG pos:=by unfold a10;rw[hl];rfl
 unfold methodCall
 exact hform▸aF (e8<|bz (f _) (λfx b c=>aF<|RZ hpos c) λ_ _ e=>e)
theorem Vh{a d c m f:Nat}(e1:σ.s.heap.get? a=U (oP c d))(e2:σ.s.heap.get? d=U o)(F:gX σ.R c j o)(hs:bc j (I.mf m)=Y)(hm:I.nq c m=U f)(h:Q (.ref<|bQ f,[.ref a]) σ.s):
  aw (M x) Ar (xD (.ref a) (kH m) t) Q N0 σ.s:=
 have p:=x.T.p.oD c m f hm
 method_fn (od:=U o) σ.mF ⟨e1,rfl,rfl,e2⟩ (x.T.p.ga c p.1) (x.T.p.gt c p.1) p.2.1 p.2.2 (aA (uO RE)<|F.OR λb v l y z=>bR <|(x.T.p.Qc m b l z.symm▸hs).symm.trans y) h
theorem aL8{l n m:Nat}(e:s.heap.get? l=U (cz a n))(hm:eZ m zD=aa)(h:Q (.builtin<|Np m,[.ref l]) s):aw (M x) Ar (xD (.ref l) (kH m) j) Q N0 s:=
 by
  rcases m with _|_|_|_
  ·exact R9 R7 PySem.F.type_list_append ⟨_,e,rfl,_,rfl⟩ ⟨_,e,rfl⟩ h
  ·exact R9 a07 PySem.F.type_list_pop ⟨_,e,rfl,_,rfl⟩ ⟨_,e,rfl⟩ h
  ·exact R9 a03 PySem.F.type_list_extend ⟨_,e,rfl,_,rfl⟩ ⟨_,e,rfl⟩ h
  ·exact fE hm
theorem QW{d n:Nat}(e:s.heap.get? d=U (gb j n))(h:Q (.builtin "dict.get",[.ref d]) s):aw (M x) Ar (xD (.ref d) (kH Fq) l) Q N0 s:=
 a11 ⟨_,e,rfl⟩ a12 R8 PySem.F.type_dict_get (λa q=>by cases q;exact⟨_,e,rfl⟩) h
theorem al5(gc:mK x.T C k)(rm:d9 k Ar)(hb:xz e (kH m) x.env (aQ e x.env)=aQ e x.env)(hl:(p.endLine==pos.line)=aa)(hn:j.length <30)(hs:j.all fF=aa)
  (ev:a3 x Ar (aQ e x.env) f) (el:fW n x Ar (iS<|eV pos<|eW j x.env) t):a3 x Ar (aQ (.Call (.Attribute e (kH m) p) j [] pos) x.env) (λh Q=>f h λv h=>lk I C h t Q m v):=λσ K h=>
 N4 hb hl hn hs (ev.map h λτ v w l r k i=>bz
  (have aK: ∀{a d c m f:Nat} {fs:List<|Nat×V} {o:Obj} {v:V},τ.s.heap.get? a=U (oP c d)->τ.s.heap.get? d=U o->gX τ.R c fs o->ax τ.R v (.ref a)->bc fs (I.mf m)=Y->I.nq c m=U f->t τ.A (λvs h=>C f (v::vs) h K)->
    aw (M x) Ar (xD (.ref a) (kH m) i) (λfx b=>aw (M x) Ar (u7 pos fx.1 fx.2 (eV pos<|eW j x.env) []) (PV ax τ K) N0 b) N0 τ.s:=λ{a d c m f fs o v} e1 e2 F ra h1 h2 z=>
    Vh e1 e2 F h1 h2 (Gl (x.T.oD c m f h2) hs el z λυ vs ws l r k=>up l<|Gc gc rm (.cons (ra.aG l.fl) r) k)
   lk.casesOn (motive:=λm v _=>ax τ.R v w->aw (M x) Ar (xD w (kH m) i) (λfx b=>aw (M x) Ar (u7 pos fx.1 fx.2 (eV pos<|eW j x.env) []) (PV ax τ K) N0 b) N0 τ.s) k
   (λh1 h2 z r=>r.of λd o e1 e2 F=>aK (τ.at e1) (τ.at e2) F (.fz e1 e2 F) h1 h2 z)
   (λq h1 h2 z r=>r.of<|(τ.bh.ob _ _ q).2.of λd o e1 _ e2 F=>aK e1 e2 F (.ref _) h1 h2 z)
   (λz r=>r.of λg a n e1 hm nd rd=>QW (τ.at e1)<|C6 hs el z λυ vs ws l r k=>up l<|HR k r (υ.at<|l _ _ _ e1) hm nd<|rd.aG l.fl)
   (λq z r=>r.of<|τ.jb q λg n e1 nd rd=>QW e1<|C6 hs el z λυ vs ws l r k=>k.elim λs k=>υ.jb k.1 λg n e2 nd rd=>up l<|HR k.2 r e2 (υ.sd k.1) nd rd)
   (λq hm z r=>r.of<|τ.g6 q λws n e1 r1=>aL8 e1 hm<|C6 hs el z λυ vs ws l r k=>up l<|au9 k r) r)
  (λfx s2 q=>bz q (λ_ _ q=>q.aG l) λ_ _=>id) λ_ _=>id)
end
section
variable{R S:Rm}{A:H}{h h':cu}
theorem c4.qh(s:c4 R A h)(own:ai->Prop)(f: ∀b,¬own b->S b=R b)(hh: ∀b o,¬own b->h.get? b=U o->h'.get? b=U o)(ho: ∀b,own b-> ∃o,R.kp .it b o)
  (hk: ∀b c o,own b->S.kp c b o->h'.get? b=U o) (g: ∀b,own b->h'.get? b=Y->S b=Y):c4 S A h':=
 have nt: ∀{b r},R b=U r->(∀o,r≠ .kp .it o)-> ¬own b:=λe n z=>(ho _ z).elim λo q=>n o (bL<|e.symm.trans q)
 ⟨λa b o e=>(G0<|own a).elim (λz=>hk a b o z e) λz=>hh a o z<|s.kp a b o<|(f a z).symm.trans e,
  λa o e=>have p:=s.ob a o e
   have n:=nt p.1 λ_ z=>qc z
   ⟨(f a n).trans p.1,p.2.keep (λb o z=>(f b<|nt z λ_ y=>qc y).trans z) (λp=>hh a p n) λd p dd e=>have m:=nt dd λ_ y=>qc y;⟨hh d p m e,(f d m).trans dd⟩⟩,
  λa e=>(G0<|own a).elim (λz=>g a z e) λz=>(f a z).trans<|s.no a<|fV (λo=>hh a o z) e⟩
end
section
variable{x y:Cx}{σ:St x}{Ar:cW}{K:It}
def St.qh(σ:St x)(S:Rm)(h:cu)(t:Nat)(own:ai->Prop)(f: ∀b,¬own b->S b=σ.R b)(hh: ∀b o,¬own b->σ.s.heap.get? b=U o->h.get? b=U o)(ho: ∀b,own b-> ∃o,σ.R.kp .it b o)
  (hk: ∀b c o,own b->S.kp c b o->h.get? b=U o) (g: ∀b,own b->h.get? b=Y->S b=Y):St x:=
 have nt: ∀{b c o},σ.R.kp c b o->c≠ .it-> ¬own b:=λe n z=>(ho _ z).elim λo q=>n (jZ e q).1
 have kk: ∀{b c o},σ.R.kp c b o->c≠ .it->S.kp c b o:=λe n=>(f _<|nt e n).trans e
 ⟨S,σ.A,{σ.s with heap:=h,toks:=t},σ.bh.qh own f hh ho hk g,λa o e=>kk (σ.bY a o e) λz=>fX z,σ.gens,σ.os,σ.fr.ua (λa o e=>kk e λz=>fX z) λa o e=>kk e λz=>fX z⟩
def St.FG(σ:St x){a}{o}(n:σ.R a=Y)(e:σ.s.heap.get? a=U o):St x:=
 σ.to (σ.R.bx a<|.kp .fr o) σ.A σ.s.heap σ.s.toks (σ.bh.mG a e (λ_ _ _=>id) (σ.bh.kB λz=>bH <|n.symm.trans z) (λ_ z=>bH <|n.symm.trans z) λ_ z=>bH <|n.symm.trans z) (Rm.jh n)
inductive Gw:Expr->Prop
 |mk (s:Str) (p:Pos):Gw (.Name s p)
def lM(own:ai->Prop)(R S:Rm):Prop:= ∀a b o,(own a->b≠ .it)->R.kp b a o->S.kp b a o
theorem uj{own:ai->Prop}{R S:Rm}(c: ∀b,¬own b->S b=R b)(ho: ∀b,own b-> ∃o,R.kp .it b o):lM own R S:=λa b o n e=>(G0<|own a).elim (λz=>(ho a z).elim λp q=>absurd (jZ e q).1<|n z) λz=>(c a z).trans e
theorem lM.fl{own}{R S}(h:lM own R S):R.fl S:=λa o e=>h a .fr o (λ_ z=>fX z) e
noncomputable def x_(own:ai->Prop)(at_:List V->Rm->Prop)(σ:St x)(Q:Option av->bB->Prop):List V->Prop
 |[]=> ∀τ:St x,τ.A=σ.A->lM own σ.R τ.R->Q Y τ.s
 |v::r=> ∀(τ:St x) w,τ.A=σ.A->lM own σ.R τ.R->at_ r τ.R->ax τ.R v w->Q (U w) τ.s
structure p6(tg:Expr)(it:av)(g:H->Prop) where
 own:ai->Prop
 at_:List V->Rm->Prop
 keep: ∀{r R S},(∀a b o,b≠ .own->R.kp b a o->S.kp b a o)->at_ r R->at_ r S
 self:Gw tg-> ∀{x:Cx} {Ar:cW} (σ:St x) r (Q:av->bB->Prop),Ar.handled=Y->at_ r σ.R->g σ.A->Q it σ.s->aw (M x) Ar (jJ it) Q N0 σ.s
 next: ∀{x:Cx} {Ar:cW} (σ:St x) r (Q:Option av->bB->Prop),Ar.handled=Y->at_ r σ.R->g σ.A->x_ own at_ σ Q r->
  aw (M x) Ar (Bf it) (λq s=>match q with
   |none=>Q Y s
   |some v=>aw (M x) Ar (G9 tg it v) (λ_ s'=>Q (U v) s') N0 s) N0 σ.s
inductive PI (σ:St x) (tg:Expr) (K:It) (it:av):bB->Prop
 |mk (τ:St x) (xs:List V) (g:H->Prop) (Iqv:p6 tg it g):σ.le τ->(∀a b o,Iqv.own a-> ¬σ.R.kp b a o)->Iqv.at_ xs τ.R->K xs g τ.A->PI σ tg K it τ.s
theorem PI.aG{τ:St x}{j}{h}{s}(l:σ.le τ)(p:PI τ j K h s):PI σ j K h s:=
 p.casesOn λυ xs g Iqv l' n a k=>⟨υ,xs,g,Iqv,λ_ _ _ e=>l' _ _ _<|l _ _ _ e,λa b o w e=>n a b o w<|l _ _ _ e,a,k⟩
theorem PI.of{σ:St x}{own:ai->Prop}{at_:List V->Rm->Prop}{g}(τ:St x)(xs:List V)(keep: ∀{r R S},(∀a b o,b≠ .own->R.kp b a o->S.kp b a o)->at_ r R->at_ r S)
  (self:Gw j-> ∀{x:Cx} {Ar:cW} (σ:St x) r (Q:av->bB->Prop),Ar.handled=Y->at_ r σ.R->g σ.A->Q h σ.s->aw (M x) Ar (jJ h) Q N0 σ.s)
  (next: ∀{x:Cx} {Ar:cW} (σ:St x) r (Q:Option av->bB->Prop),Ar.handled=Y->at_ r σ.R->g σ.A->x_ own at_ σ Q r->
  aw (M x) Ar (Bf h) (λq s=>match q with
   |Y=>Q Y s
   |U v=>aw (M x) Ar (G9 j h v) (λ_ s'=>Q (U v) s') N0 s) N0 σ.s) (l:σ.le τ) (n: ∀a b o,own a-> ¬σ.R.kp b a o) (a:at_ xs τ.R) (k:K xs g τ.A):PI σ j K h τ.s:=
 ⟨τ,xs,g,⟨own,at_,keep,self,next⟩,l,n,a,k⟩
noncomputable abbrev BO:List String:=["enumerate","zip","dict_itemiterator","dict_reverseitemiterator","odict_iterator","itertools.zip_longest","itertools.pairwise"]
inductive i5:Expr->Prop
 |n (s:Str) (p:Pos):i5 (.Name s p)
 |t (es:List Expr) (k:Nat) (p:Pos):i5 (.Tuple es k p)
theorem ao2{j}{Iqv}{v}{o}{n}{s}{Q}(ht:i5 j)(e:s.heap.get? Iqv=U o)(hc:o.cls= .type n)(hn:BO.contains n=ae)(h:Q () s):aw (M x) Ar (G9 j (.ref Iqv) v) Q N0 s:=
 ht.casesOn (λ_ _=>bW h) λes k p=>by
  cases v with
  |ref a=>
   refine aF (RG e ?_)
   rw[hc]
   cases o.data with
   |fields vs=>dsimp only;rw[hn];exact bW h
   |_=>exact bW h
  |_=>exact bW h
inductive Wk (τ:St x) (Ar:cW) (Iqv:ai) (IsAt:Nat->Obj->Prop) (xs:List V):Prop
 |mk (fp:List ai) (n:Nat) (P:Nat->av->Prop) (Z:Nat->cu->Prop):u_ x.T.prog x.T.w Ar Iqv fp [Iqv] n P Z->n=xs.length->(∀i h,Z i h-> ∃o,h.get? Iqv=U o/\IsAt i o)->(∀i o,IsAt i o->τ.s.heap.get? Iqv=U o->Z i τ.s.heap)->
   (∀i v w,ah xs i=U v->P i w->ax τ.R v w)->Wk τ Ar Iqv IsAt xs
noncomputable def Rm.dX(R:Rm)(a:ai):Rm:=λb=>if b=a then Y else R b
theorem JX{α}: ∀(l:List α) (i:Nat),ah l i=(l.drop i).head?
 |[],_=>by rw[RP];rfl
 |_::_,0=>rfl
 |_::l,i+1=>JX l i
theorem ax7{α}{l r}{v:α}{i}(e:l.drop i=v::r):l.drop (i+1)=r/\ah l i=U v/\i <l.length:=
 ⟨by rw[<-List.drop_drop,e];rfl,(JX l i).trans<|aA List.head? e,Nat.lt_of_not_le λq=>nomatch(a13 q).symm.trans e⟩
theorem x_.el{own at_}{l:List V}{i Q}{X:Prop}(t:x_ own at_ σ Q<|l.drop i)(nil:l.length<=i->(∀τ:St x,τ.A=σ.A->lM own σ.R τ.R->Q Y τ.s)->X)
  (cons: ∀v,ah l i=U v->i <l.length->(∀(τ:St x) w,τ.A=σ.A->lM own σ.R τ.R->at_ (l.drop<|i+1) τ.R->ax τ.R v w->Q (U w) τ.s)->X):X:=by
 cases e:l.drop i with
 |nil=>
  rw[e] at t
  exact nil (List.drop_eq_nil_iff.mp e) t
 |cons v r=>
  have d:=ax7 e
  rw[e,<-d.1] at t
  exact cons v d.2.1 d.2.2 t
inductive K3 (S:Rm) (Iqv:ai) (IsAt:Nat->Obj->Prop) (xs:List V) (R:Rm):List V->Prop
 |mk (i:Nat) (o:Obj):S.fl R->i<=xs.length->IsAt i o->R.kp .it Iqv o->K3 S Iqv IsAt xs R (xs.drop i)
def St.iter(σ:St x)(o:Obj)(hf:o.isFreed=ae):St x:=σ.to (σ.R.bx σ.s.heap.objs.size<|.kp .it o) σ.A (σ.s.heap.push o) σ.s.toks (σ.bh.keep o hf .it) (σ.dS _)
theorem PI.bp{j}{n}(IsAt:Nat->Obj->Prop){xs}{g:H->Prop}{o}(ht:i5 j)(hn:BO.contains n=ae)(hf:o.isFreed=ae)(cls: ∀i o,IsAt i o->o.cls= .type n)(h0:IsAt 0 o)
  (wk: ∀{y} {Ar:cW} (τ:St y),Ar.handled=Y->σ.R.fl τ.R->g τ.A->Wk τ Ar σ.s.heap.objs.size IsAt xs) (k:K xs g σ.A):PI σ j K (.ref σ.s.heap.objs.size) {σ.s with heap:=σ.s.heap.push o}:=
 .of (own:=(· =σ.s.heap.objs.size)) (at_:=λr R=>K3 σ.R σ.s.heap.objs.size IsAt xs R r) (σ.iter o hf) xs
  (λk h=>h.casesOn λi o f le a e=>⟨i,o,λa o e=>k a _ o (λz=>fX z)<|f a o e,le,a,k _ _ _ (λz=>fX z) e⟩)
  (λ_ _ _ τ r Q hh h ga q=>h.casesOn λi o f le a e=>(wk τ hh f ga).casesOn λD n P Z W _ _ st _=>W.self i τ.s Q N0 (st i o a<|τ.at e) q)
  (λτ r Q hh h ga=>h.casesOn λi o f le a e t=>(wk τ hh f ga).casesOn λD m P Z W hm live st s=>
   have z:=st i o a (τ.at e)
   have fr: ∀b,b=σ.s.heap.objs.size-> ∃o,τ.R.kp .it b o:=λb z=>⟨o,z▸e⟩
   t.el (λu t=>W.done τ.s _ N0 ((a14 le u).trans hm.symm▸z) λhp tk k=>
    t (τ.qh (τ.R.dX σ.s.heap.objs.size) hp tk (· =σ.s.heap.objs.size) (λb z=>aE z) (λb o n=>k b o λz=>n<|b_.mp z) fr (λb c o z e=>bH <|(aM z).symm.trans e) λb z _=>aM z) rfl<|uj (λb z=>aE z) fr)
   λv ev lt t=>W.item i τ.s _ N0 (hm.symm▸lt) z λw hp tk p A k=>(live _ _ A).elim λo' l=>
    have fl: ∀a b p,b≠ .it->τ.R.kp b a p->(τ.R.bx σ.s.heap.objs.size<|.kp .it o').kp b a p:=λa b p nb z=>(Rm.cV λq=>nb (jZ (iQ q.symm z) e).1).trans z
    have fl':τ.R.fl<|τ.R.bx σ.s.heap.objs.size<|.kp .it o':=λa p e=>fl a .fr p (λz=>fX z) e
    ao2 ht l.1 (cls _ _ l.2) hn (t (τ.qh (τ.R.bx σ.s.heap.objs.size<|.kp .it o') hp tk (· =σ.s.heap.objs.size) (λb=>Rm.cV) (λb o n=>k b o λz=>n<|b_.mp z) fr
     (λb c o z e=>by subst z;cases(Rm.cO ..).symm.trans e;exact l.1) λb z q=>bR <|(z▸q).symm.trans l.1) w rfl (uj (λb=>Rm.cV) fr)
     ⟨i+1,o',λa p e=>fl' a p<|f a p e,lt,l.2,Rm.cO ..⟩<|(s i v w ev p).aG fl'))
  (σ.dS _) (λa b o w e=>bR <|σ.new.symm.trans<|(aA σ.R w).symm.trans e) ⟨0,o,(σ.dS _).fl,j7 _,h0,Rm.cO ..⟩ k
end
theorem pP{α β}(f:α->β): ∀(l:List α) (i:Nat),ah (l.map f) i=(ah l i).map f
 |[],_=>rfl
 |_::_,0=>rfl
 |_::r,i+1=>pP f r i
theorem PM{R}{vs}{a}(r:aV R vs a){i}{v}{w}(h:ah vs i=U v)(q:a.toArray[i]? =U w):ax R v w:=r.ah h λb e p=>by rw[u2] at q;exact iK (e.symm.trans q) p
section
variable{σ:St x}{K:It}
abbrev uD(n:String)(l:av)(i:Nat)(o:Obj):Prop:=o.cls= .type n/\o.data= .fields #[l,.int i 0]
theorem Mq{l}{xs}{a}{n}{g}(ht:i5 h)(e:σ.s.heap.get? l=U (cz a n))
  (zP: ∀{y} (τ:St y) {G:Prop},σ.R.fl τ.R->g τ.A->(∀a n,τ.s.heap.get? l=U (cz a n)->aV τ.R xs a->G)->G) (k:K xs g σ.A):aw (M x) Ar (jJ<|.ref l) (PI σ h K) N0 σ.s:=
 R_ ⟨_,e,rfl,n,rfl⟩ (.bp (uD "list_iterator"<|.ref l) ht dd rfl (λ_ _ q=>q.1) ⟨rfl,rfl⟩ (λτ hh fl ga=>zP τ fl ga λb c e' r'=>
  ⟨_,_,_,_,u_.list hh σ.s.heap.objs.size l (jI<|g_ e) b.toArray,r'.length,λ_ _ z=>z.1,λi o q eo=>⟨⟨o,eo,q⟩,⟨_,e',rfl,c,rfl⟩⟩,λi v w h1 h2=>PM r' h1 h2⟩) k)
theorem WL{l}{xs}{a}{n}(ht:i5 h)(e:σ.R.is l<|gS a n)(r:aV σ.R xs a)(k:K xs bP σ.A):aw (M x) Ar (jJ<|.ref l) (PI σ h K) N0 σ.s:=
 Sa ⟨_,σ.at e,rfl,n,rfl⟩ (.bp (uD "tuple_iterator"<|.ref l) ht dd rfl (λ_ _ q=>q.1) ⟨rfl,rfl⟩ (λτ hh fl ga=>
  ⟨_,_,_,_,Sb hh σ.s.heap.objs.size l (jI<|g_<|σ.at e) a.toArray,r.length,λ_ _ z=>z.1,λi o q eo=>⟨⟨o,eo,q⟩,⟨_,τ.at<|fl _ _ e,rfl,n,rfl⟩⟩,λi v w h1 h2=>PM (r.aG fl) h1 h2⟩) k)
theorem Xf{b}{t}{l}(ht:i5 a)(eb:jP b=l)(k:K (vi l) bP σ.A):aw (M x) Ar (jJ<|.bytes b t) (PI σ a K) N0 σ.s:=
 a15 (.bp (uD "bytes_iterator"<|.bytes b t) ht dd rfl (λ_ _ q=>q.1) ⟨rfl,rfl⟩ (λτ hh fl ga=>
  ⟨_,_,_,_,a16 hh σ.s.heap.objs.size b t,by subst eb;rw[vi,jP,bO,bO,s8],λ_ _ z=>z,λi o q eo=>⟨o,eo,q⟩,λi v w h1 h2=>h2.elim λc h2=>h2.elim λu h2=>by
   subst eb
   rw[vi,jP,pP,pP,lP,s7,h2.1] at h1
   cases h1;rw[h2.2];exact .int _ _⟩) k)
theorem aO9{y}{t}(ht:i5 a)(k:K (y.cps.toList.map λc=>V.str ⟨#[c]⟩) bP σ.A):aw (M x) Ar (jJ<|.str y t) (PI σ a K) N0 σ.s:=by
 have main: ∀(n),BO.contains n=ae->(∀{z:Cx} {Ar:cW},Ar.handled=Y->u_ z.T.prog z.T.w Ar σ.s.heap.objs.size [σ.s.heap.objs.size] [σ.s.heap.objs.size] y.cps.size (SignAt y) λi h=>h.IsStrIter σ.s.heap.objs.size n y t i)->
   PI σ a K (.ref σ.s.heap.objs.size) {σ.s with heap:=σ.s.heap.push {cls:= .type n,data:= .fields #[.str y t,.int 0 0]}}:=λn hn W=>
  .bp (uD n<|.str y t) ht hn rfl (λ_ _ q=>q.1) ⟨rfl,rfl⟩ (λτ hh fl ga=>⟨_,_,_,_,W hh,by rw[bO,s8],λ_ _ z=>z,λi o q eo=>⟨o,eo,q⟩,λi v w h1 h2=>h2.elim λc h2=>h2.elim λu h2=>by
   rw[pP,lP,s7,h2.1] at h1
   cases h1;rw[h2.2];exact .str _ _⟩) k
 cases ha:y.cps.all (· <128)
 ·exact wpAny_pyIter_wide ha (main "str_iterator" dd λhh=>u_.strWide hh _ y t)
 ·exact wpAny_pyIter_ascii ha (main "str_ascii_iterator" dd λhh=>u_.strAscii hh _ y t)
theorem jb{h:cu}{d n:Nat}{ds}{a}{R}(e:h.get? d=U (gb (fY ds a) n))(nd:(dJ ds).Nodup)(r:dD R ds a):h.DictAt (ik x) d (kv ds a) n:=
 ⟨_,(fY ds a).toArray,e,⟨rfl,rfl,rfl⟩,rfl,λe he=>r.has e<|A5.mpr he,r.Py,r.dJ▸nd⟩
theorem dD.Fz{R}{ds}{j}{G:Prop}(r:dD R ds j): ∀(i:Nat) (a:Int×V),c6.ah ds i=U a->(∀w,(kv ds j)[i]? =U (a.1,w)->ax R a.2 w->G)->G:=r.rec (λ_ _ h=>bR h) λ{a b _ _} p _ ih i=>match i with
 |0=>λc h k=>by cases h;exact k _ rfl p
 |i+1=>λc h k=>ih i c h k
theorem dD.ah{R}{ds}{j}{G:Prop}{i}{a}(r:dD R ds j)(h:c6.ah ds i=U a)(k: ∀w,(kv ds j)[i]? =U (a.1,w)->ax R a.2 w->G):G:=r.Fz i a h k
theorem Oj{α β}{f}{l:List α}{i}{v:β}(h:ah (l.map f) i=U v): ∃a,ah l i=U a/\f a=v:=a17.mp ((pP ..).symm.trans h)
theorem HE{R}{k}{w}(h:A9 k w=aa):ax R (.int k) w:=by
 cases w with
 |int i t=>rw[<-beq_iff_eq.mp h];exact .int ..
 |_=>nomatch h
theorem sG{R}{ds}{a}(r:dD R ds a):(kv ds a).length=ds.length:=r.rec rfl λ_ _=>aA (· +1)
theorem Wh{d}{ds}{h}{n}(ht:i5 j)(e:σ.R.is d<|gb (fY ds h) n)(hm:(d==kP)=ae)(nd:(dJ ds).Nodup)(r:dD σ.R ds h)(k:K (ds.map λe=>V.int e.1) bP σ.A):
  aw (M x) Ar (jJ<|.ref d) (PI σ j K) N0 σ.s:=
 wpAny_pyIter_dict hm (jb (σ.at e) nd r) (.bp (λi o=>o.cls= .type "dict_keyiterator"/\o.data= .fields #[.ref d,.int i 0,.int (kv ds h).length 0,.int n 0]) ht dd rfl (λ_ _ q=>q.1) ⟨rfl,rfl⟩ (λ{y Ar} τ hh fl ga=>
  ⟨_,_,_,_,u_.dictKeys hh σ.s.heap.objs.size d (jI<|g_<|σ.at e) (kv ds h) n,(sG r).trans (bO _).symm,λ_ _ z=>z.1,λi o q eo=>⟨⟨o,eo,q⟩,jb (τ.at<|fl _ _ e) nd<|r.aG fl⟩,λi v w h1 h2=>
   h2.elim λf h2=>h2.elim λu h2=>(Oj h1).elim λa h1=>r.ah h1.1 λc b _=>by
    cases b.symm.trans h2.1;exact h1.2▸HE h2.2⟩) k)
theorem uh: ∀(a s:Int) (n:Nat),(ez a s n).length=n
 |_,_,0=>rfl
 |a,s,n+1=>aA (· +1) (uh (a+s) s n)
theorem Mt: ∀(a s:Int) (n i:Nat) (v:V),ah (ez a s n) i=U v->v= .int (a+i*s)
 |_,_,0,_,_,h=>bR h
 |a,s,n+1,0,v,h=>by cases h;rw[G_,Rg,e7]
 |a,s,n+1,i+1,v,h=>by rw[Mt (a+s) s n i v h,Sc,Rb,aU6,gq,iy s]
noncomputable abbrev au5(a b c:Int):Obj:={cls:= .type "range_iterator",dict:=Y,data:= .fields #[Bg a,Bg b,Bg c],slots:= #[]}
theorem EP{r}{a b c}{t u v}{n:Nat}(ht:i5 h)(hr:IsRange σ.s.heap r a b c t u v)(hs:a18 a b c=aa)(hn:Bh a b c=n)(k:K (ez a c n) bP σ.A):
  aw (M x) Ar (jJ<|.ref r) (PI σ h K) N0 σ.s:=
 wpAny_pyIter_range hr hs (.bp (n:="range_iterator") (λi o=>o=au5 (a+(i)*c) ((n) -(i)) c) ht dd rfl (λ_ _ q=>by rw[q]) (by rw[hn,G_,Rg,e7,a19]) (λτ hh fl ga=>
  ⟨_,_,_,_,u_.range hh σ.s.heap.objs.size a c n,(uh ..).symm,λ_ _ z=>⟨_,z,rfl⟩,λi o q eo=>by rw[q] at eo;exact eo,λi v w h1 h2=>h2.elim λt h2=>by rw[Mt _ _ _ _ _ h1,h2];exact .int _ _⟩) k)
end
section
variable{σ:St x}{K:It}{tg:Expr}
def St.ag2(σ:St x){h:cu}(t:Nat)(e:σ.R.kp .it Iqv o)(e':h.get? Iqv=U a)(hh: ∀b o,b≠Iqv->σ.s.heap.get? b=U o->h.get? b=U o):St x:=
 σ.qh (σ.R.bx Iqv<|.kp .it a) h t (· =Iqv) (λb=>Rm.cV) hh (λb z=>⟨o,z▸e⟩) (λb c o z q=>by subst z;cases(Rm.cO ..).symm.trans q;exact e') λb z q=>bR <|(z▸q).symm.trans e'
theorem ax1{R:Rm}(e:R.kp .it Iqv o):R.fl<|R.bx Iqv<|.kp .it h:=λa p z=>(Rm.cV λq=>fX (jZ (iQ q.symm z) e).1).trans z
def St.nX(σ:St x){h:cu}(t:Nat)(e:σ.R.kp .it Iqv o)(hh: ∀b o,b≠Iqv->σ.s.heap.get? b=U o->h.get? b=U o):St x:=
 σ.qh (σ.R.dX Iqv) h t (· =Iqv) (λb z=>aE z) hh (λb z=>⟨o,z▸e⟩) (λb c o z e=>bH <|(aM z).symm.trans e) λb z _=>aM z
noncomputable abbrev NY(d:ai)(m n:Nat)(i:Nat)(a b:av):Obj:={cls:= .type "dict_itemiterator",dict:=Y,data:= .fields #[.none,.bool ae,.ref d,.int i 0,.int m 0,.int n 0,a,b],slots:= #[]}
inductive M1 (S:Rm) (Iqv d:ai) (m n:Nat) (xs:List V) (R:Rm):List V->Prop
 |mk (i:Nat) (a b:av):S.fl R->R.kp .it Iqv (NY d m n i a b)->M1 S Iqv d m n xs R (xs.drop i)
theorem ax8(e:σ.R.is d<|gb (fY ds j) n)(nd:(dJ ds).Nodup)(r:dD σ.R ds j)
  (hv:σ.s.heap.IsItemsView v d) (k:K (ds.map λe=>V.aj [.int e.1,e.2]) bP σ.A):aw (M x) Ar (jJ<|.ref v) (PI σ (.Tuple y W X) K) N0 σ.s:=
 wpAny_pyIter_items hv (jb (σ.at e) nd r) (.of (own:=(· =σ.s.heap.objs.size)) (at_:=λr R=>M1 σ.R σ.s.heap.objs.size d (kv ds j).length n (ds.map λe:Int×V=>V.aj [.int e.1,e.2]) R r) (σ.iter (NY d (kv ds j).length n 0 .none .none) rfl) (ds.map λe=>V.aj [.int e.1,e.2])
   (λk h=>h.casesOn λi a b f e=>⟨i,a,b,λa o e=>k a _ o (λz=>fX z)<|f a o e,k _ _ _ (λz=>fX z) e⟩) (λz=>nomatch z)
   (λτ l Q hh h ga=>h.casesOn λi a b f h1 t=>
   have hm:=jb (τ.at<|f _ _ e) nd (r.aG f)
   t.el (λc t=>wpAny_pyNext_items_end hh (τ.at h1) hm (List.getElem?_eq_none_iff.mpr<|(sG r).trans (bO _).symm▸c) λhp k=>t (τ.nX τ.s.toks h1 k) rfl<|uj (λb z=>aE z) λb z=>⟨_,z▸h1⟩)
   λu J lt t=>(Oj J).elim λp hp=>(r.aG f).ah hp.1 λw e1 rw=>wpAny_pyNext_items_item (τ.at h1) hm e1 λkey A hkey g ht hsz hk=>
     wpAny_letOwnedTupleGo_items g λD hit2 sb=>
      have fl:=ax1 h1
      have s:=R4 (g_<|τ.at h1)
      let υ:=τ.ag2 τ.s.toks h1 hit2 λb o nb q=>(sb.2 b nb).trans (hk b o nb q)
      have nn:=(Rm.cV s).trans τ.new
      have iH:=(Rm.jh nn)
      t (υ.FG nn<|(sb.2 _ s).trans ht) _ rfl (λa b o n e=>iH _ _ _<|uj (λb=>Rm.cV) (λb z=>⟨_,z▸h1⟩) a b o n e) ⟨i+1,key,w,λa o e=>iH.fl a o<|fl _ _<|f a o e,iH _ _ _<|Rm.cO ..⟩
       (hp.2▸ .aj (Rm.cO ..) (.cons (HE hkey)<|.cons ((rw.aG fl).aG iH.fl) .nil)))
  (σ.dS _) (λa b o w e=>bH <|σ.new.symm.trans<|(aA σ.R w).symm.trans e) ⟨0,.none,.none,(σ.dS _).fl,Rm.cO ..⟩ k)
end
section
variable{E:av->bB->Prop}
theorem aD6{Q:av->bB->Prop}(he:Sd s.heap e a c j)(p:s.heap.IsListIter a l i)(hl:s.heap.IsList l h)(hx:h[i]? =U x)(hne:e≠a)
  (J: ∀hp,IsEnumOut hp e a (c+1) x s.heap.objs.size->hp.IsListIter a l (i+1)->hp.get? s.heap.objs.size=U {cls:= .type "tuple",data:= .seq #[.int c s.toks,x]}->
   (∀b o,b≠e->b≠a->s.heap.get? b=U o->hp.get? b=U o)->Q (.ref s.heap.objs.size) {s with heap:=hp,toks:=s.toks+1}):
  aw (fJ prog w) A (iU.«enumerate.__next__» ⟨[.ref e],[]⟩) (λgA s'=> ∃v,gA= .done (.ret v)/\Q v s') E s:=by
 obtain⟨hp,g,d,tk,os⟩:=s
 have u:=g_ he
 show aw _ _ (field (.ref e) 2>>=_) _ _ _
 refine aF (Hb he rfl rfl<|wpAny_bind<|wpAny_nextOf_list_item p hl hx λp1 hit1 b1=> ?_)
 have b1:=b1
 have e1:=(b1.2 e hne).trans he
 refine aF (Hb e1 rfl rfl ?_)
 refine aF (Hb e1 rfl rfl ?_)
 refine aF (wpAny_mkInt ?_)
 refine aF (Hc e1 (by simp) λp2 e2 b2=> ?_)
 have e2:=e2
 have b2:=b2
 refine aF (Hc e2 (by simp) λp3 e3 b3=> ?_)
 have e3:=e3
 have b3:=b3
 have z3:p3.objs.size=hp.objs.size:=by rw[b3.1,b2.1,b1.1]
 refine aF (wpAny_newTuple ?_)
 have k4: ∀b o,b≠e->b≠a->hp.get? b=U o->(p3.push {cls:= .type "tuple",data:= .seq #[.int c tk,x]}).get? b=U o:=λb o f z y=>
  eB _ (by rw[b3.2 b f,b2.2 b f,b1.2 b z];exact y)
 have t4:(p3.push {cls:= .type "tuple",data:= .seq #[.int c tk,x]}).get? hp.objs.size=U {cls:= .type "tuple",data:= .seq #[.int c tk,x]}:=by rw[<-z3];exact hg _ rfl
 have e4:Sd (p3.push {cls:= .type "tuple",data:= .seq #[.int c tk,x]}) e a (c+1) j:=eB _ e3
 have hit4:(p3.push {cls:= .type "tuple",data:= .seq #[.int c tk,x]}).IsListIter a l<|i+1:=by
  obtain⟨o,q,r⟩:=hit1
  exact⟨o,eB _ (by rw[b3.2 a hne.symm,b2.2 a hne.symm];exact q),r⟩
 rw[z3]
 generalize p3.push {cls:= .type "tuple",data:= .seq #[.int c tk,x]}=p4 at k4 t4 e4 hit4
 refine aF ?_
 unfold iU.SmallTypes.ownedTupleIsFree
 refine aF (Hb e4 rfl rfl<|wpAny_pure ?_)
 simp only[if_true]
 refine aF (wpAny_rule<|wpAny_bind<|wpAny_field e4 rfl rfl<|wpAny_bind<|wpAny_setField_rec e4 (by simp) λp5 e5 b5=> ?_)
 have e5:=e5
 have b5:=b5
 refine aF ?_
 unfold iU.SmallTypes.ownedTupleHandOut
 refine aF (Hc e5 (by simp) λK e6 b6=> ?_)
 have e6:=e6
 have b6:=b6
 refine Hc e6 (by simp) λD t b7=> ?_
 have t:=t
 have up: ∀b,b≠e->D.get? b=p4.get? b:=λb q=>by rw[b7.2 b q,b6.2 b q,b5.2 b q]
 refine aF (wpAny_letGo<|wpAny_pure ⟨_,rfl,J D t ?_ ?_ λb o f z y=>by rw[up b f];exact k4 b o f z y⟩)
 ·obtain⟨o,q,r⟩:=hit4
  exact⟨o,by rw[up a hne.symm];exact q,r⟩
 ·rw[up _<|Nat.ne_of_gt u];exact t4
theorem WP(he:Sd s.heap e j c p)(f:s.heap.IsListIter j l i)(hl:s.heap.IsList l h)(hx:h[i]? =U x)(hne:e≠j)
  (g: ∀hp,IsEnumOut hp e j (c+1) x s.heap.objs.size->hp.IsListIter j l (i+1)->hp.get? s.heap.objs.size=U {cls:= .type "tuple",data:= .seq #[.int c s.toks,x]}->
   (∀b o,b≠e->b≠j->s.heap.get? b=U o->hp.get? b=U o)->Q (U<|.ref s.heap.objs.size) {s with heap:=hp,toks:=s.toks+1}):
  aw (fJ prog w) A (Bf<|.ref e) Q E s:=by
 have hT:s.TypeIs (.ref e) "enumerate":=⟨_,he,rfl⟩
 unfold Bf
 exact aF (wpAny_attempt (RR hT a20
  (G3 a20 hT PySem.F.entry_enumerate_next (aD6 he f hl hx hne λhp a b c k=>bW<|g hp a b c k)<|PySem.F.args_enumerate_next_1 _)))
end
open AutoSeq1 (wpAny_loadPart')
theorem aG8 a b:checkTypeCall "enumerate" ⟨[a,b],[]⟩=cG ():=by kernel_rfl
theorem WX a b:Se "enumerate.__new__" ⟨[.type "enumerate",a,b],[]⟩=cG ():=by kernel_rfl
theorem as6{E}(h: ∀b,Q b s):aw (fJ prog w) A (iU.SmallTypes.calledThroughType cls) Q E s:=aF (wpAny_stack_any λst=>bW<|h _)
set_option maxHeartbeats 2000000 in
theorem U7 l items n c t(hc:iU.SmallTypes.fitsIndex c=aa):
  Meets (iU.«enumerate.__new__» ⟨[.type "enumerate",.ref l,.int c t],[]⟩) (λ_ R s=>s.heap.get? l=U {cls:= .type "list",dict:=Y,data:= .seq items n,slots:= #[]}/\
   R (.ok<|.ret<|.ref (s.heap.push {cls:= .type "list_iterator",data:= .fields #[.ref l,.int 0 0]}).objs.size)
    {s with heap:=(s.heap.push {cls:= .type "list_iterator",data:= .fields #[.ref l,.int 0 0]}).push {cls:= .type "enumerate",data:= .fields #[.none,.bool ae,.ref s.heap.objs.size,Bg c,.none,.none]}}):=
 .of_wp λprog w A R s h=>by
  obtain⟨hp,g,d,tk,os⟩:=s;obtain⟨hl,h⟩:=h
  have hsub:=sub_enumerate
  have hL:cu.IsList (bB.heap ⟨hp,g,d,tk,os⟩) l items:=⟨_,hl,rfl,n,rfl⟩
  wp_walk using Sf hl,as6
  intro b
  cases b
  ·wp_walk using Sf hl,R_ hL
   exact⟨_,rfl,h⟩
  ·wp_walk using Sf hl,R_ hL
   exact⟨_,rfl,h⟩
section
variable{σ:St x}{K:It}
noncomputable abbrev v8(a:ai)(c:Int)(old:av):Obj:={cls:= .type "enumerate",dict:=Y,data:= .fields #[.none,.bool ae,.ref a,Bg c,.none,old],slots:= #[]}
theorem Nj: ∀l c i v,ah (lW c l) i=U v-> ∃u,ah l i=U u/\v= .aj [.int<|c+i,u]
 |[],_,_,_,h=>bR <|h
 |u::_,c,0,v,h=>⟨u,rfl,by cases h;rw[G_,e7]⟩
 |_::r,c,i+1,v,h=>(Nj r (c+1) i v h).imp λu q=>⟨q.1,by rw[q.2,Sc,gq,iy 1]⟩
theorem Gd: ∀l c,(lW c l).length=l.length
 |[],_=>rfl
 |_::r,c=>aA (· +1) (Gd r<|c+1)
theorem ax.eq(e:v=u)(r:ax R u w):ax R v w:=e▸r
noncomputable def Rm.d3(R:Rm)(a b:ai)(r q:Option Rl):Rm:=λc=>if c=a then r else if c=b then q else R c
theorem Rm.ux{R:Rm}(n: ¬(c=a\/c=b)):R.d3 a b r q c=R c:=(aE λz=>n<|.inl z).trans (aE λz=>n<|.inr z)
theorem Rm.zA{R:Rm}:R.d3 a b r q a=r:=aM rfl
theorem Rm.yn{R:Rm}(n:b≠a):R.d3 a b r q b=q:=(aE n).trans (aM rfl)
theorem az4{R:Rm}(e:R.kp .it a o)(f:R.kp .it b p):R.fl<|R.d3 a b r q:=λc d z=>(Rm.ux λy=>y.elim (λy=>fX (jZ (iQ y.symm z) e).1) λy=>fX (jZ (iQ y.symm z) f).1).trans z
def St.UH(σ:St x){h:cu}(t:Nat)(n:b≠a)(e:σ.R.kp .it a o)(f:σ.R.kp .it b p)(e':h.get? a=U j)(g:h.get? b=U l)(hh: ∀c o,¬(c=a\/c=b)->σ.s.heap.get? c=U o->h.get? c=U o):St x:=
 σ.qh (σ.R.d3 a b (U<|.kp .it j)<|U<|.kp .it l) h t (λc=>c=a\/c=b) (λc=>Rm.ux) hh (λc z=>z.elim (λz=>⟨o,z▸e⟩) λz=>⟨p,z▸f⟩)
  (λc d q z y=>z.elim (λz=>by subst z;cases Rm.zA.symm.trans y;exact e') λz=>by subst z;cases(Rm.yn n).symm.trans y;exact g)
  λc z y=>z.elim (λz=>bR <|(z▸y).symm.trans e') λz=>bR <|(z▸y).symm.trans g
def St.aa8(σ:St x){h:cu}(t:Nat)(n:b≠a)(e:σ.R.kp .it a o)(f:σ.R.kp .it b p)(hh: ∀c o,¬(c=a\/c=b)->σ.s.heap.get? c=U o->h.get? c=U o):St x:=
 σ.qh (σ.R.d3 a b Y Y) h t (λc=>c=a\/c=b) (λc=>Rm.ux) hh (λc z=>z.elim (λz=>⟨o,z▸e⟩) λz=>⟨p,z▸f⟩)
  (λc d q z y=>z.elim (λz=>by subst z;cases Rm.zA.symm.trans y) λz=>by subst z;cases(Rm.yn n).symm.trans y)
  λc z y=>z.elim (λz=>z▸Rm.zA) λz=>by subst z;exact Rm.yn n
inductive L0 (S:Rm) (a b l:ai) (c:Int) (xs:List V) (R:Rm):List V->Prop
 |mk (i:Nat) (old:av) (o:Obj):S.fl R->R.kp .it a (v8 b (c+i) old)->R.kp .it b o->uD "list_iterator" (.ref l) i o->i<=xs.length->L0 S a b l c xs R ((lW c xs).drop i)
theorem Ka{hp:cu}(el:σ.R.is l<|cz W n)(r:aV σ.R xs W)
  (he:hp.get? (σ.s.heap.objs.size+1)=U (v8 σ.s.heap.objs.size c .none)) (hi:hp.get? σ.s.heap.objs.size=U D) (hf:uD "list_iterator" (.ref l) 0 D) (hk: ∀b o,σ.s.heap.get? b=U o->hp.get? b=U o) (k:K (lW c xs) bP σ.A):
  aw (M x) Ar (jJ<|.ref<|σ.s.heap.objs.size+1) (PI σ (.Tuple X kk tp) K) N0 {σ.s with heap:=hp}:=
 have n0:=(td _).symm
 have new:=λa z=>σ.bh.dm a (z.elim (λz=>z▸jm _) λz=>z▸dP _)
 have N:=jI (g_<|σ.at el)
 have e1:=(Rm.cV n0).trans (new _<|.inr rfl)
 have l2:=(Rm.jh e1)
 have ll:σ.R.le<|(σ.R.bx (σ.s.heap.objs.size+1)<|.kp .it<|v8 σ.s.heap.objs.size c .none).bx σ.s.heap.objs.size<|.kp .it D:=λa b o z=>l2 _ _ _ (((Rm.jh<|new _<|.inl rfl)) _ _ _ z)
 have m1:=σ.bh.mG _ he (λb o _=>hk b o) (σ.bh.kB λz=>bH <|(new _<|.inl rfl).symm.trans z) (λ_ z=>bH <|(new _<|.inl rfl).symm.trans z) λ_ z=>bH <|(new _<|.inl rfl).symm.trans z
 wpAny_pyIter_enum he (.of (own:=λa=>a=σ.s.heap.objs.size+1\/a=σ.s.heap.objs.size) (at_:=λr R=>L0 σ.R (σ.s.heap.objs.size+1) σ.s.heap.objs.size l c xs R r)
   (σ.to _ σ.A hp σ.s.toks (m1.mG _ hi (λb o _=>id) (m1.kB λz=>bH <|e1.symm.trans z) (λ_ z=>bH <|e1.symm.trans z) λ_ z=>bH <|e1.symm.trans z) ll) (lW c xs)
   (λk h=>h.casesOn λi a o f ha hb hi le=>⟨i,a,o,λa o e=>k a _ o (λz=>fX z)<|f a o e,k _ _ _ (λz=>fX z) ha,k _ _ _ (λz=>fX z) hb,hi,le⟩) (λz=>nomatch z)
   (λ{y Ar} τ q Q hh h ga=>h.casesOn λi a b f ha hb hi le t=>
   have j:=⟨b,τ.at hb,hi⟩
   have hl:=⟨_,τ.at<|f _ _ el,rfl,n,rfl⟩
   have ho: ∀b,b=σ.s.heap.objs.size+1\/b=σ.s.heap.objs.size-> ∃o,τ.R.kp .it b o:=λb z=>z.elim (λz=>⟨_,z▸ha⟩) λz=>⟨_,z▸hb⟩
   t.el (λd t=>wpAny_pyNext_enum_endD (Draws.list (A:=Ar.in1) hh σ.s.heap.objs.size l N W.toArray) (τ.at ha) ⟨((j8.trans r.length).trans<|a14 (Gd xs c▸d) le).symm▸j,hl⟩ λhp k=>
    t (τ.aa8 τ.s.toks n0 ha hb λb o nb=>k b o λz=>nb<|.inr z) rfl<|uj (λb=>Rm.ux) ho)
   λu eu lt t=>(Nj xs c i u eu).elim λp hp=>(r.aG f).ah hp.1 λw e1 rw=>WP (τ.at ha) j hl (u2.trans e1) (td _) λT hu hit2 ht hk=>
     wpAny_letOwnedTupleGo_enum hu λZ s sb=>hit2.elim λJ g=>
      have nT: ∀{a o},τ.R.kp .it a o->τ.s.heap.objs.size≠a:=λz=>R4 (g_<|τ.at z)
      have e5:c+(i)+1=c+((i+1:Nat)):=by rw[Sc,gq]
      let υ:=τ.UH (τ.s.toks+1) n0 ha hb s ((sb.2 _ n0).trans g.1) λb o nb q=>(sb.2 b λz=>nb<|.inl z).trans (hk b o (λz=>nb<|.inl z) (λz=>nb<|.inr z) q)
      have nn:=(Rm.ux λz=>z.elim (nT ha)<|nT hb).trans τ.new
      have fl:=az4 ha hb
      have iH:=(Rm.jh (r:= .kp .fr<|gS [.int (c+(i)) τ.s.toks,w] 0) nn)
      t (υ.FG nn<|(sb.2 _<|nT ha).trans ht) _ rfl (λa b o n e=>iH _ _ _<|uj (λb=>Rm.ux) ho a b o n e) ⟨i+1,w,J,λa o e=>iH.fl a o<|fl _ _<|f a o e,e5▸iH _ _ _ Rm.zA,iH _ _ _<|Rm.yn n0,g.2,Gd xs c▸lt⟩
       (ax.eq hp.2<|.aj (Rm.cO ..)<|.cons (.int ..)<|.cons ((rw.aG fl).aG iH.fl) .nil))
  ll (λa b o w e=>bH <|(new a w).symm.trans e) ⟨0,.none,D,ll.fl,by rw[G_,e7];exact l2 _ _ _<|Rm.cO ..,Rm.cO ..,hf,j7 _⟩ k)
end
theorem yC(h: -4611686018427387904<=i)(q:i<=4611686018427387904):a21 i=aa:=fG.mpr ⟨decide_eq_true<|az dd h,decide_eq_true<|g8 q dd⟩
theorem Mz{n c:Int}(hn:0 <n)(hc:0 <c)(hl:n<=2199023255552):0<=(n -1)/c+1/\(n -1)/c+1<=2199023255552:=
 have h:=aS0 hn
 ⟨GO (xn h<|eT hc) dd,az (Int.add_le_of_le_sub_right<|Q_ c h) hl⟩
theorem PF(ha:ip a)(hb:ip b)(h0:c≠0):0<=Bh a b c/\Bh a b c<=2199023255552:=by
 unfold Bh
 refine if h:c>0 then ?_ else ?_
 ·rw[aM h]
  exact if q:a <b then by rw[aM q];exact Mz (a22 q) h (az (xl hb.2 ha.1) dd) else by rw[aE q];decide
 ·rw[aE h]
  exact if q:a>b then by rw[aM q];exact Mz (a22 q) (Int.neg_pos_of_neg<|Int.lt_iff_le_and_ne.mpr ⟨fH.mp h,h0⟩) (az (xl ha.2 hb.1) dd) else by rw[aE q];decide
theorem Ep(ha:ip a)(hb:ip b)(hc: -1000<=c/\c<=1000)(h0:c≠0):a18 a b c=aa:=
 have f: ∀{i:Int},ip i->a21 i=aa:=λh=>yC (az dd h.1) (az h.2 dd)
 have z:=PF ha hb h0
 fG.mpr ⟨fG.mpr ⟨fG.mpr ⟨fG.mpr ⟨f ha,f hb⟩,f ⟨az dd hc.1,az hc.2 dd⟩⟩,yC (az dd z.1)<|az z.2 dd⟩,
  xm.mpr (.inr (if h:c>0 then(aM h).trans (yC (az dd<|fU hb.1<|Ri hc.1 1)<|az (fU hb.2<|Ri hc.2 1) dd)
   else(aE h).trans<|yC (az dd<|fU hb.1<|g9 hc.1 1)<|az (fU hb.2<|g9 hc.2 1) dd))⟩
theorem Fv(ha:ip a)(hb:ip b)(h0:c≠0):Bh a b c=(sp a b c:Int):=(Rn (PF ha hb h0).1).symm
theorem IC a b:sp a b 1=(b -a).toNat:=by
 unfold sp
 rw[aM dd,GK]
 exact if q:a <b then by rw[aM q,Rk] else by rw[aE q,Int.toNat_of_nonpos<|Int.sub_nonpos_of_le<|fH.mp q];rfl
section
variable{σ:St x}{K:It}{tg:Expr}{vs:List V}
theorem C3{τ:St x}(l:σ.le τ)(h:aw (M x) Ar (jJ a) (PI τ tg K) N0 τ.s):aw (M x) Ar (jJ a) (PI σ tg K) N0 τ.s:=bz h (λ_ _ p=>p.aG l) λ_ _=>id
theorem Hv(ht:i5 tg)(h:hQ σ.A K v)(r:ax σ.R v w):aw (M x) Ar (jJ w) (PI σ tg K) N0 σ.s:=
 hQ.casesOn h (λk r=>r.of λws a n e r=>WL ht e r k)
  (λk r=>r.of λws a n e r=>Mq ht (σ.at e) (λτ _ fl _ q=>q ws n (τ.at<|fl _ _ e)<|r.aG fl) k) (λk r=>r.of λb t e=>Xf ht e k) (λk r=>r.of λt=>aO9 ht k)
  (λ_ k r=>r.of λc a n e hm nd r=>Wh ht e hm nd r k) (λe k r=>r.of<|σ.g6 e λws n e' _=>Mq ht e' (λτ _ _ e q=>τ.g6 e q) k) r
theorem Ie(h:0<=a)(q:a<=1099511627776):ip a:=⟨az dd h,q⟩
theorem aP3(ht:i5 tg)(h:j3 σ.A K vs)(r:aV σ.R vs j):aw (M x) Ar (call (.type "range") j) (λw s=>aw (M x) Ar (jJ w) (PI σ tg K) N0 s) N0 σ.s:=
 j3.casesOn h
  (λ{b} hb k r=>r.bp λw r=>r.of λt=>call_range_1<|C3 (τ:=(σ.pe _).kF _) (Rm.le_refl _)<|EP ht (Sg ..) (Ep (Ie (aU 0) dd) hb dd dd) (Fv (Ie (aU 0) dd) hb dd)<|by rw[IC,a19];exact k)
  (λ{a b} ha hb k r=>r.of λw j r1 r=>r.bp λw2 r2=>r1.of λt=>r2.of λu=>call_range_2<|C3 (τ:=(σ.pe _).kF _) (Rm.le_refl _)<|EP ht (Sg ..) (Ep ha hb dd dd) (Fv ha hb dd)<|by rw[IC];exact k)
  (λ{a b c} ha hb hc h0 k r=>r.of λw j r1 r=>r.of λw2 j r2 r=>r.bp λw3 r3=>r1.of λt=>r2.of λu=>r3.of λv=>call_range_3 h0 (C3 (τ:=(σ.pe _).kF _) (Rm.le_refl _)<|EP ht (Sg ..) (Ep ha hb hc h0) (Fv ha hb h0) k)
   (.inl<|aW0<|mo.mp<|by have:=hc;lia)) r
theorem UR{l n:Nat}{s}(hc:ip c)(e:s.heap.get? l=U (cz j n))
  (h: ∀hp,hp.get? (s.heap.objs.size+1)=U (v8 s.heap.objs.size c .none)->hp.get? s.heap.objs.size=U {cls:= .type "list_iterator",data:= .fields #[.ref l,.int 0 0]}->(∀b o,s.heap.get? b=U o->hp.get? b=U o)->Q (.ref<|s.heap.objs.size+1) {s with heap:=hp}):
  aw (M x) Ar (call (.type "enumerate") [.ref l,.int c t]) Q N0 s:=by
 refine callType_new PySem.F.called_enumerate dd (aG8 _ _) (WX _ _) (λa=>PySem.F.initArgs_range_2 a _ _) PySem.F.entry_enumerate_new (U7 l j.toArray n c t<|fG.mpr ⟨decide_eq_true<|az dd hc.1,decide_eq_true<|g8 hc.2 dd⟩) ⟨e,?_⟩
 have hz:(s.heap.push {cls:= .type "list_iterator",data:= .fields #[.ref l,.int 0 0]}).objs.size=s.heap.objs.size+1:=tc ..
 have he:=hg (s.heap.push {cls:= .type "list_iterator",data:= .fields #[.ref l,.int 0 0]}) (o:=v8 s.heap.objs.size c .none) rfl
 refine(?_)
 rw[hz] at he⊢
 exact⟨⟨_,he,rfl⟩,h _ he (eB _<|hg _ rfl) λb o q=>eB _<|eB _ q⟩
theorem ab5(h:lq σ.A K vs)(r:aV σ.R vs j):aw (M x) Ar (call (.type "enumerate") j) (λw s=>aw (M x) Ar (jJ w) (PI σ (.Tuple o u p) K) N0 s) N0 σ.s:=
 lq.casesOn h
  (λ{l} k r=>r.bp λw r=>r.of λus a n e r=>call_enumerate_1 (σ.at e) λhp h1 h2 _ hk=>h2.elim λb h2=>Ka e r h1 h2.1 h2.2 hk k)
  (λ{l c} hc k r=>r.of λw j r1 r=>r.bp λw2 r2=>r1.of λus a n e r=>r2.of λt=>UR hc (σ.at e) λhp h1 h2 hk=>Ka e r h1 h2 ⟨rfl,rfl⟩ hk k) r
end
open AutoSeq1 (wpAny_loadPart')
def o6(b:Array UInt8)(i:Nat)(v:av):Prop:= ∃c u,b[i]? =U c/\v= .int (c.toNat:Int) u
section
variable{prog:pv}{w:kN}{A:cW}{E:av->bB->Prop}{s:bB}
theorem Mp(hh:A.handled=Y) b t S res c₀(hS:s.heap.get? S=U {cls:= .type "list",data:= .seq #[] c₀})
  (h: ∀hp tk acc c,(∀a o,a≠S->s.heap.get? a=U o->hp.get? a=U o)->hp.get? S=U {cls:= .type "list",dict:=Y,data:= .seq acc c,slots:= #[]}->
   pK (o6 b) acc b.size->R (.ok<|.ret res) {s with heap:=hp,toks:=tk}) (hn:b.size<=jH):
  aw (fJ prog w) A.in1 (a23 (.ref S) (.bytes b t) res)
   (λgA s'=>match gA with|.done f=>R (.ok f) s'|.again c'=>c'.quiet=aa/\oa (fJ prog w) A c' R s') (λe s'=>R (.error e) s') s:=by
 unfold a23
 refine aF (Sh (q6 _ _ _) ?_)
 have h1:iU.List.listSameRef (.ref S) (.bytes b t)=ae:=rfl
 have h2:(He "bytes"==He "list")=ae:=dd
 have h3:(He "bytes"==He "tuple")=ae:=dd
 simp only[h1,h2,h3,Bool.or_false,a24,if_false]
 refine aF (a15<|aF<|e8 ?_)
 unfold iU.List.listLengthHint
 refine aF (aY1 (q6 _ _ _) FB.slot_bytes_len.lookup ?_)
 wp_delta
 refine aF (wpAny_isInstance (b:=aa) (q6 _ _ _) (by rw[a25];kernel_rfl) ?_)
 refine aF (Sh (q6 _ _ _)<|bW ?_)
 rw[aE dd]
 refine bW ⟨Si F.plain_extend_loop _,codeAny_extend_loopS (a16 (A:=A.in1) hh s.heap.objs.size b t).toS hn _ (λhm=>jI (g_ hS)<|b_.mp hm) _ b.size 0 _ _ _ rfl (j7 _) ⟨_,hg _ rfl,rfl,rfl⟩ (eB _ hS) (pK.nil _) λs' acc c hm g hacc=> ?_⟩
 rw[Moved.eq_with hm]
 refine h s'.heap s'.toks acc c (λa ob ha e=>hm.heap a ob (λhmem=> ?_)<|eB _ e) g hacc
 rcases bC.mp hmem with e'|hmem
 ·exact ha e'
 ·exact absurd (g_ e) (by rw[b_.mp hmem];exact RS _)
end
section
variable{prog:pv}{w:kN}{A:cW}{E:av->bB->Prop}{s:bB}
theorem aK3(hh:A.handled=Y) b t S(hS:s.heap.get? S=U {cls:= .type "list",data:= .seq #[]})
  (h: ∀hp tk acc c,(∀a o,a≠S->s.heap.get? a=U o->hp.get? a=U o)->hp.get? S=U {cls:= .type "list",dict:=Y,data:= .seq acc c,slots:= #[]}->
   pK (o6 b) acc b.size->R (.ok<|.ret .none) {s with heap:=hp,toks:=tk}) (hn:b.size<=jH):
  aw (fJ prog w) A.in1 (iU.«list.__init__» ⟨[.ref S,.bytes b t],[]⟩)
   (λgA s'=>match gA with|.done f=>R (.ok f) s'|.again c'=>c'.quiet=aa/\oa (fJ prog w) A c' R s') (λe s'=>R (.error e) s') s:=by
 refine aF ?_
 unfold iU.List.listItems
 refine aF (R2 hS rfl<|bW ?_)
 refine aF (wpAny_updateSeq hS rfl ?_)
 refine aF (wpAny_letGo ?_)
 refine Mp hh b t S .none _ (uX (u9 λ_=>(#[])) hS rfl) (λhp tk acc c hk g hacc=> ?_) hn
 exact h hp tk acc c (λa o ha e=>hk a o ha<|(cu.get?_update_other _ _<|AY ha).trans e) g hacc
theorem aM3(hh:A.handled=Y) b t(hn:b.size<=jH)
  (i: ∀hp tk acc c,(∀a o,s.heap.get? a=U o->hp.get? a=U o)->
   hp.get? s.heap.objs.size=U {cls:= .type "list",dict:=Y,data:= .seq acc c,slots:= #[]}->pK (o6 b) acc b.size->Q (.ref s.heap.objs.size) {s with heap:=hp,toks:=tk}):
  aw (fJ prog w) A (call (.type "list") [.bytes b t]) Q E s:=by
 refine callType_codes (Q₁:=λg s₁=>g= .ref s.heap.objs.size/\s₁={s with heap:=s.heap.push {cls:= .type "list",data:= .seq #[]}}) PySem.F.called_list (PySem.F.typeCall_list_1 _) PySem.F.entry_list_init
  (code_list_new _ ⟨rfl,rfl⟩) λg s₁ f=> ?_
 obtain⟨rfl,rfl⟩:=f
 have hS:(s.heap.push {cls:= .type "list",data:= .seq #[]}).get? s.heap.objs.size=U {cls:= .type "list",data:= .seq #[]}:=hg _ rfl
 refine⟨⟨_,hS,rfl⟩,PySem.F.args_list_init_2 _ _,aK3 (A:=A.in1) hh b t _ hS (λhp tk acc c hk h hacc=> ?_) hn⟩
 exact⟨rfl,i hp tk acc c (λa o e=>hk a o (jI<|Heap.lt_size e)<|Heap.get?_push_of_some _ e) h hacc⟩
theorem Vs(hh:A.handled=Y) b t(hn:b.size<=jH)
  (j: ∀hp tk acc,(∀a o,s.heap.get? a=U o->hp.get? a=U o)->pK (o6 b) acc b.size->Q acc.toList {s with heap:=hp,toks:=tk}):
  aw (fJ prog w) A (collect<|.bytes b t) Q E s:=by
 unfold collect
 refine aF (wpAny_runValue<|a26 PySem.F.entry_proto_collect ?_)
 rw[a27 PySem.F.plain_proto_collect _]
 refine aF (u4 ?_)
 refine bW ⟨Si a28 _,a26 PySem.F.entry_list_iadd ?_⟩
 rw[a27 a28 _]
 have hS:(s.heap.push {cls:= .type "list",data:= .seq ([]).toArray}).get? s.heap.objs.size=U {cls:= .type "list",data:= .seq #[] 0}:=hg _ rfl
 have fin': ∀(r:u6) (s':bB),(r= .ok (.ret<|.ref s.heap.objs.size)/\ ∃hp tk acc c,s'={s with heap:=hp,toks:=tk}/\(∀a o,s.heap.get? a=U o->hp.get? a=U o)/\hp.get? s.heap.objs.size=U {cls:= .type "list",dict:=Y,data:= .seq acc c,slots:= #[]}/\pK (o6 b) acc b.size)->
   match r with
   |.ok (.ret v)=>aw (fJ prog w) A (match v with
     |q7 a=>do
      match(<-load a).data with
       |Hf xs _=>cG xs.toList
       |_=>Sj "internal:collect"
     |_=>Sj "internal:collect") Q E s'
   |.ok _=>False
   |.error e=>E e s':=by
  rintro r s' ⟨rfl,hp,tk,acc,c,rfl,hk,g,hacc⟩
  refine aF (RG g<|wpAny_pure ?_)
  exact j hp tk acc hk hacc
 refine bz (Mp (s:={s with heap:=s.heap.push {cls:= .type "list",data:= .seq ([]).toArray}})
  (R:=λr s'=>r= .ok (.ret<|.ref s.heap.objs.size)/\ ∃hp tk acc c,s'={s with heap:=hp,toks:=tk}/\(∀a o,s.heap.get? a=U o->hp.get? a=U o)/\hp.get? s.heap.objs.size=U {cls:= .type "list",dict:=Y,data:= .seq acc c,slots:= #[]}/\pK (o6 b) acc b.size)
  hh b t s.heap.objs.size (.ref s.heap.objs.size) 0 hS (λhp tk acc c hk g hacc=>⟨rfl,hp,tk,acc,c,rfl,λa o e=>hk a o (jI<|Heap.lt_size e)<|Heap.get?_push_of_some _ e,g,hacc⟩) hn) (λgA s' h=> ?_) λe s' h=>absurd h.1 (by simp)
 cases gA with
 |done f=>exact fin' (.ok f) s' h
 |again c'=>exact⟨h.1,xC h.2 λr i hr=>fin' r i hr⟩
theorem aN1 b t(hsz:b.size<=jH):
  Meets (iU.«tuple.__new__» ⟨[.type "tuple",.bytes b t],[]⟩)
   (λA R s=>A.handled=Y/\ ∀(hp:cu) (tk:Tok) acc,(∀a o,s.heap.get? a=U o->hp.get? a=U o)->pK (o6 b) acc b.size->
    R (.ok<|.ret<|.ref hp.objs.size) {s with heap:=hp.push {cls:= .type "tuple",data:= .seq acc},toks:=tk}):=
 .of_wp λprog w A R s h=>by
  obtain⟨hh,h⟩:=h
  have hsub:=sub_tuple_self
  have c:=init_tuple_lookup
  have f:=madeHere_tuple
  have hT:s.TypeIs (.bytes b t) "bytes":=q6 _ _ _
  have hh1:A.in1.handled=Y:=hh
  wp_walk using Sh hT,Vs hh1 b t hsz
  intro hp tk acc hk hacc
  show aw _ _ (a29 acc.toList.toArray>>=λv=>ret v) _ _ _
  unfold a29
  refine aF (u4 ?_ (show acc.toList.toArray.size<=jH by simp only[a30];rw[hacc.1];exact hsz))
  refine bW ⟨_,rfl,?_⟩
  have e:acc.toList.toArray=acc:=by simp
  rw[e]
  exact h hp tk acc hk hacc
theorem U6(hh:A.handled=Y) b t(hsz:b.size<=jH)
  (h: ∀(hp:cu) (tk:Tok) acc,(∀a o,s.heap.get? a=U o->hp.get? a=U o)->pK (o6 b) acc b.size->Q (.ref hp.objs.size) {s with heap:=hp.push {cls:= .type "tuple",data:= .seq acc},toks:=tk}):
  aw (fJ prog w) A (call (.type "tuple") [.bytes b t]) Q E s:=
 callType_new PySem.F.called_tuple dd (PySem.F.typeCall_tuple_1 _) (PySem.F.newCall_tuple_1 _) (λc=>PySem.F.args_object_init_2 c _) PySem.F.entry_tuple_new
  (aN1 b t hsz) ⟨hh,λhp tk acc hk hacc=>⟨⟨_,hg _ rfl,rfl⟩,h hp tk acc hk hacc⟩⟩
end
theorem PZ{p:Int->Int->Bool}{F:Int->List Int->Int}(f0: ∀a,F a []=a)(f1: ∀a b r,F a (b::r)=F (if p b a then b else a) r)(e:xs.toList.map (·.1)=a::l):
  gr xs (xE (λi j=>p (gr xs i)<|gr xs j)<|xs.size -1)=F a l:=by
 have at_: ∀i,i <(a::l).length->gr xs i=(a::l).getD i 0:=λi h=>by
  unfold gr;rw[<-s7,<-G1,e,Sk]
 have snoc: ∀(l) (a b),F a (l++[b])=if p b (F a l) then b else F a l:=λl=>l.rec (λa b=>by rw[aT8,f1,f0,f0]) λc l ih a b=>by rw[Rh,f1,f1,ih]
 have main: ∀k,k<=l.length->gr xs (xE (λi j=>p (gr xs i)<|gr xs j) k)=F a (l.take k):=λk=>k.rec (λh=>(at_ 0<|sV _).trans (f0 a).symm) λk ih h=>by
  have h4:l.take (k+1)=l.take k++[(a::l).getD (k+1) 0]:=by rw[List.take_succ_eq_append_getElem h,List.getD_cons_succ,Sk,Hg h,Option.getD_some]
  unfold xE
  rw[h4,snoc,<-ih<|mr h,<-(at_ (k+1)<|GH h),apply_ite<|gr xs]
 have hz:xs.size -1=l.length:=by rw[<-s8,<-bO,e];rfl
 rw[hz,main _<|dP _,RV]
theorem PX(e:xs.toList.map (·.1)=a::l):gr xs (xE (λi j=>decide<|gr xs i>gr xs j)<|xs.size -1)=dM a l:=
 PZ (p:=λi j=>decide<|i>j) (λ_=>rfl) (λa b r=>aA (dM · r)<|ite_congr decide_eq_true_eq.symm (λ_=>rfl) λ_=>rfl) e
theorem aK1(e:xs.toList.map (·.1)=a::l):gr xs (xE (λi j=>decide<|gr xs i <gr xs j)<|xs.size -1)=z8 a l:=
 PZ (p:=λi j=>decide<|i <j) (λ_=>rfl) (λa b r=>aA (z8 · r)<|ite_congr decide_eq_true_eq.symm (λ_=>rfl) λ_=>rfl) e
theorem Af: ∀{h:List Int} {a:List av},aV R (vi h) a->xF a h
 |[],_,r=>r.none .nil
 |_::_,_,r=>r.of λw a p q=>p.of λt=> .cons _ _ (Af q)
theorem WN(h:xF j a):aV R (vi a) j:=xF.rec .nil (λi t {_ _} _ r=> .cons (.int i t) r) h
theorem BP{G:Prop}(r:aV R (vi h) a)(k: ∀xs,a.toArray=lJ xs->xs.toList.map (·.1)=h->G):G:=
 (Af r).allInts.items.elim λxs hx=>k xs hx (by rw[<-nums_intItems,<-hx];exact(Af r).numsOf)
section
variable{E:av->bB->Prop}
theorem XY a b c d:argsOk "max" ⟨[a,b,c,d],[]⟩:=by unfold argsOk;kernel_rfl
theorem aa2(hh:A.handled=Y)
  (h: ∀hp tk f,(∀c o,s.heap.get? c=U o->hp.get? c=U o)->Q (.int (dM a [b,c,d]) f) {s with heap:=hp,toks:=tk}):
  aw (fJ prog w) A (call (.builtin "max") [.int a t,.int b u,.int c v,.int d x]) Q E s:=by
 have hx:(lJ #[(a,t),(b,u),(c,v),(d,x)]).size=4:=by rw[lJ,a31];rfl
 have hname:(toString "max"++toString ".loop")="max.loop":=dd
 refine call_function_tree PySem.F.kind_max PySem.F.plain_max PySem.F.entry_max (XY _ _ _ _) ?_
 refine aF (RZ (show iU.Builtins.bindParams "max" ["key","default"] 0 ⟨[],[]⟩=cG [Y,Y] from rfl) ?_)
 refine aF (u4 ?_)
 let xs:Array<|Int×Tok:= #[(a,t),(b,u),(c,v),(d,x)]
 have hT:(s.heap.push {cls:= .type "tuple",data:= .seq [s9 a t,.int b u,.int c v,.int d x].toArray}).IsTuple s.heap.objs.size<|lJ xs:=⟨_,hg _ rfl,rfl,0,by rw[lJ,List.map_toArray];rfl⟩
 refine aF (Sa hT<|aF<|u4 ?_)
 rw[hname]
 let H:=s.heap.push {cls:= .type "tuple",data:= .seq [s9 a t,.int b u,.int c v,.int d x].toArray}
 have hz:H.objs.size=s.heap.objs.size+1:=tc ..
 have ne:s.heap.objs.size≠H.objs.size:=λz=>td _ (hz.symm.trans z.symm)
 have W:=Sb (prog:=prog) (w:=w) (A:=A.in1) hh H.objs.size s.heap.objs.size ne (lJ xs)
 let T:Obj:={cls:= .type "tuple_iterator",data:= .fields #[.ref s.heap.objs.size,.int 0 0]}
 have st:(H.push T).IsTupleIter H.objs.size s.heap.objs.size 0/\(H.push T).IsTuple s.heap.objs.size (lJ xs):=⟨⟨_,hg _ rfl,rfl,rfl⟩,hT.push _⟩
 have hsz:(H.push T).objs.size=H.objs.size+1:=tc ..
 have nn: ∀{c o},s.heap.get? c=U o->(H.push T).get? c=U o/\c <H.objs.size:=λe=>⟨eB _<|eB _ e,Nat.lt_trans (g_ e)<|hz▸n7 _⟩
 refine bW ⟨Si PySem.F.plain_max_loop _,codeAny_max_loop_first W _ (CmpOf.ints_gt (gr xs) λ_ _=>Hh) _ (λhm=>(bC.mp hm).elim (λz=>td _<|hsz.symm.trans z) λz=>absurd ((b_.mp z).symm.trans<|hsz.trans<|aA (· +1) hz)<|jI<|Sl<|n7 _) (hx▸sV 3) (W.frame _ _ _ st λb _ o e=>eB _ e) (hg _ rfl) λr hp tk hP hk=> ?_⟩
 refine(Hh hP).elim λf e=> ?_
 rw[e,hx]
 refine pD (motive:=λz=>Q (.int z f) {s with heap:=hp,toks:=tk}) (PX rfl).symm (h hp tk f λc o e=>hk c o (λhm=>jI (nn e).2<|b_.mp hm) (λz=>jI (g_ (nn e).1) z)<|eB _ (nn e).1)
end
noncomputable def jY:Bi->Str×av
 |.len=>("len",.builtin "len")
 |.abs=>("abs",.builtin "abs")
 |.max=>("max",.builtin "max")
 |.min=>("min",.builtin "min")
 |.sum=>("sum",.builtin "sum")
 |.pd=>("ord",.builtin "ord")
 |.tuple=>("tuple",.type "tuple")
 |.list _=>("list",.type "list")
 |.dict _=>("dict",.type "dict")
 |.bytes=>("bytes",.type "bytes")
 |.sorted=>("sorted",.builtin "sorted")
 |.range=>("range",.type "range")
 |.kz=>("enumerate",.type "enumerate")
 |.gh _=>("isinstance",.builtin "isinstance")
noncomputable def Ii:Ty->String
 |.int=>"int"
 |.bool=>"bool"
 |.tuple=>"tuple"
 |.str=>"str"
 |.bytes=>"bytes"
noncomputable def Cq:Bi->List av
 |.gh t=>[.type<|Ii t]
 |_=>[]
section
variable{σ:St x}{K:V->H->Prop}{tg:Expr}{vs:List V}{ws:List av}
def St.k9(σ:St x){hp:cu}(tk:Nat)(k: ∀b q,σ.s.heap.get? b=U q->hp.get? b=U q):St x:=σ.to σ.R σ.A hp tk (σ.bh.k9 k) (Rm.le_refl _)
theorem PV.k9{hp:cu}{tk}{v}{w}(k: ∀b q,σ.s.heap.get? b=U q->hp.get? b=U q)(r:ax σ.R v w)(h:K v σ.A):PV ax σ K w {σ.s with heap:=hp,toks:=tk}:=⟨σ.k9 tk k,v,w,Rm.le_refl _,r,h⟩
theorem PV.D0{hp:cu}{tk}{v}{a}{j}(k: ∀b q,σ.s.heap.get? b=U q->hp.get? b=U q)(ha:σ.R a=Y)(e:hp.get? a=U j)(r:ax (σ.R.bx a<|.kp .fr j) v<|.ref a)(h:K v σ.A):
  PV ax σ K (.ref a) {σ.s with heap:=hp,toks:=tk}:=⟨(σ.k9 tk k).FG ha e,v,_,Rm.jh ha,r,h⟩
theorem PV.Mg{hp:cu}{tk}{a}{j}(k: ∀b q,σ.s.heap.get? b=U q->hp.get? b=U q)(ha:σ.R a=Y)(r:h7 (σ.R.bx a .abs) hp a j)(h: ∀a,σ.A a=Y->K (.ref a) (σ.A.cr a j)):
  PV ax σ K (.ref a) {σ.s with heap:=hp,toks:=tk}:=
 have l:=Rm.jh ha
 ⟨(σ.k9 tk k).to (σ.R.bx a .abs) (σ.A.cr a j) hp tk ((σ.k9 tk k).bh.abs a (λ_=>Rm.cV) (λ_ _ _=>id) (Rm.cO ..) (λ_ e=>bH <|ha.symm.trans e) (λ_ e=>bH <|ha.symm.trans e) r) l,.ref a,_,l,.ref a,h a<|σ.bh.kB λq=>bH <|ha.symm.trans q⟩
theorem wF{n}(h:a_ n):(n:Int) <2^63:=g8 (bT.mpr h) dd
theorem ry{R}(r:aV R vs ws):ws.toArray.size=vs.length:=j8.trans r.length
theorem vl{n:Nat}(k:K (.int n) σ.A):PV ax σ K (.int n<|σ.s.toks+1) {σ.s with toks:=σ.s.toks+1+1}:= .tk (.int ..) k
theorem Hx{a n:Nat}(e:σ.s.heap.get? a=U (cz ws n))(r:aV σ.R vs ws)(hl:a_ vs.length)(k:K (.int vs.length) σ.A):aw (M x) Ar (call (.builtin "len") [.ref a]) (PV ax σ K) N0 σ.s:=
 call_len_list ⟨_,e,rfl,n,rfl⟩ (ry r▸wF hl) (vl<|ry r▸k)
theorem L1{a n:Nat}{ds}{h}(e:σ.s.heap.get? a=U (gb (fY ds h) n))(hm:(a==kP)=ae)(nd:(dJ ds).Nodup)(r:dD σ.R ds h)(hl:a_ ds.length)(k:K (.int ds.length) σ.A):
  aw (M x) Ar (call (.builtin "len") [.ref a]) (PV ax σ K) N0 σ.s:=call_len_dict hm (rZ e nd r) (sG r▸wF hl) (vl<|sG r▸k)
theorem yN{b}{l}(e:jP b=l):b.size=l.length:=by rw[<-e,jP,bO,s8]
theorem HW{R}{b}{a}{l}(e:jP b=l)(h:pK (o6 b) a b.size):aV R (vi l) a.toList:=by
 have key: ∀(l:List UInt8) (ws),ws.length=l.length->(∀(j) (v),ws[j]? =U v-> ∃(c:UInt8) (u:Tok),l[j]? =U c/\v=s9 (c.toNat) u)->aV R (vi (l.map λx:UInt8=>(x.toNat))) ws:=λl=>l.rec (λws=>match ws with
  |[]=>λ_ _=> .nil
  |_::_=>λhl _=>nomatch hl) λc l ih ws=>match ws with
  |[]=>λhl _=>nomatch hl
  |w::ws=>λhl hv=>(hv 0 w rfl).elim λc' z=>z.elim λu z=>by cases z.1;rw[z.2];exact .cons (.int ..) (ih ws (pH hl) λj v hj=>hv (j+1) v hj)
 subst e
 exact key b.toList a.toList h.1 λj v hj=>(h.2 j v<|s7▸hj).imp λc z=>z.imp λu z=>⟨by rw[s7];exact z.1,z.2⟩
theorem Jw{hp:cu}{tk}{us}(hk: ∀b q,σ.s.heap.get? b=U q->hp.get? b=U q)(r:aV σ.R vs us)(k:K (.aj vs) σ.A):PV ax σ K (.ref hp.objs.size) {σ.s with heap:=hp.push<|gS us 0,toks:=tk}:=
 have l:=(σ.k9 tk hk).dS _
 ⟨(σ.k9 tk hk).keep (gS us 0) rfl,V.aj vs,_,l,.aj (Rm.cO ..)<|r.aG l.fl,k⟩
theorem Ny{a n:Nat}(e:σ.s.heap.get? a=U (cz ws n))(r:aV σ.R vs ws)(hl:a_ vs.length)(k:K (.aj vs) σ.A):aw (M x) Ar (call (.type "tuple") [.ref a]) (PV ax σ K) N0 σ.s:=
 call_tuple_list ⟨_,e,rfl,n,rfl⟩ (λhp hk=>Jw hk r k) ((ry r).symm▸jB hl)
theorem NB{fr}{us}{hp:cu}{tk}{n}(hk: ∀b q,σ.s.heap.get? b=U q->hp.get? b=U q)(e:hp.get? σ.s.heap.objs.size=U (cz us n))(r:aV σ.R vs us)(h:j5 fr vs σ.A K):
  PV ax σ K (.ref σ.s.heap.objs.size) {σ.s with heap:=hp,toks:=tk}:=match fr,h with
 |aa,h=> .D0 hk σ.new e (.fl (Rm.cO ..)<|r.aG (σ.dS _).fl) h
 |ae,h=> .Mg hk σ.new (.list e<|r.aG (σ.dS _).fl) h
theorem IX{fr}{a n:Nat}(e:σ.s.heap.get? a=U (cz ws n))(r:aV σ.R vs ws)(hl:a_ vs.length)(k:j5 fr vs σ.A K):aw (M x) Ar (call (.type "list") [.ref a]) (PV ax σ K) N0 σ.s:=
 call_list_seq a (.inl rfl) e rfl rfl (λhp c hk hD=>NB hk hD r k) ((ry r).symm▸jB hl)
theorem Jx{fr}{a n:Nat}{ds}{h}(e:σ.s.heap.get? a=U (gb (fY ds h) n))(hm:(a==kP)=ae)(nd:(dJ ds).Nodup)(r:dD σ.R ds h)(hl:a_ ds.length)(k:ww fr ds σ.A K):
  aw (M x) Ar (call (.type "dict") [.ref a]) (PV ax σ K) N0 σ.s:=kt_call_dict hm (rZ e nd r) ((sG r).symm▸jB hl) λhp c sb=>(En c<|Kv.of r).elim λh z=>z.elim λn z=>
  have hk:=λb q eb=>(sb.2 b<|jI<|g_ eb).trans (eB _ eb)
  match fr,k with
  |aa,k=> .D0 hk σ.new z.1 (.fd (Rm.cO ..) (EZ σ) nd<|z.2.aG (σ.dS _).fl) k
  |ae,k=> .Mg hk σ.new (.dict z.1 nd<|z.2.aG (σ.dS _).fl) k
theorem ZA{a}(h:eg a):jP (byteArr a)=a:=KBa.ints_make λn hn=>⟨(h n hn).1,g8 (h n hn).2 dd⟩
theorem NV{a n:Nat}{h}(hh:Ar.handled=Y)(e:σ.s.heap.get? a=U (cz ws n))(r:aV σ.R (vi h) ws)(ho:eg h)(hl:a_ h.length)(k:K (.a8 h) σ.A):aw (M x) Ar (call (.type "bytes") [.ref a]) (PV ax σ K) N0 σ.s:=
 have b:=Af r
 call_bytes_ints ⟨_,e,rfl,n,rfl⟩ b (λn hn=>⟨(ho n hn).1,g8 (ho n hn).2 dd⟩) (b.length▸jB hl) hh λhp t c hk=> .k9 hk (ax.eq (aA V.a8 (ZA ho).symm)<|.a8 ..) k
theorem tC{hp:cu}{tk t:Nat}{i j}(hk: ∀b q,σ.s.heap.get? b=U q->hp.get? b=U q)(e:i=j)(k:K (.int j) σ.A):PV ax σ K (.int i t) {σ.s with heap:=hp,toks:=tk}:=e▸ .k9 hk (.int ..) (e▸k)
@[elab_as_elim] theorem yq{w}{P:av->Prop}(r:ax σ.R (.aj vs) w)(k: ∀ws a n,ax σ.R (.aj vs) (.ref a)->σ.s.heap.get? a=U (gS ws n)->aV σ.R vs ws->P (.ref a)):P w:=r.of λws a n e r=>k ws a n (.aj e r) (σ.at e) r
theorem Xq{k}{w}{ws}{a}(h:A9 k w=aa)(r:xF ws a):xF (w::ws)<|k::a:=by
 cases w with
 |int i t=>rw[<-beq_iff_eq.mp h];exact .cons _ _ r
 |_=>nomatch h
theorem JW: ∀(kvs:List<|Int×av) (ws:List av),ws.length=kvs.length->(∀(j:Nat) (v:av),ws[j]? =U v-> ∃k u,kvs[j]? =U (k,u)/\A9 k v=aa)->xF ws (kvs.map (·.1))
 |[],[],_,_=> .nil
 |[],_::_,h,_=>nomatch h
 |_::_,[],h,_=>nomatch h
 |d::ds,w::ws,hl,hv=>(hv 0 w rfl).elim λk z=>z.elim λu z=>by exact bL z.1▸Xq z.2 (JW ds ws (pH hl) λj v hj=>hv (j+1) v hj)
theorem ax2(h:cu):h.get? h.objs.size=Y:=match q:h.get? h.objs.size with
 |Y=>rfl
 |U _=>absurd (g_ q) (RS _)
theorem aM6{a n:Nat}{ds}{p}(hh:Ar.handled=Y)(e:σ.s.heap.get? a=U (gb (fY ds p) n))(hm:(a==kP)=ae)(nd:(dJ ds).Nodup)(r:dD σ.R ds p)(f:ds.length <64)
  (h: ∀l:List Int,l.Perm (ds.map (·.1))->l.Pairwise (· <= ·)->K (.fl<|vi l) σ.A):aw (M x) Ar (call (.builtin "sorted") [.ref a]) (PV ax σ K) N0 σ.s:=by
 refine call_function_entry kind_sorted plain_sorted entry_sorted (args_sorted1 _) ?_
 unfold iU.«sorted»
 refine aF (bW ?_)
 have hs:ds.length<=jH:=A4▸ak (uV f) dd
 refine aF (kdu_collect (kdl_dict hm) hh (jb e nd r) ((sG r).symm▸hs) λhp tk acc hk hacc=> ?_)
 have hl:=s8.trans hacc.1
 have i:=JW (kv ds p) acc.toList hl λj v hj=>hacc.2 j v (s7.symm.trans hj)
 have hl:=hl.trans (sG r)
 rw[r.dJ] at i
 refine aF (wpAny_newList ?_<|hl.symm▸hs)
 have c:=hg hp (o:=seqObj "list" acc.toList.toArray 0) rfl
 refine aF (e8<|G3 slot_list_sort ⟨_,c,rfl⟩ entry_list_sort (list_sort_tree c i (hl.symm▸f) λout g s t u=>⟨_,rfl,(sortedHeap_at (out:=out) c).elim λe1 he=> ?_⟩)<|args_list_sort _)
 exact bW ⟨_,rfl,.D0 (λb q eb=>
  have l1:=g_ (hk b q eb)
  (sortedHeap_old (jI l1)<|by rw[tc];exact Sl l1).trans<|eB _<|hk b q eb) (σ.bh.no _<|fV (hk _)<|ax2 hp) he (.fl (Rm.cO ..)<|WN s)<|h g t u⟩
end
theorem Ag b:jY b∈ty:=by cases b <;>(repeat(first|exact .head _|refine .tail _ ?_))
section
variable{σ:St x}{Ar:cW}{K:V->H->Prop}{tg:Expr}{vs:List V}{ws:List av}
theorem S9 i:(if i <0 then -i else i)=(i.natAbs:Int):=if h:i <0 then(aM h).trans (aV7<|eT h).symm else(aE h).trans (aV6<|fH.mp h).symm
theorem XZ i j t u:(if j>i then s9 j u else s9 i t)= .int (dM i [j]) (if j>i then u else t):=if h:j>i then by rw[aM h,aM h];exact aA (s9 · u) (aM h).symm else by rw[aE h,aE h];exact aA (s9 · t) (aE h).symm
theorem MP{v:av}{G:Prop}(h:(lJ xs)[k]? =U v)(e:gr xs k=i)(k: ∀t,v= .int i t->G):G:=(Hh h).elim λt q=>k t (e▸q)
theorem LZ{xs:Array<|Int×Tok}(e:xs.toList.map (·.1)=i::l):0 <xs.size:=by rw[<-s8,<-bO,e];exact sV _
theorem aF9{t n:Nat}(hh:Ar.handled=Y)(e:s.heap.get? t=U (gS us n))(e1:us.toArray=lJ xs)(hne:0 <xs.size)
  (h: ∀v hp tk,(lJ xs)[xE (λi j=>decide<|gr xs i <gr xs j)<|xs.size -1]? =U v->(∀b o,s.heap.get? b=U o->hp.get? b=U o)->Q v {s with heap:=hp,toks:=tk}):
  aw (M x) Ar (call (.builtin "min") [.ref t]) Q N0 s:=by
 have ht:s.heap.IsTuple t<|lJ xs:=⟨_,e,rfl,n,by rw[<-e1]⟩
 have hz:(lJ xs).size=xs.size:=a31 ..
 refine call_min_walk (Sa ht ⟨_,[s.heap.objs.size,t],[s.heap.objs.size],_,_,_,_,rfl,Sb (A:=Ar.in1) hh s.heap.objs.size t (jI<|g_ e)<|lJ xs,⟨⟨_,hg _ rfl,rfl,rfl⟩,ht.at λo e=>eB _ e⟩,λb hb=> ?_,hz.symm▸hne,CmpOf.ints_lt (gr xs) λ_ _=>Hh,λv hp tk hP hk=> ?_⟩)
 ·refine(?_)
  rw[tc]
  exact(bC.mp hb).elim (λz=>z▸n7 _) λz=>b_.mp z▸Sl (g_ e)
 ·exact h v hp tk (hz▸hP) λb o eb=>hk b o (λhm=>jI (g_ eb)<|b_.mp hm) (eB _ eb)
theorem U0(e:xs.toList.map (·.1)=l):preSum (gr xs) xs.size=l.sum:=by
 have hz:xs.size=l.length:=by rw[<-s8,<-bO,e]
 have hf:gr xs=λi=>l.getD i 0:=funext λi=>by unfold gr;rw[<-s7,<-G1,e,Sk]
 rw[hf,hz,preSum_getD,RV]
theorem OX(hh:Ar.handled=Y)(h:cn σ.A K b vs)(r:aV σ.R vs ws):aw (M x) Ar (call (jY b).2<|ws++Cq b) (PV ax σ K) N0 σ.s:=
 cn.casesOn h
  (λhl k r=>r.bp λw r=>r.of λws a n e r=>Hx (σ.at e) r hl k)
  (λhl k r=>r.bp λw r=>yq r λws a n _ e r=>PyProof.Rows.len_tuple ⟨_,e,rfl,n,rfl⟩ (ry r▸wF hl)<|vl<|ry r▸k)
  (λhl k r=>r.bp λw r=>r.of λb t e=>len_bytes (yN e▸ak hl dd)<|vl<|yN e▸k)
  (λhl k r=>r.bp λw r=>r.of λt=>PySem.P.len_str (n6.mpr<|wF hl)<|vl k)
  (λhl k r=>r.bp λw r=>r.of λf a n e hm nd r=>L1 (σ.at e) hm nd r hl k)
  (λq hl k r=>r.bp λw r=>r.of<|σ.g6 q λws n e r=>Hx e r hl k)
  (λq hl k r=>r.bp λw r=>r.of<|σ.jb q λf n e nd r=>L1 e (σ.sd q) nd r hl k)
  (λk r=>r.bp λw r=>r.of λt=>call_abs_int λu tk=>tC (λ_ _=>id) (S9 _) k)
  (λk r=>r.of λw ws r1 r=>r.bp λw2 r2=>r1.of λt=>r2.of λu=>max_two_ints hh λhp tk hk=>XZ .. ▸tC hk rfl k)
  (λk r=>r.of λw ws r1 r=>r.of λw2 ws r2 r=>r.of λw3 ws r3 r=>r.bp λj i=>r1.of λt=>r2.of λu=>r3.of λv=>i.of λv=>aa2 hh λhp tk t hk=>tC hk rfl k)
  (λk r=>r.bp λw r=>r.of λus a n e r=>BP r λxs e1 e2=>max_intList hh ⟨_,σ.at e,rfl,n,aA (Hf · n) e1⟩ (LZ e2) λv hp tk hv hk=>MP hv (PX e2) λt z=>z▸tC hk rfl k)
  (λk r=>r.bp λw r=>yq r λus a n _ e r=>BP r λxs e1 e2=>aF9 hh e e1 (LZ e2) λv hp tk hv hk=>MP hv (aK1 e2) λt z=>z▸tC hk rfl k)
  (λk r=>r.bp λw r=>r.of λus a n e r=>BP r λxs e1 e2=>sum_intListG hh ⟨_,σ.at e,rfl,n,aA (Hf · n) e1⟩ λhp tk t hk=>tC hk (U0 e2) k)
  (λk r=>r.bp λw r=>r.of λt=>PySem.P.ord_of_char<|.tk (.int ..) k)
  (λhl k r=>r.bp λw r=>yq r λws a n r' e _=>call_tuple_same ⟨_,e,rfl,n,rfl⟩<|.dc r' k)
  (λhl k r=>r.bp λw r=>r.of λws a n e r=>Ny (σ.at e) r hl k)
  (λhl k r=>r.bp λw r=>r.of λb t e=>U6 hh _ _ (jB<|yN e▸hl) λhp tk acc hk ha=>Jw hk (HW e ha) k)
  (λq hl k r=>r.bp λw r=>r.of<|σ.g6 q λws n e r=>Ny e r hl k)
  (λhl k r=>r.bp λw r=>r.of λws a n e r=>IX (fr:=aa) (σ.at e) r hl k)
  (λhl k r=>r.bp λw r=>r.of λb t e=>aM3 hh _ _ (jB<|yN e▸hl) λhp tk acc c hk hD ha=>NB (fr:=aa) hk hD (HW e ha) k)
  (λq hl k r=>r.bp λw r=>r.of<|σ.g6 q λws n e r=>IX (fr:=ae) e r hl k)
  (λhl k r=>r.bp λw r=>r.of λf a n e hm nd r=>Jx (fr:=aa) (σ.at e) hm nd r hl k)
  (λq hl k r=>r.bp λw r=>r.of<|σ.jb q λf n e nd r=>Jx (fr:=ae) e (σ.sd q) nd r hl k)
  (λho hl k r=>r.bp λw r=>r.of λws a n e r=>NV hh (σ.at e) r ho hl k)
  (λq ho hl k r=>r.bp λw r=>r.of<|σ.g6 q λws n e r=>NV hh e r ho hl k)
  (λq g k r=>r.bp λw r=>r.of<|σ.jb q λf n e nd r=>aM6 hh e (σ.sd q) nd r g k)
  (λk r=>r.bp λw r=>r.of λt=>PySem.IsiPair.int_int<|.dc (.bool _) k)
  (λk r=>r.bp λw r=>r.of λt=>PySem.IsiPair.int_bool<|.tk (.bool _) k)
  (λk r=>r.bp λw r=>yq r λws a n _ e _=>PySem.IsiPair.tuple_tuple e rfl<|.dc (.bool _) k)
  (λk r=>r.bp λw r=>r.of λt=>PySem.IsiPair.str_str<|.dc (.bool _) k)
  (λk r=>r.bp λw r=>r.of λb t e=>call_isinstance_yes (q6 _ _ _) PySem.F.isi_meta_bytes (by rw[a25];kernel_rfl)<|.dc (.bool _) k) r
end
theorem aM2 b:(∃s,(jY b).2= .builtin s)\/ ∃s,(jY b).2= .type s:=by cases b <;>first|exact .inl ⟨_,rfl⟩|exact .inr ⟨_,rfl⟩
noncomputable def p7:Ty->Str×av
 |.int=>("int",.type "int")
 |.bool=>("bool",.type "bool")
 |.tuple=>("tuple",.type "tuple")
 |.str=>("str",.type "str")
 |.bytes=>("bytes",.type "bytes")
theorem YJ t:p7 t∈ty:=by cases t <;>(repeat(first|exact .head _|refine .tail _ ?_))
theorem az5 t:(p7 t).2= .type (Ii t):=by cases t <;>rfl
def qm(x:Cx)(Ar:cW)(tg e:Expr)(f:H->It->Prop):Prop:=
 ∀(σ:St x) (K),f σ.A K->aw (M x) Ar (aQ e x.env) (λw s=>aw (M x) Ar (jJ w) (PI σ tg K) N0 s) N0 σ.s
section
variable{σ:St x}
theorem Ds b(hs:j.all fF=aa)(el:fW n x Ar (iS<|eV pos<|eW j x.env) o)(h:o σ.A G)
  (z: ∀(τ:St x) vs ws,σ.le τ->aV τ.R vs ws->G vs τ.A->aw (M x) Ar (call (jY b).2 ws) Q N0 τ.s):aw (M x) Ar (u7 pos (jY b).2 [] (eV pos<|eW j x.env) []) Q N0 σ.s:=
 have go:=λf:av=>zo (f:=f) (Q:=λa s=>aw (M x) Ar (call (jY b).2 ([]++a.pos) a.kw) Q N0 s) hs (el.map h λτ vs ws l r k=>z τ vs ws l r.1 k)
 (aM2 b).elim (λe=>e.elim λs e=>by rw[e] at go⊢;exact R5 (tM hs)<|go _) λe=>e.elim λs e=>by rw[e] at go⊢;exact PySem.callWith_type (tM hs) (go _)
theorem Wc(hh:Ar.handled=Y)(hb:Cq b=[])(hk:x.env.kindOf (jY b).1=U .globalImplicit)(hd:((jY b).1==("__debug__":Str))=ae)(hs:a.all fF=aa)(el:fW n x Ar (iS<|eV pos<|eW a x.env) j):
  a3 x Ar (aQ (.Call (.Name (jY b).1 q) a [] pos) x.env) (λh Q=>j h λvs h=>cn h Q b vs):=λσ K h=>
 u8 (wI σ hk hd (Ag b)<|Ds b hs el h λτ vs ws l r k=>up l<|by have:=OX hh k r;rw[hb,c9] at this;exact this)
theorem Us(hh:Ar.handled=Y)(hk:x.env.kindOf "isinstance"=U .globalImplicit)(b:x.env.kindOf (p7 t).1=U .globalImplicit)(a:((p7 t).1==("__debug__":Str))=ae)(hs:fF e=aa)(ev:a3 x Ar (aQ e x.env) f):
  a3 x Ar (aQ (.Call (.Name "isinstance" q) [e,.Name (p7 t).1 j] [] pos) x.env) (λh Q=>f h λv h=>cn h Q (.gh t) [v]):=λσ K h=>by
 refine u8 (wI σ hk dd (Ag<|.gh t) (?_:aw _ _ (u7 pos (.builtin "isinstance") [] (eV pos<|eW [e,.Name (p7 t).1 j] x.env) []) _ _ _))
 rw[pj hs,pj rfl]
 exact R5 rfl (a02<|A3<|ev.bind h λτ v w l r k=>A3<|wI τ b a (YJ t)<|Ru<|up l<|az5 t▸OX hh k (.cons r .nil))
theorem C4(ht:i5 a)(ev:a3 x Ar (aQ e x.env) f):qm x Ar a e (λh K=>f h λv h=>hQ h K v):=λσ K h=>
 ev.bind h λτ v w l r k=>bz (Hv ht k r) (λ_ _ p=>p.aG l) λ_ _=>id
theorem i7(ht:i5 o)(hk:x.env.kindOf "range"=U .globalImplicit)(hs:a.all fF=aa)(el:fW n x Ar (iS<|eV pos<|eW a x.env) j):
  qm x Ar o (.Call (.Name "range" q) a [] pos) (λh K=>j h λvs h=>j3 h K vs):=λσ K h=>
 u8 (wI σ hk dd (Ag .range)<|Ds .range hs el h λτ vs ws l r k=>bz (aP3 ht k r) (λ_ _ p=>bz p (λ_ _ p=>p.aG l) λ_ _=>id) λ_ _=>id)
theorem An(hk:x.env.kindOf "enumerate"=U .globalImplicit)(hs:a.all fF=aa)(el:fW n x Ar (iS<|eV pos<|eW a x.env) o):
  qm x Ar (.Tuple j u t) (.Call (.Name "enumerate" q) a [] pos) (λh K=>o h λvs h=>lq h K vs):=λσ K h=>
 u8 (wI σ hk dd (Ag .kz)<|Ds .kz hs el h λτ vs ws l r k=>bz (ab5 k r) (λ_ _ p=>bz p (λ_ _ p=>p.aG l) λ_ _=>id) λ_ _=>id)
theorem Ti(hb:xz e "items" x.env (aQ e x.env)=aQ e x.env)(hl:(j.endLine==pos.line)=aa)(ev:a3 x Ar (aQ e x.env) f):
  qm x Ar (.Tuple o u t) (.Call (.Attribute e "items" j) [] [] pos) (λh K=>f h λv h=>tN h K v):=λσ K h=>
 N4 hb hl (sV _) rfl (ev.map h λτ v w l r k c=>tN.casesOn k
  (λ_ k r=>r.of λb a n e hm nd r=>a11 ⟨_,τ.at e,rfl⟩ a12 a32 PySem.F.type_dict_items λa q=>by cases q;exact⟨_,τ.at e,rfl⟩
   (method_meetsIn a32 PySem.F.entry_dict_items rfl (evalArgs_nil3 ⟨rfl,⟨_,τ.at e,rfl⟩,PySem.F.args_dict_items_1 _,_,meets_dict_items (ik x) a hm,⟨kv _ b,rZ (τ.at e) nd r⟩,
    bz (ax8 (σ:=τ.pe _) e nd r ⟨_,hg _ rfl,rfl,rfl⟩ k) (λ_ _ p=>PI.aG (τ:=τ.pe _) l p) λ_ _=>id⟩))) r)
end
inductive PA {x:Cx} (σ:St x) (K:L->H->Prop):bB->Prop
 |mk (ρ:L) (τ:St<|x.at ρ):σ.lo τ->K ρ τ.A->PA σ K τ.s
def qu(x:Cx)(Ar:cW)(tg:Expr)(f:V->L->H->(L->H->Prop)->Prop):Prop:=
 ∀ρ (σ:St<|x.at ρ) v w K,ax σ.R v w->f v ρ σ.A K->aw (M x) Ar (Hi tg x.env w) (λ_=>PA σ K) N0 σ.s
def tV(x:Cx)(Ar:cW)(a:List Expr)(f:List V->L->H->(L->H->Prop)->Prop):Prop:=
 ∀ρ (σ:St<|x.at ρ) vs ws K,aV σ.R vs ws->f vs ρ σ.A K->aw (M x) Ar (a33 ((pL a x.env).map (·.2)) ws) (λ_=>PA σ K) N0 σ.s
section
variable{x y:Cx}{σ:St x}{Ar:cW}{K:L->H->Prop}{n:Nat}
theorem St.kJ{τ:St x}(l:σ.le τ):σ.lo τ:=λa b o e _=>l a b o e
theorem St.lo.fl{τ:St<|x.at ρ}(l:σ.lo τ):σ.R.fl τ.R:=λa o e=>l a .fr o e λz=>fX z
theorem St.lo.trans{τ:St<|x.at ρ}{υ:St<|x.at h}(l:σ.lo τ)(m:τ.lo υ):σ.lo υ:=λa b o e n=>m a b o (l a b o e n) n
theorem PA.aG{τ:St<|x.at ρ}(l:σ.lo τ)(p:PA τ K s):PA σ K s:=p.casesOn λa υ l' k=>PA.mk (σ:=σ) a υ (St.lo.trans l l') k
theorem KF{j}(Iqv:p6 (.Name j p) l g)(hh:Ar.handled=Y): ∀xs (τ:St x) Q,Iqv.at_ xs τ.R->g τ.A->
  (∀(υ:St x) ws,υ.A=τ.A->lM Iqv.own τ.R υ.R->Iqv.at_ [] υ.R->aV υ.R xs ws->Q ws υ.s)->aw (M x) Ar (draw l xs.length) Q N0 τ.s
 |[],τ,Q,at_,ga,h=>bW (h τ [] rfl (λ_ _ _ _ e=>e) at_ .nil)
 |v::r,τ,Q,at_,ga,h=>
  aF (bz (Iqv.next τ (v::r) (λq s=>aw (M x) Ar (match q with
   |Y=>cG []
   |U v=>(do let t<-iT [v] (draw l r.length);cG (v::t))) Q N0 s) hh at_ ga λυ w f dX am rv=>
    aF<|e8<|KF Iqv hh r υ _ am (f▸ga) λφ ws eA2 off2 c rs=>bW<|h φ (w::ws) (eA2.trans f) (λa b o n e=>off2 a b o n<|dX a b o n e) c<|.cons (rv.aG off2.fl) rs)
   (λq s z=>by
    rcases q with _|v
    ·exact z
    ·exact(aF z:aw (M x) Ar ((cG ()) >>=λ_=>(do let t<-iT [v] (draw l r.length);cG (v::t))) Q N0 s)) λ_ _=>id)
inductive IS (σ:St x) (P:List V->Prop) (v:V) (w:av):Prop
 |mk (xs:List V) (T i:String):P xs->(∀J:H->Prop,J σ.A->hQ σ.A (λl g h=>l=xs/\g h/\J h) v)->σ.s.TypeIs w T->typeLookup (.type T) "__iter__"=cG (U<|.builtin i)->IS σ P v w
theorem V7(h:js σ.A P v)(r:ax σ.R v w):IS σ P v w:=
 js.casesOn h
  (λh r=>r.of λws a n e _=>⟨_,_,_,h,λJ j=> .ug ⟨rfl,tI,j⟩,⟨_,σ.at e,rfl⟩,PySem.F.slot_tuple_iter.lookup⟩)
  (λh r=>r.of λws a n e _=>⟨_,_,_,h,λJ j=> .fN ⟨rfl,tI,j⟩,⟨_,σ.at e,rfl⟩,a34.lookup⟩)
  (λh r=>r.of λb t e=>⟨_,_,_,h,λJ j=> .KS ⟨rfl,tI,j⟩,q6 _ _ _,FB.slot_bytes_iter.lookup⟩)
  (λq h r=>r.of<|σ.g6 q λws n e _=>⟨_,_,_,h,λJ j=> .LB q ⟨rfl,q,j⟩,⟨_,e,rfl⟩,a34.lookup⟩) r
theorem DA(hh:Ar.handled=Y){G:List V->Prop}(r:ax σ.R v w)(h:js σ.A (λl=>match bF l.length n with|aa=>G l|ae=>False) v)
  (k: ∀xs,xs.length=n->G xs-> ∀(τ:St x) ws,σ.le τ->τ.A=σ.A->aV τ.R xs ws->Q ws τ.s):aw (M x) Ar (unpackItems w n Y) Q N0 σ.s:=
 (V7 h r).casesOn λxs T i hk hi hT hl=>by
  cases hn:bF xs.length n with
  |false=>rw[hn] at hk;exact hk.elim
  |true=>
   rw[hn] at hk
   have hn:=jk hn
   subst hn
   refine aF (aF<|wpAny_specialOf hT hl<|wpAny_pure ?_)
   refine aF (e8<|wpAny_mono (Hv (.n "" ⟨0,0,0,0⟩) (hi (λh=>h=σ.A) rfl) r) (λt s1 q=>q.casesOn λτ f g Iqv l own at_ p=> ?_) λ_ _=>id)
   have e:=p.1
   subst e
   refine aF (e8<|KF Iqv hh f τ _ at_ p.2.1 λυ ws j dX c rs=> ?_)
   rw[aE<|Nat.not_lt.mpr<|Nat.le_of_eq rs.length.symm]
   refine aF (e8<|wpAny_mono (Iqv.next υ [] (λr s=>r=Y/\ ∃τ:St x,τ.s=s/\σ.le τ/\τ.A=σ.A/\aV τ.R f ws) hh c (j▸p.2.1) λφ eA2 off2=>⟨rfl,φ,rfl,λa b o e=>off2 a b o (λz=>absurd e<|own a b o z)<|(λa b o e=>dX a b o (λz=>absurd e<|own a b o z)<|l a b o e) a b o e,eA2.trans<|j.trans p.2.2,rs.aG off2.fl⟩) (λr s q=> ?_) λ_ _=>id)
   cases r with
   |none=>exact q.2.elim λφ q=>bW (q.1▸k f rfl hk φ ws q.2.1 q.2.2.1 q.2.2.2)
   |some u=>exact(aF (bz q (λ_ _ q=>gI q.1) λ_ _=>id):aw (M x) Ar ((cG ()) >>=λ_=>_) Q N0 s)
end
section
variable{x:Cx}{σ:St x}{Ar:cW}{K:L->H->Prop}{n:Nat}
theorem Xx(hh:Ar.handled=Y){σ:St<|x.at ρ}(r:ax σ.R v w)(hl:(pL a x.env).length=n)(hs:(pL a x.env).findIdx? (·.1)=Y)(ea:tV x Ar a f)
  (h:js σ.A (λl=>match bF l.length n with|aa=>f l ρ σ.A K|ae=>False) v):aw (M x) Ar (unpack w<|pL a x.env) (λ_=>PA σ K) N0 σ.s:=by
 unfold unpack
 exact hs▸hl▸aF (e8<|DA hh r h λxs _ k τ ws l e r=>bz (ea ρ τ xs ws K r<|e▸k) (λ_ _ p=>PA.aG (St.kJ l) p) λ_ _=>id)
theorem aB9{a}(hn:ah x.ns i=U a)(hf:x.env.kindOf a≠U .free):qu x Ar (.Name a pos) (λv ρ h K=>K (cY ρ i v) h):=λρ σ v w K r h=>
 So (v_ (x:=x.at ρ) hn hf r h λτ l _ k=>PA.mk _ τ l k)
theorem Vq{f:List V->L->H->(L->H->Prop)->Prop}(h: ∀vs ρ h K,f vs ρ h K->vs=[]/\K ρ h):tV x Ar [] f:=λρ σ vs ws K r k=>by
 have k:=h _ _ _ _ k
 rw[k.1] at r
 exact r.none (a35<|PA.mk (σ:=σ) ρ σ (λ_ _ _ e _=>e) k.2)
theorem B9(h:fF e=aa):pL (e::r) env=(ae,Hi e env)::pL r env:=by
 cases e <;>first|rfl|cases h
theorem aH8{g j:List V->L->H->(L->H->Prop)->Prop}(hs:fF t=aa)(ea:qu x Ar t f)(er:tV x Ar r g)(h: ∀vs ρ h K,j vs ρ h K-> ∃v us,vs=v::us/\f v ρ h λρ h=>g us ρ h K):
  tV x Ar (t::r) j:=λρ σ vs ws K b k=>(h _ _ _ _ k).elim λv k=>k.elim λus k=>by
 rw[B9 hs]
 rw[k.1] at b
 exact b.of λw ws r0 c=>a36 (bz (ea ρ σ v w _ r0 k.2) (λ_ _ p=>p.casesOn λa τ l k=>bz (er a τ us ws K (aV.aG c<|St.lo.fl l) k) (λ_ _ p=>PA.aG l p) λ_ _=>id) λ_ _=>id)
theorem ai4(hh:Ar.handled=Y)(hl:(pL a x.env).length=n)(hs:(pL a x.env).findIdx? (·.1)=Y)(ea:tV x Ar a f):
  qu x Ar (.Tuple a j pos) (λv ρ h K=>js h (λl=>match bF l.length n with|aa=>f l ρ h K|ae=>False) v):=λρ σ v w K r h=>by
 rw[arm_assign_Tuple]
 exact aF (jn<|Xx hh r hl hs ea h)
theorem aJ8{f:L->H->(V->H->Prop)->Prop}(ev: ∀ρ,a3 (x.at ρ) Ar (aQ e x.env)<|f ρ):
  qu x Ar (.Attribute e (cN m) pos) (λv ρ h K=>f ρ h λw h=>oI I h m v (λh=>K ρ h) w):=λρ σ v w K r h=>by
 rw[assign_Attribute]
 exact aF (e8<|(ev ρ).bind h λτ u w1 l r1 k=>aF<|jn<|aF<|e8<|Jz k (r.aG l.fl) r1 λυ e k=>BA<|PA.mk (σ:=σ) ρ υ (λa b o z _=>e▸l a b o z) k)
theorem aF6: ∀{vs:List V} {h:List av} {v:V} {w:av} i,aV R vs h->ax R v w->aV R (ef vs i v) (ef h i w):=λ{vs h v w} i r p=>(r.rec (motive:=λvs h _=> ∀i,aV R (ef vs i v)<|ef h i w) (λ_=> .nil) λa q ih i=>match i with
 |0=> .cons p q
 |i+1=> .cons a<|ih i) i
theorem Hq: ∀l i (a:α),ef l i a=l.set i a
 |[],_,_=>rfl
 |_::_,0,_=>rfl
 |x::r,i+1,a=>aA (x:: ·) (Hq r i a)
theorem UU{l n:Nat}{k}(e:s.heap.get? l=U (cz us n))(h0:0<=k)(hj:k.toNat <us.length)(hfit:k <2^63)
  (a:Q () {s with heap:=s.heap.update l<|u9 (·.setIfInBounds k.toNat w)}):aw (M x) Ar (xB (.ref l) (.int k t) w) Q N0 s:=by
 have hl:s.heap.IsList l us.toArray:=⟨_,e,rfl,n,rfl⟩
 unfold xB
 refine e8 (?_)
 refine aF (aY3 hl.typeIs dd ?_)
 refine aF (RR hl.typeIs a37<|G3 a37 hl.typeIs entry_list_setitem ?_<|args_list_setitem _ _ _)
 refine aF (m:=iU.List.listSubscript?<|.int k t) (wpAny_listSubscript_int (fitsIndex_of h0 hfit) ?_)
 refine(GS h0).elim λj ej=> ?_
 subst ej
 have hx:us.toArray[j]? =U us[j]:=(u2 ..).trans (Hg hj)
 refine aF (aF<|wpAny_seqItemAt e rfl<|bW ?_)
 exact hx▸aF (wpAny_setSeqItemAt e rfl<|aF<|bW<|bW ⟨.none,rfl,bW a⟩)
theorem MS{K}(h:nJ σ.A v K u i)(r:ax σ.R v w)(ru:ax σ.R u o)(ri:ax σ.R i j):aw (M x) Ar (xB o j w) (λ_=>PN σ K) N0 σ.s:=
 nJ.casesOn h
  (λ{a l i} q h0 h1 hl k ru ri=>ru.of (ri.of λt=>σ.g6 q λws n e rl=>by
   refine UU e h0 (rl.length▸(aX5 h0).mpr h1) (AW h1<|wF hl) ((ER (λxs=>xs.setIfInBounds i.toNat w) ws n).elim λb en=> ?_)
   rw[List.setIfInBounds_toArray,<-Hq] at en
   exact PN.mk (σ.cr _ q (A6 _ _ _)<|.list ((uX (u9 (·.setIfInBounds i.toNat w)) e rfl).trans<|aA U en)<|aF6 _ rl r) (Rm.le_refl _) k))
  (λq hl k ru ri=>ru.of<|ri.of λt=>Yh q hl r k) ru ri
theorem aI7{f g:L->H->(V->H->Prop)->Prop}(ev: ∀ρ,a3 (x.at ρ) Ar (aQ e x.env)<|f ρ)(ei: ∀ρ,a3 (x.at ρ) Ar (aQ i x.env)<|g ρ):
  qu x Ar (.Subscript e i pos) (λv ρ h K=>f ρ h λw h=>g ρ h λj h=>nJ h v (λh=>K ρ h) w j):=λρ σ v w K r h=>by
 rw[assign_Subscript]
 exact aF (e8<|(ev ρ).bind h λτ u w1 l r1 k=>aF<|e8<|(ei ρ).bind k λυ j w2 l2 r2 k=>aF<|jn<|aF<|e8<|bz (MS k ((r.aG l.fl).aG l2.fl) (r1.aG l2.fl) r2) (λ_ _ p=>p.casesOn λφ l3 k=>BA<|PA.mk (σ:=σ) ρ φ (λa b o z _=>l3 _ _ _<|l2 _ _ _<|l _ _ _ z) k) λ_ _=>id)
end
noncomputable def jX:List Nat->List V->L->L
 |i::is,v::vs,ρ=>jX is vs (cY ρ i v)
 |_,_,ρ=>ρ
theorem KA: ∀(ρ:L) (i j:Nat) (v w:V),i≠j->cY (cY ρ i v) j w=cY (cY ρ j w) i v
 |[],_,_,_,_,_=>rfl
 |_::_,0,0,_,_,h=>absurd rfl h
 |_::_,0,_+1,_,_,_=>rfl
 |_::_,_+1,0,_,_,_=>rfl
 |x::r,i+1,j+1,v,w,h=>aA (x:: ·) (KA r i j v w λe=>h<|aA (· +1) e)
theorem Pl: ∀(is:List Nat) (vs:List V) (ρ:L) (i:Nat) (v:V),i∉is->jX is vs (cY ρ i v)=cY (jX is vs ρ) i v
 |[],_,_,_,_,_=>rfl
 |_::_,[],_,_,_,_=>rfl
 |j::is,w::vs,ρ,i,v,h=>(aA (jX is vs)<|KA _ _ _ _ _ λz=>h<|bC.mpr<|.inl z).trans (Pl is vs _ i v λz=>h<|.tail _ z)
theorem Lj: ∀(is:List Nat) (vs:List V) (a:List Nat) (us:List V) (ρ:L),is.length=vs.length->jX (is++a) (vs++us) ρ=jX a us (jX is vs ρ)
 |[],[],_,_,_,_=>rfl
 |i::is,v::vs,a,us,ρ,h=>Lj is vs a us (cY ρ i v) (pH h)
theorem DR: ∀(is:List Nat) (vs:List V) (ρ:L),is.Nodup->is.length=vs.length->jX is.reverse vs.reverse ρ=jX is vs ρ
 |[],[],_,_,_=>rfl
 |i::is,v::vs,ρ,nd,hl=>by
  rw[pB,pB,Lj _ _ _ _ _ (by rw[sW,sW];exact pH hl),DR is vs ρ (lI.mp nd).2<|pH hl]
  exact(Pl is vs ρ i v (lI.mp nd).1).symm
abbrev zS(x:Cx):List Str->List Nat->Prop:=bX λn i=>ah x.ns i=U n/\x.env.kindOf n=U .local
section
variable{x:Cx}{σ:St x}{Ar:cW}{K:V->H->Prop}{n:Nat}{f:L->H->(V->H->Prop)->Prop}{e:Expr}{pos:Pos}{Q:Fl->L->H->Prop}{fl:sS}{s:bB}
theorem PS.aG{ρ}{τ:St<|x.at ρ}(l:σ.lo τ)(p:PS τ Q fl s):PS σ Q fl s:=p.casesOn λa υ v l' r k=>PS.mk (σ:=σ) a υ v (St.lo.trans l l') r k
theorem PS.dc{ρ}{τ:St<|x.at ρ}{v}(l:σ.lo τ)(r:nR τ.R v fl)(k:Q v ρ τ.A):PS σ Q fl τ.s:=PS.mk ρ τ v l r k
theorem PA.next(p:PA σ (λρ h=>Q .next ρ h) s):PS σ Q .next s:=p.casesOn λρ τ l k=> .dc l .next k
theorem PA.up{ρ}{τ:St<|x.at ρ}(l:σ.lo τ)(p:PA τ (λρ h=>Q .next ρ h) s):PS σ Q .next s:=PA.next (PA.aG l p)
theorem xh{α β o}{a}{m}{J:β->H->Prop}{g:α->Sem o}{Q:α->o->bB->Prop}(h:aw (M x) Ar m (PV a σ J) N0 σ.s)
  (k: ∀(τ:St x) v w,σ.le τ->a τ.R v w->J v τ.A->aw (M x) Ar (g w) (Q w) N0 τ.s):aw (M x) Ar m (λw s=>aw (M x) Ar (g w) (Q w) N0 s) N0 σ.s:=
 bz h (λ_ _ p=>p.casesOn λτ v w l r j=>k τ v w l r j) λ_ _=>id
theorem St.aj1(σ:St x){i}{n}{v}{G:Prop}(hn:ah x.ns i=U n)(hl:x.env.kindOf n=U .local)(hv:ah x.ρ i=U (U v))
  (k: ∀w,ax σ.R v w->(∀Q:av->bB->Prop,Q w σ.s->aw (M x) Ar (loadName x.env n) Q N0 σ.s)->G):G:=
 σ.fr.dQ.casesOn λo m c e ns h=>(h i n v hn hl hv).elim λw q=>k w q.2 λQ z=>GW x.st.kind hl (σ.ns e ns) q.1 z
theorem F9{j}{v w}{a b}(h:lT σ.A K j v w)(r:ax σ.R v a)(q:ax σ.R w b):aw (M x) Ar (inplaceOp (nw j) a b) (PV ax σ K) N0 σ.s:=
 lT.casesOn h (λk r q=>r.of λt=>q.of λu=>P.iadd_int<|.tk (.int ..) k) r q
theorem dU.branch{m}{f}{T F}{Q:Bool->bB->Prop}{E}(e:dU x Ar m f)(h:f σ.A T F)(a: ∀τ:St x,σ.le τ->T τ.A->Q aa τ.s)(b: ∀τ:St x,σ.le τ->F τ.A->Q ae τ.s):aw (M x) Ar m Q E σ.s:=
 bz (e σ (λc=>match c with|aa=>T|ae=>F) h) (λ_ _ p=>p.casesOn λτ c d l r k=>match c,d,r,k with
  |aa,_,rfl,k=>a τ l k
  |ae,_,rfl,k=>b τ l k) λ_ _ q=>q.elim
theorem M3{j a}{o}(hs:a38 [j] a pos.line x.env=cG ae)(hw:Bj [j] a x.env=cG Y)(hn:fF j=aa)
  (ev: ∀ρ,a3 (x.at ρ) Ar (aQ a x.env)<|f ρ) (ea:qu x Ar j o):dj x Ar (hE (.Assign [j] a pos) x.env) (λρ h Q=>f ρ h λv h=>o v ρ h λρ h=>Q .next ρ h):=λρ σ Q h=>
 wpAny_Assign_stores ((ev ρ).bind h λτ v w l r k=>by rw[B9 hn];exact bz (ea ρ τ v w _ r k) (λ_ _ p=>PA.up (St.kJ l) p) λ_ _=>id) hs hw
theorem Jv{K}{j}{h}(ha:zS x j h): ∀(vs:List V) (ws:List av) (ρ:L) (τ:St<|x.at ρ),vs.length=h.length->aV τ.R vs ws->K (jX h vs ρ) τ.A->
  aw (M x) Ar (a33 (j.map λn=>bindName x.env n) ws) (λ_=>PA τ K) N0 τ.s:=ha.rec
 λvs ws ρ τ hl r k=>by rw[List.length_eq_zero_iff.mp hl] at r k;exact r.none (a35<|PA.mk (σ:=τ) ρ τ (λ_ _ _ e _=>e) k)
 λ{nm i j h} a q ih vs ws ρ τ hl r k=>match vs,hl,r,k with
  |v::vs,hl,r,k=>r.of λw ws r0 b=>a36 (wpAny_bindName (v_ (x:=x.at ρ) a.1 (by rw[a.2];exact λz=>nomatch z) r0 k λφ lo _ k=>
    bz (ih vs ws (cY ρ i v) φ (pH hl) (aV.aG b<|St.lo.fl lo) k) (λ_ _ p=>PA.aG lo p) λ_ _=>id))
theorem ZD(hh:Ar.handled=Y){u}{A}{t}{j}{D}{y}(hs:a38 [.Tuple u A t] j pos.line x.env=cG ae)(hw:Bj [.Tuple u A t] j x.env=cG (U D))
  (ha:zS x D y) (nd:y.Nodup) (ev: ∀ρ,a3 (x.at ρ) Ar (aQ j x.env)<|f ρ):
  dj x Ar (hE (.Assign [.Tuple u A t] j pos) x.env) (λρ h Q=>f ρ h λv h=>js h (λl=>match bF l.length y.length with|aa=>Q .next (jX y l ρ) h|ae=>False) v):=λρ σ Q h=>
 a39 ((ev ρ).bind h λτ v w l r k=>by
  rw[<-ha.length]
  refine DA hh r k λxs hl k υ ws l2 e r2=> ?_
  rw[<-DR y xs ρ nd hl.symm,<-e] at k
  exact bz (Jv ha.iz xs.reverse ws.reverse ρ υ (by rw[sW,sW];exact hl) r2.iz k) (λ_ _ p=>PA.up (λa b o z _=>l2 _ _ _<|l _ _ _ z) p) λ_ _=>id) hs hw
theorem at8(ev: ∀ρ,a3 (x.at ρ) Ar (aQ e x.env)<|f ρ):dj x Ar (hE (.Return (U e) pos) x.env) (λρ h Q=>f ρ h λv h=>Q (.ret v) ρ h):=λρ σ Q h=>
 Sp ((ev ρ).map h λτ v w l r k=>PS.dc (St.kJ l) (.ret r) k)
theorem UZ:dj x Ar (hE (.Return Y pos) x.env) (λρ h Q=>Q (.ret .none) ρ h):=λρ σ Q h=>wpAny_Return_none (PS.dc (λ_ _ _ e _=>e) (.ret .none) h)
theorem U4(hi:interactive x.env=ae)(hs:Sr e Y pos.line x.env=cG ae)(ev: ∀ρ,a3 (x.at ρ) Ar (aQ e x.env)<|f ρ):
  dj x Ar (hE (.Expr e pos) x.env) (λρ h Q=>f ρ h λ_ h=>Q .next ρ h):=λρ σ Q h=>by
 exact exec_Expr x.env e pos hi hs▸aF (jn<|aF<|(ev ρ).map h λτ v w l r k=>wpAny_dropValue<|PS.dc (St.kJ l) .next k)
theorem ay8:dj x Ar (hE (.Pass pos) x.env) (λρ h Q=>Q .next ρ h):=λρ σ Q h=>aF (jn<|bW<|PS.dc (λ_ _ _ e _=>e) .next h)
theorem Y7:dj x Ar (hE (.Continue pos) x.env) (λρ h Q=>Q .cont ρ h):=λρ σ Q h=>aF (jn<|bW<|PS.dc (λ_ _ _ e _=>e) .cont h)
theorem Ww{t}{a b}{ft:L->H->(H->Prop)->(H->Prop)->Prop}{j o}(c: ∀ρ,dU (x.at ρ) Ar (isTrue t x.env<|aQ t x.env)<|ft ρ)(ea:dj x Ar (kQ a x.env) j)(eb:dj x Ar (kQ b x.env) o):
  dj x Ar (hE (.If t a b pos) x.env) (λρ h Q=>ft ρ h (λh=>j ρ h Q) λh=>o ρ h Q):=λρ σ Q h=>
 wpAny_If ((c ρ).branch h (λτ l k=>bz (ea ρ τ Q k) (λ_ _ p=>PS.aG (St.kJ l) p) λ_ _=>id) λτ l k=>bz (eb ρ τ Q k) (λ_ _ p=>PS.aG (St.kJ l) p) λ_ _=>id)
theorem Zw:dj x Ar (kQ [] x.env) (λρ h Q=>Q .next ρ h):=λρ σ Q h=>Bk (PS.dc (λ_ _ _ e _=>e) .next h)
theorem Qf{a}{r}{f g}(ea:dj x Ar (hE a x.env) f)(er:dj x Ar (kQ r x.env) g):
  dj x Ar (kQ (a::r) x.env) (λρ h Q=>f ρ h λfl ρ h=>match fl with|.next=>g ρ h Q|fl=>Q fl ρ h):=λρ σ Q h=>
 q8 (bz (ea ρ σ _ h) (λfl s p=>p.casesOn λb τ v l r k=>by
  cases r with
  |next=>exact bz (er b τ Q k) (λ_ _ p=>PS.aG l p) λ_ _=>id
  |brk=>exact PS.dc l .brk k
  |cont=>exact PS.dc l .cont k
  |ret r=>exact PS.dc l (.ret r) k) λ_ _=>id)
theorem UV{j}{i}{p}{t}(hn:ah x.ns i=U j)(hl:x.env.kindOf j=U .local)(ev: ∀ρ,a3 (x.at ρ) Ar (aQ e x.env)<|f ρ):
  dj x Ar (hE (.AugAssign (.Name j t) (nw p) e pos) x.env) (λρ h Q=>gj ρ i λa=>f ρ h λb h=>lT h (λv h=>Q .next (cY ρ i v) h) p a b):=λρ σ Q h=>
 rp h λv hv h=>wpAny_AugAssign_Name (σ.aj1 hn hl hv λw r z=>z _ ((ev ρ).bind h λτ b c l rb k=>xh (F9 k (r.aG l.fl) rb) λυ v w l2 r2 k=>
  v_ hn (by rw[hl];exact λz=>nomatch z) r2 k λφ lo _ k=>PS.dc (λa b o z n=>lo a b o (l2 _ _ _<|l _ _ _ z) n) .next k))
theorem ZG{a}{m}{p}{t}{j:L->H->(V->H->Prop)->Prop}(hn:m <gz.length)(ea: ∀ρ,a3 (x.at ρ) Ar (aQ a x.env)<|j ρ)(ev: ∀ρ,a3 (x.at ρ) Ar (aQ e x.env)<|f ρ):
  dj x Ar (hE (.AugAssign (.Attribute a (cN m) t) (nw p) e pos) x.env) (λρ h Q=>j ρ h λc h=>kj I h (λu h=>f ρ h λb h=>lT h (λv h=>oI I h m v (λh=>Q .next ρ h) c) p u b) c m):=λρ σ Q h=>
 wpAny_AugAssign_AttributeAny ((ea ρ).bind h λτ c g l ra k=>xh (Jt hn k ra) λυ u y l2 ru k=>(ev ρ).bind k λφ b i l3 rb k=>xh (F9 k (ru.aG l3.fl) rb) λψ v w l4 rv k=>
  Jz k rv (((ra.aG l2.fl).aG l3.fl).aG l4.fl) λq e k=>PS.dc (λa b o z _=>e▸l4 _ _ _ (l3 _ _ _<|l2 _ _ _<|l _ _ _ z)) .next k)
theorem ZZ{a i}{t}{A}{j y:L->H->(V->H->Prop)->Prop}(hi: ∀ov iv new,augStore i ov iv new=(do iT [new,ov,iv] (xB ov iv new);xu [new,ov,iv] [];cG .next))
  (ea: ∀ρ,a3 (x.at ρ) Ar (aQ a x.env)<|j ρ) (ei: ∀ρ,a3 (x.at ρ) Ar (aQ i x.env)<|y ρ) (ev: ∀ρ,a3 (x.at ρ) Ar (aQ e x.env)<|f ρ):
  dj x Ar (hE (.AugAssign (.Subscript a i A) (nw t) e pos) x.env) (λρ h Q=>j ρ h λc h=>y ρ h λvi h=>gi h (λu h=>f ρ h λb h=>lT h (λv h=>nJ h v (λh=>Q .next ρ h) c vi) t u b) c vi):=λρ σ Q h=>
 wpAny_AugAssign_SubscriptAny ((ea ρ).bind h λτ c q l ra k=>(ei ρ).bind k λυ vi D l2 ri k=>xh (Ov k (ra.aG l2.fl) ri).2 λφ u T l3 ru k=>(ev ρ).bind k λψ b N l4 rb k=>xh (F9 k (ru.aG l4.fl) rb) λR v w l5 rv k=>
  bz (MS k rv ((((ra.aG l2.fl).aG l3.fl).aG l4.fl).aG l5.fl)<|((ri.aG l3.fl).aG l4.fl).aG l5.fl) (λ_ _ p=>p.casesOn λJ g k=>PS.dc (λa b o z _=>g _ _ _<|l5 _ _ _<|l4 _ _ _<|l3 _ _ _<|l2 _ _ _<|l _ _ _ z) .next k) λ_ _=>id) hi
theorem Zh{m}{f:L->H->(Fl->L->H->Prop)->Prop}(h: ∀ρ h Q,¬f ρ h Q):dj x Ar m f:=λρ σ Q q=>(h _ _ _ q).elim
theorem aC5{b}{hd}{a}{f}(e:dj x Ar (kQ b x.env) f):dj x Ar (hE (.Try b (hd::a) [] [] pos) x.env) f:=λρ σ Q h=>
 a40 (bz (e ρ σ Q h) (λfl s q=>match fl,q with
  |.next,q=>Bk q
  |.brk,q=>q
  |.cont,q=>q
  |.ret _,q=>q) λ_ _ q=>q.elim)
end
section
variable{x:Cx}{ρ0:L}{σ:St<|x.at ρ0}{Ar:cW}{tg:Expr}{it:av}{g:H->Prop}{pos:Pos}{Q:Fl->L->H->Prop}
theorem St.Uj(σ:St x):σ.lo σ:=λ_ _ _ e _=>e
inductive LW (σ:St<|x.at ρ0) (F:L->H->Prop):bB->Prop
 |mk (ρ:L) (τ:St<|x.at ρ):σ.lo τ->F ρ τ.A->LW σ F τ.s
theorem aF2{ft:L->H->(H->Prop)->(H->Prop)->Prop}(c: ∀ρ,dU (x.at ρ) Ar (isTrue t x.env<|aQ t x.env)<|ft ρ)(eb:dj x Ar (kQ b x.env) j):
  dj x Ar (hE (.While t b [] pos) x.env) (λρ h Q=> ∃n,iZ ft j n ρ h Q):=λρ0 σ Q h=>h.elim λn h=>
 wpAny_While (codeAny_whileLoop (λn s=>LW σ (λρ h=>iZ ft j n ρ h Q) s) (λn s q=>q.casesOn λρ τ l k=>match n,k with
  |n+1,k=>(c ρ).branch k (λυ l2 k=>
    bz (eb ρ υ _ k) (λfl s p=>p.casesOn λa φ v l3 r k=>by
     have l3:=St.lo.trans (St.lo.trans l<|St.kJ l2) l3
     cases r with
     |next=>exact k.elim λh' k=>⟨n,n7 _,LW.mk (σ:=σ) a (φ.pr k.1) l3 k.2⟩
     |cont=>exact k.elim λh' k=>⟨n,n7 _,LW.mk (σ:=σ) a (φ.pr k.1) l3 k.2⟩
     |brk=>exact PS.dc l3 .next k
     |ret r=>exact PS.dc l3 (.ret r) k) λ_ _ q=>q.elim)
   λυ l2 k=>Bk<|PS.dc (St.lo.trans l<|St.kJ l2) .next k) n<|LW.mk ρ0 σ (St.Uj σ) h)
theorem p6.step{σ:St x}(Iqv:p6 tg it g){a:bB->Prop}{X1:av->bB->Prop}{E}(hh:Ar.handled=Y)(at_:Iqv.at_ xs σ.R)(ga:g σ.A)
  (h0:xs=[]-> ∀τ:St x,τ.A=σ.A->lM Iqv.own σ.R τ.R->a τ.s) (h1: ∀v r,xs=v::r-> ∀(τ:St x) w,τ.A=σ.A->lM Iqv.own σ.R τ.R->Iqv.at_ r τ.R->ax τ.R v w->X1 w τ.s):
  aw (M x) Ar (Bf it) (λq s=>match q with
   |Y=>a s
   |U w=>aw (M x) Ar (G9 tg it w) (λ_ s'=>X1 w s') E s) E σ.s:=
 bz (Iqv.next σ xs (λq s=>match q with
  |Y=>a s
  |U w=>X1 w s) hh at_ ga (by
  cases xs
  ·exact h0 rfl
  ·exact h1 _ _ rfl)) (λq s z=>by
  cases q
  ·exact z
  ·exact bz z (λ_ _ z=>z) λ_ _ q=>q.elim) λ_ _ q=>q.elim
inductive LF (σ:St<|x.at ρ0) (Iqv:p6 tg it g) (B:V->L->H->(Fl->L->H->Prop)->Prop) (Q:Fl->L->H->Prop) (n:Nat):bB->Prop
 |mk (xs:List V) (ρ:L) (τ:St<|x.at ρ):xs.length=n->σ.lo τ->Iqv.at_ xs τ.R->du B g xs ρ τ.A Q->LF σ Iqv B Q n τ.s
theorem as1(hh:Ar.handled=Y){it}{X:L->H->It->Prop}(hs: ∀y,Bl it x.env y=cG y)
  (ei: ∀ρ,qm (x.at ρ) Ar tg it<|X ρ) (ea:qu x Ar tg D) (eb:dj x Ar (kQ b x.env) W):
  dj x Ar (hE (.For tg it b [] pos) x.env) (λρ h Q=>X ρ h λxs g h=>du (λv ρ h Q=>D v ρ h λρ h=>W ρ h Q) g xs ρ h Q):=λρ0 σ Q h=>
 wpAny_For (bz (ei ρ0 σ _ h) (λw s q=>bz q (λiv s q=>q.casesOn λA xs g Iqv l0 own at_ k=>
  codeAny_forLoop_any (LF σ Iqv (λv ρ h Q=>D v ρ h λρ h=>W ρ h Q) Q) (λn s q=>q.casesOn λxs ρ τ hn l at_ k=>
   have keep: ∀{c:L} {υ:St<|x.at c},lM Iqv.own τ.R υ.R->σ.lo υ:=λdX a b o e n=>dX a b o (λz=>absurd e<|own a b o z) (l a b o e n)
   Iqv.step hh at_ (match xs,k with
    |[],k=>k.1
    |_::_,k=>k.1) λe υ j dX=>by subst e;exact Bk (PS.dc (keep dX) .next<|j▸k.2)
    λv r e υ w j dX t J=>by
     subst e
     exact bz (ea ρ υ _ w _ J<|j▸k.2) (λ_ s p=>p.casesOn λc φ l2 k=>bz (eb c φ _ k) (λfl s p=>p.casesOn λi ψ u l3 r k=>by
       have l4:=St.lo.trans l2 l3
       have l5:=St.lo.trans (keep dX) l4
       have f:=Iqv.keep (λa b o n e=>l4 a b o e λz=>absurd z n) t
       cases r with
       |next=>exact k.elim λh' k=>⟨_,hn▸n7 _,LF.mk (σ:=σ) _ i (ψ.pr k.1) rfl l5 f k.2⟩
       |cont=>exact k.elim λh' k=>⟨_,hn▸n7 _,LF.mk (σ:=σ) _ i (ψ.pr k.1) rfl l5 f k.2⟩
       |brk=>exact PS.dc l5 .next k
       |ret r=>exact PS.dc l5 (.ret r) k) λ_ _ q=>q.elim) λ_ _ q=>q.elim)
   xs.length<|LF.mk xs ρ0 A rfl (St.kJ l0) at_ k) λ_ _=>id) λ_ _=>id) hs
end
noncomputable def qr(env:Env):List (Str×n_)->List (Str×ai)->List (Str×ai)
 |[],cs=>cs
 |(n,k)::r,cs=>qr env r (if(k== .free)=aa then(n,(env.cells.lookup n).getD 0)::cs else cs)
theorem LX{k:n_}(h:(k== .free)=aa):k= .free:=by cases k <;>first|rfl|cases h
theorem Lk env: ∀(ns:List (Str×n_)) (cs:List (Str×ai)),(∀n,(n,og)∈ns->(env.cells.lookup n).isSome=aa)->
  (forIn ns cs λx r=>(match x with|(name,kind)=>if(kind==og)=aa then do let a<-Su env name;cG (Hj ((name,a)::r)) else cG (Hj r):Sem (ForInStep (List (Str×ai)))))=cG (qr env ns cs)
 |[],cs,_=>rfl
 |(n,k)::r,cs,h=>by
  rw[aZ1]
  dsimp only
  refine Eq.trans ?_ (Lk env r (if(k== .free)=aa then(n,(env.cells.lookup n).getD 0)::cs else cs) λm hm=>h m<|.tail _ hm)
  refine if hk:(k==og)=aa then ?_ else ?_
  ·refine(u5.mp<|h n<|LX hk▸ .head _).elim λa ha=> ?_
   have e:Su env n=cG a:=by unfold Su;rw[ha]
   rw[aM hk,aM hk,e,ha];rfl
  ·rw[aE hk,aE hk];rfl
theorem Nf(h: ∀n,(n,og)∈scope.names->(env.cells.lookup n).isSome=aa):closureFor scope env=cG (qr env scope.names []):=by
 unfold closureFor
 rw[bind_pure]
 exact Lk env scope.names [] h
theorem B7: ∀(ns:List<|Str×n_) (cs:List<|Str×ai),(∀n,(n,og)∈ns->(env.cells.lookup n).isSome=aa)->(∀n c,cs.lookup n=U c->env.cells.lookup n=U c)->
  ∀n c,(qr env ns cs).lookup n=U c->env.cells.lookup n=U c
 |[],_,_,h=>h
 |(m,k)::r,cs,h0,h=>B7 r _ (λn hn=>h0 n<|.tail _ hn) λb c' e'=>if hk:(k==og)=aa then by
   rw[aM hk,pJ] at e'
   cases q:b==m with
   |true=>
    cases c_ q
    refine(u5.mp<|h0 m<|LX hk▸ .head _).elim λa ha=> ?_
    rw[q,ha] at e'
    exact ha.trans e'
   |false=>rw[q] at e';exact h _ _ e'
  else h _ _ (by rw[aE hk] at e';exact e')
theorem Ln: ∀(ns:List<|Str×n_) (cs:List<|Str×ai) (n:Str),((n,og)∈ns\/ ∃c,(n,c)∈cs)-> ∃c,(n,c)∈qr env ns cs
 |[],_,_,h=>h.elim (λh=>dB h) id
 |(m,k)::r,cs,n,h=>Ln r _ n (h.elim (λh=>(bC.mp h).elim (λh=>by cases h;exact .inr ⟨_,.head _⟩) .inl) λh=> .inr (h.imp λc h=>if hk:(k==og)=aa then by rw[aM hk];exact .tail _ h else by rw[aE hk];exact h))
abbrev Oa(x:Cx):List Str->List Nat->Prop:=bX λn i=>ah x.ns i=U n
abbrev Ik(ρ:L):List Nat->L->Prop:=bX λi o=> ∃v,o=U v/\ah ρ i=U (U v)
theorem Qp{G:Prop}: ∀{cs:List Nat} {P:L->Prop},iF ρ cs P->(∀a,Ik ρ cs a->P a->G)->G
 |[],P,h,k=>k [] .nil h
 |c::cs,P,h,k=>rp h λv hv h=>Qp h λa q p=>k (U v::a) (.cons ⟨v,rfl,hv⟩ q) p
noncomputable abbrev o4(a:List Expr)(env:Env):Sem Bool:=forIn a aa λc r=>if r=aa then do let ok<-isTrue c env (aQ c env);cG (Hj ok) else cG (Hj r)
inductive mH (x:Cx) (scope:Scope) (ns:List Str):Cx->Prop
 |mk (cl:List<|Str×ai) (C:ai) (f:mU (lK scope cl C x.env) ns) (ρ:L):mH x scope ns ⟨x.T,lK scope cl C x.env,ns,x.gens,x.os,f,ρ⟩
structure ma(x:Cx)(scope:Scope)(n:Str)(cs:List Nat)(ns:List Str):Prop where
 kind:scope.kind= .function
 cell: ∀y∈scope.names,y.2≠ .cell
 names: ∀y∈scope.names,y.2= .local->scope.names.lookup y.1=U .local
 free: ∀m,(m,og)∈scope.names->m∈ns
 nP: ∀m,m∈ns->(m,og)∈scope.names/\(Bm scope x.env).names.lookup m=U .cell/\x.env.kindOf m≠U .local
 Ee:(Bm scope x.env).names.lookup n=U .local
 nd:(n::ns).Nodup
 iF:Oa x ns cs
section
variable{x:Cx}{σ:St x}{Ar:cW}{scope:Scope}{n:Str}{cs:List Nat}{ns:List Str}
theorem SN:dU x Ar (o4 [] x.env) (λh T Fa=>tv h T Fa<|.bool aa):=λσ K h=>wpAny_tests_nil (PV.dc rfl (by cases h with|DY a _=>exact a rfl))
theorem ai3(ev:dU x Ar (isTrue e x.env<|aQ e x.env) f):dU x Ar (o4 [e] x.env) f:=λσ K h=>wpAny_tests_one (ev σ K h)
theorem xR{l}{a:α}(h:a∈l): ∃j,ah l j=U a:=(List.getElem_of_mem h).elim λj z=>z.elim λhj e=>⟨j,(lP ..).trans<|(Hg hj).trans<|aA U e⟩
theorem ma.ac6(cok:ma x scope n cs ns)(σ:St x){m:Str}{G:Prop}(hm:m∈ns)(k: ∀j i c o cv,ah ns j=U m->ah cs j=U i->x.env.cells.lookup m=U c->σ.R.kp .own c o->o.data= .cell cv->(∀v,ah x.ρ i=U (U v)-> ∃w,cv=U w/\ax σ.R v w)->G):G:=
 (xR hm).elim λj hj=>cok.iF.ah hj λi hi h=>(σ.fr.var i m h).casesOn (λq=>absurd q (cok.nP m hm).2.2) λc o cv _ h2 h3 h4 a=>k j i c o cv hj ((lP ..).trans hi) h2 h3 h4 a
theorem ma.some(cok:ma x scope n cs ns)(σ:St x): ∀m,(m,og)∈scope.names->(x.env.cells.lookup m).isSome=aa:=λm hm=>cok.ac6 σ (cok.free m hm) λj i c o cv _ _ h _ _ _=>h▸rfl
theorem ma.im(cok:ma x scope n cs ns)(σ:St x) C:mU (lK scope (qr x.env scope.names []) C x.env)<|n::ns:=
 have b:=B7 scope.names [] (cok.some σ) λ_ _ e=>bR e
 ⟨cok.kind,x.st.gF,x.st.blt,cok.nd,λm a c e e'=>x.st.apart m a c (b _ _ e)<|b _ _ e'⟩
end
section
variable{σ:St x}{Ar:cW}{ns:List Str}{K:V->H->Prop}
abbrev Cx.comp(x:Cx)(f:mU (lK scope a C x.env)<|n::ns)(ρ:L):Cx:=⟨x.T,lK scope a C x.env,n::ns,x.gens,x.os,f,ρ⟩
theorem Fr.seq(f:Fr x R)(e:R.kp .own a o)(ho:o.data= .seq xs k):Fr x<|R.bx a<|.kp .own p:=
 have ne: ∀{c o'},R.kp .own c o'->(o'.data= .seq xs k->False)->c≠a:=λg h z=>h ((aA Obj.data (jZ g<|iQ z e).2).trans ho)
 ⟨f.len,f.dQ.casesOn λo' m l e' n h=>⟨o',m,l,(Rm.cV<|ne e' λz=>n.casesOn λ_ _ h0 _ _ _=>nomatch h0.symm.trans z).trans e',n,λi n v a b c=>(h i n v a b c).imp λ_ q=>⟨q.1,q.2.aG<|qf e⟩⟩,
  λi n z=>(f.var i n z).casesOn .dQ λc o cv h1 h2 h3 h4 j=> .cell c o cv h1 h2 ((Rm.cV<|ne h3 λz=>nomatch h4.symm.trans z).trans h3) h4 λv e'=>(j v e').imp λ_ q=>⟨q.1,q.2.aG<|qf e⟩⟩
theorem aI2(τ:St x)(cok:ma x scope n cs ns)(g:Ik x.ρ cs A){C:ai}(hC:C=τ.s.heap.objs.size+1)(hn:h.Ns C λm=>([]:List<|Str×av).reverse.lookup m)(keep: ∀a o,τ.s.heap.get? a=U o->h.get? a=U o)(hD:h.get? τ.s.heap.objs.size=U (cz [] 0)){G:Prop}
  (k: ∀(υ:St<|x.comp (cok.im τ C)<|Y::A),υ.s={τ.s with heap:=h,toks:=t}->υ.A=τ.A->τ.R.le υ.R->υ.R.kp .own τ.s.heap.objs.size (cz [] 0)->G):G:=
 hn.elim λo hn=>hn.elim λes hn=>hn.elim λep hn=>by
  have e1:τ.R C=Y:=τ.bh.dm _ (hC▸jm _)
  have nDC:τ.s.heap.objs.size≠C:=λz=>td _ (hC.symm.trans z.symm)
  have l1:=Rm.jh (r:= .kp .own<|cz [] 0) τ.new
  have e2:τ.R.bx τ.s.heap.objs.size (.kp .own<|cz [] 0) C=Y:=(Rm.cV nDC.symm).trans e1
  have l:τ.R.le<|(τ.R.bx τ.s.heap.objs.size<|.kp .own<|cz [] 0).bx C<|.kp .own o:=λa b p z=>Rm.jh e2 _ _ _ (l1 _ _ _ z)
  have m1:=τ.bh.mG _ hD (λb o _=>keep b o) (b:= .own) (τ.bh.kB λz=>bH <|τ.new.symm.trans z) (λ_ z=>bH <|τ.new.symm.trans z) λ_ z=>bH <|τ.new.symm.trans z
  refine k ⟨_,τ.A,{τ.s with heap:=h,toks:=t},(m1.mG C hn.1 (λb o _=>id) (b:= .own) (m1.kB λz=>bH <|e2.symm.trans z) (λ_ z=>bH <|e2.symm.trans z) λ_ z=>bH <|e2.symm.trans z),λa o e=>l _ _ _<|τ.bY a o e,τ.gens,τ.os,⟨aA (· +1)<|g.length.trans cok.iF.length,⟨o,_,es.size,Rm.cO ..,⟨es,ep,hn.2.1,hn.2.2.1,hn.2.2.2,dP _⟩,λi m v a b c=> ?_⟩,λi m a=> ?_⟩⟩ rfl rfl l ((Rm.cV nDC).trans<|Rm.cO ..)
  ·cases i with
   |zero=>exact bR (bL c)
   |succ i=>exact nomatch((cok.nP m<|oB a).2.1).symm.trans b
  ·cases i with
   |zero=>exact iK a (.dQ cok.Ee)
   |succ i=>
    have hm:=oB (l:=ns) a
    refine cok.iF.ah a λy s h=>(τ.fr.var y m h).casesOn (λq=>absurd q (cok.nP m hm).2.2) λc o cv _ h2 h3 h4 u=> ?_
    refine(Ln (env:=x.env) scope.names [] m<|.inl (cok.nP m hm).1).elim λc' f=>(u5.mp<|Ig f).elim λc' f=> ?_
    have q:=bL ((B7 scope.names [] (cok.some τ) (λ_ _ e=>bR <|e) _ _ f).symm.trans h2)
    exact .cell c o cv (.inl (cok.nP m hm).2.1) (q▸f) (l _ _ _ h3) h4 λv hv=>g.ah ((lP ..).trans s) λov w j=>j.elim λD j=>by
     cases((lP ..).trans w).symm.trans hv
     cases j.1
     exact(u v j.2).imp λ_ q=>⟨q.1,q.2.aG l.fl⟩
inductive PC (σ:St x) (K:V->H->Prop) (w:av) (C:ai):bB->Prop
 |mk (τ:St x) (v:V) (o:Obj):σ.le τ->(∀b o,¬σ.R.kp b C o)->τ.R.kp .own C o->(∃m k,iP o m k)->ax τ.R v w->K v τ.A->PC σ K w C τ.s
def St.out(σ:St x)(υ:St y)(b:y.gens=x.gens)(ho:y.os=x.os) S A(m:c4 S A υ.s.heap)(l:σ.R.le S):St x:=⟨S,A,υ.s,m,λa o e=>l _ _ _<|σ.bY a o e,b▸υ.gens,ho▸υ.os,σ.fr.keep l⟩
theorem YE(υ:St y)(f:y.gens=x.gens)(ho:y.os=x.os)(l:σ.R.le υ.R)(e:υ.R.kp .own D<|cz us m)(n1: ∀b o,¬σ.R.kp b D o)(n2: ∀b o,¬σ.R.kp b C o)(ne:C≠D)(r:aV υ.R vs us)(c:υ.R.kp .own C h)(hC: ∃m k,iP h m k)
  (k:j5 fr vs υ.A K):PC σ K (.ref D) C υ.s:=
 have l': ∀(r),σ.R.le<|υ.R.bx D r:=λr a b o z=>(Rm.cV λy=>n1 b o<|iQ y.symm z).trans (l a b o z)
 have fl: ∀(r),υ.R.fl<|υ.R.bx D r:=λr a o z=>(Rm.cV<|tH z e).trans z
 have na:=υ.bh.kB λz=>bH <|e.symm.trans z
 match fr,k with
 |aa,k=>PC.mk (σ.out υ f ho _ υ.A (υ.bh.mG D (υ.at e) (λ_ _ _=>id) na (λ_ z=>fX (jZ z e).1) λ_ z=>bH <|e.symm.trans z)<|l' _) (.fl vs) h (l' _) n2 ((Rm.cV ne).trans c) hC (.fl (Rm.cO ..)<|r.aG<|fl _) k
 |ae,k=>PC.mk (σ.out υ f ho (υ.R.bx D .abs) (υ.A.cr D<|.list vs) (υ.bh.abs D (λ_=>Rm.cV) (λ_ _ _=>id) (Rm.cO ..) (λ_ z=>fX (jZ z e).1) (λ_ z=>bH <|e.symm.trans z)<|.list (υ.at e)<|r.aG<|fl _)<|l' _) (.ref D) h (l' _) n2 ((Rm.cV ne).trans c) hC (.ref _) (k D na)
theorem Fr.Js(f0:Fr x R)(n: ∀b o,¬R.kp b C o):x.env.locals≠C:=f0.dQ.casesOn λo m k e _ _ z=>n _ _ (iQ z.symm e)
theorem Fr.ag1{R S}(f0:Fr x R)(n: ∀b o,¬R.kp b C o)(e:S.kp .own C o)(f:Fr (x.at ρ) S):Fr (x.at ρ)<|S.dX C:=
 have fl:S.fl<|S.dX C:=λa o z=>(aE<|tH z e).trans z
 ⟨f.len,f.dQ.casesOn λo m k e ns h=>⟨o,m,k,(aE<|f0.Js n).trans e,ns,λi n v a b c=>(h i n v a b c).imp λ_ q=>⟨q.1,q.2.aG fl⟩⟩,
  λi m z=>(f.var i m z).casesOn .dQ λc o cv h1 h2 h3 h4 p=> .cell c o cv h1 h2 ((aE λy=>(f0.var i m z).casesOn (λq=>h1.elim (λh1=>nomatch h1.symm.trans q) λh1=>nomatch h1.symm.trans q) λc' o' l _ j g _ _=>n _ _<|iQ (y.symm.trans<|bL<|h2.symm.trans j) g).trans h3) h4 λv e'=>(p v e').imp λ_ q=>⟨q.1,q.2.aG fl⟩⟩
def St.drop(σ:St x)(τ:St<|x.at ρ)(n: ∀b o,¬σ.R.kp b C o)(e:τ.R.kp .own C o)(sb:sX C τ.s.heap h):St<|x.at ρ:=
 ⟨τ.R.dX C,τ.A,{τ.s with heap:=h},τ.bh.jx C (λb z=>aE z) (λ_ _ _=>id) (λb o z q=>(sb.2 b z).trans q) (λa o z=>(aE<|tH z e).trans z) (λ_ _ z=>bH <|(aM rfl).symm.trans z) (λ_ z=>bR <|(τ.bh.kB λy=>bH <|e.symm.trans y).symm.trans z) (λ_ z=>bH <|e.symm.trans z) λ_=>aM rfl,
  λa o z=>(aE λy:a=C=>n .fr o<|iQ y.symm<|σ.bY a o z).trans<|τ.bY a o z,τ.gens,τ.os,σ.fr.ag1 n e τ.fr⟩
theorem Wf(q:PC σ K w C s): ∃m,s.heap.Ns C m/\ ∀h,sX C s.heap h->PV ax σ K w {s with heap:=h}:=q.casesOn λτ v o l n e hN r k=>hN.elim λm hN=>hN.elim λ_ hN=>⟨m,τ.ns e hN,λh sb=>
 PV.mk (σ.drop τ n e sb) v w (λa b o z=>(aE λy:a=C=>n b o<|iQ y.symm z).trans<|l a b o z) (r.aG λa o z=>(aE<|tH z e).trans z) k⟩
end
section
variable{x:Cx}{σ:St x}{Ar:cW}{scope:Scope}{n:Str}{cs:List Nat}{ns:List Str}{K:V->H->Prop}{px pos:Pos}{iter elt:Expr}{ifs:List Expr}{ft:L->H->(H->Prop)->(H->Prop)->Prop}{fe:L->H->(V->H->Prop)->Prop}{fr:Bool}
abbrev yy(ft:L->H->(H->Prop)->(H->Prop)->Prop)(fe:L->H->(V->H->Prop)->Prop)(a:L)(v:V)(h:H)(K:Option V->H->Prop):Prop:=ft (U v::a) h (λh=>fe (U v::a) h λw h=>K (U w) h) λh=>K .none h
abbrev NA(fr:Bool)(b:H->It->Prop)(ρ:L)(cs:List Nat)(ft:L->H->(H->Prop)->(H->Prop)->Prop)(fe:L->H->(V->H->Prop)->Prop)(h:H)(Q:V->H->Prop):Prop:=
 b h λxs g h=>a_ xs.length/\iF ρ cs λa=>hU (λv h K=>ft (U v::a) h (λh=>fe (U v::a) h λw h=>K (U w) h) λh=>K .none h) g xs h λws h=>j5 fr ws h Q
inductive LC (σ:St x) {C:ai} {cl:List<|Str×ai} (f:mU (lK scope cl C x.env)<|n::ns) (κ:L) (D:ai) {it:av} {g:H->Prop} (Iqv:p6 (.Name n px) it g) (ft:L->H->(H->Prop)->(H->Prop)->Prop) (fe:L->H->(V->H->Prop)->Prop) (fr:Bool) (K:V->H->Prop) (k:Nat):bB->Prop
 |mk (xs:List V) (q:Option V) (υ:St<|x.comp f<|q::κ) (vs:List V) (us:List av) (m:Nat) (P:List V->H->Prop):xs.length=k->σ.R.le υ.R->υ.R.kp .own D (cz us m)->aV υ.R vs us->a_ (vs.length+xs.length)->Iqv.at_ xs υ.R->(∀ws h,P ws h->j5 fr (vs++ws) h K)->
   hU (yy ft fe κ) g xs υ.A P->LC σ f κ D Iqv ft fe fr K k υ.s
theorem aB6{B g h K}{xs:List V}(q:hU B g xs h K):g h:=by
 cases xs <;>exact q.1
theorem ab9(hh:Ar.handled=Y){C D}{y}(f:mU (lK scope y C x.env)<|n::ns)(hk:(Bm scope x.env).names.lookup n=U .local)(t:L){it}{g}(Iqv:p6 (.Name n px) it g)
  (own: ∀a b o,Iqv.own a-> ¬σ.R.kp b a o) (n1: ∀b o,¬σ.R.kp b D o) (n2: ∀b o,¬σ.R.kp b C o) (ne:C≠D)
  (et: ∀x',mH x scope (n::ns) x'->dU x' Ar (o4 ifs x'.env) (ft x'.ρ)) (ee: ∀x',mH x scope (n::ns) x'->a3 x' Ar (aQ elt x'.env) (fe x'.ρ)) {k} {s} (h:LC σ f t D Iqv ft fe fr K k s):
  oa (M x) Ar (.compLoop (.ListComp elt [⟨.Name n px,iter,ifs,0⟩] scope pos) 0 it (.ref D)<|lK scope y C x.env) (λr s'=>match r with|.ok _=>PC σ K (.ref D) C s'|.error _=>False) s:=
 codeAny_compLoop_tests (LC σ f t D Iqv ft fe fr K) (λk s q=>q.casesOn λxs q υ vs us m P hn le eD r hl at_ hP h=>
  bz (Iqv.step (X1:=λw s=>aw (M x) Ar (Hi (.Name n px) (lK scope y C x.env) w) (λ_ R=>aw (M x) Ar (o4 ifs<|lK scope y C x.env) (λok A=>
    if ok=aa then aw (M x) Ar (aQ elt<|lK scope y C x.env) (λu Q=>aw (M x) Ar (call (.builtin "list.append") [.ref D,u]) (λ_ N=> ∃m,m <k/\LC σ f t D Iqv ft fe fr K m N) N0 Q) N0 A
    else∃m,m <k/\LC σ f t D Iqv ft fe fr K m A) N0 R) N0 s) hh at_ (aB6 h)
   (λe τ W dX=>by
    subst e
    have keep:=λ{a b o} e=>dX a b o (λz=>absurd e<|own a b o z) (le a b o e)
    exact τ.fr.dQ.casesOn λoC mC k e nC _=>YE (σ:=σ) τ rfl rfl (λa b o e=>keep e) (dX _ _ _ (λ_ z=>fX z) eD) n1 n2 ne (r.aG dX.fl) e ⟨mC,k,nC⟩<|c9 vs▸hP [] _ (W▸h.2))
   λv rs e τ w W dX X rW=>by
    subst e
    have keep:=λ{a b o} e=>dX a b o (λz=>absurd e<|own a b o z) (le a b o e)
    refine So (v_ (σ:=τ) (i:=0) (P:=λh=>yy ft fe t v h λo h=>hU (yy ft fe t) g rs h λws h=>match o with
     |U w=>P (w::ws) h
     |.none=>P ws h) rfl (λz=>nomatch hk.symm.trans z) rW (W▸h.2) λχ lo st h=> ?_)
    have st:=st hk
    have pn:=λa b o e=>st a b o (λz=>n2 b o<|iQ z.symm e) (keep e)
    have eD2:χ.R.kp .own D<|cz us m:=st _ _ _ ne.symm (dX _ _ _ (λ_ z=>fX z) eD)
    have J:=Iqv.keep (λa b o n e=>lo a b o e λz=>absurd z n) X
    have r2:=(r.aG dX.fl).aG (St.lo.fl lo)
    refine dU.branch (et _<|.mk y C f<|U v::t) h (λφ l h=> ?_) λφ l h=> ?_
    ·rw[aM rfl]
     refine(ee _<|.mk y C f<|U v::t).bind h λψ T u l2 ru h=> ?_
     have j:=l2 _ _ _ (l _ _ _ eD2)
     refine G8 R7 ⟨_,ψ.at j,rfl⟩ a04 (a05 _ _) (a06 D us.toArray m u<|by rw[ry r2];exact jB<|ak (cm ..) hl) ⟨ψ.at j,(ER (λxs=>xs.push u) us m).elim λm' en=> ?_⟩
     rw[List.push_toArray] at en
     let Z:=ψ.own (U v::t) ψ.s.toks j ((uX (u9 (·.push u)) (ψ.at j)<|en▸rfl).trans<|aA U en) (A6 ..) (ψ.fr.seq j rfl)
     have fl:ψ.R.fl Z.R:=qf j
     refine⟨_,hn▸n7 _,LC.mk (σ:=σ) rs (U v) Z (vs++[T]) (us++[u]) m' (λws h=>P (T::ws) h) rfl (λa b o e=>(Rm.cV λz=>n1 b o<|iQ z.symm e).trans<|l2 _ _ _<|l _ _ _<|pn _ _ _ e) (Rm.cO ..) (aV.aG (bX.append ((r2.aG l.fl).aG l2.fl)<|.cons ru .nil) fl)
      (by rw[aC,cH,c5 [T].length];exact hl) (Iqv.keep (λa b o n e=>(Rm.cV λz=>n (jZ (iQ z.symm<|l2 _ _ _<|l _ _ _ e) j).1).trans<|l2 _ _ _<|l _ _ _ e) J) (λws h p=>by rw[aX];exact hP (T::ws) h p) h⟩
    ·rw[aE A7]
     exact⟨_,hn▸n7 _,LC.mk rs (U v) φ vs us m P rfl (λa b o e=>l _ _ _<|pn _ _ _ e) (l _ _ _ eD2) (r2.aG l.fl) (ak (jm _) hl) (Iqv.keep (λa b o n e=>l _ _ _ e) J) hP h⟩)
   (λr s z=>by
    rcases r with _|w
    ·exact z
    ·exact(bz (aF z:aw (M x) Ar ((cG ()) >>=λ_=>Hi (.Name n px) (lK scope y C x.env) w) _ N0 s) (λ_ _ z=>bz z (λc _ z=>by
      cases c with
      |false=>exact z
      |true=>exact bz z (λ_ _ z=>bz z (λ_ _ z=>z) λ_ _ z=>z.elim) λ_ _ z=>z.elim) λ_ _ z=>z.elim) λ_ _ z=>z.elim)) λ_ _ z=>AT z) k h λ_=>rfl
theorem Io(hh:Ar.handled=Y)(cok:ma x scope n cs ns)(N: ∀x',mH x scope (n::ns) x'->dU x' Ar (o4 ifs x'.env) (ft x'.ρ))(Q: ∀x',mH x scope (n::ns) x'->a3 x' Ar (aQ elt x'.env) (fe x'.ρ))
  {A} {xs} {g} (τ:St x) (Iqv:p6 (.Name n px) A g) (l:σ.le τ) (own: ∀a b o,Iqv.own a-> ¬σ.R.kp b a o) (at_:Iqv.at_ xs τ.R) (hl:a_ xs.length) (h:iF x.ρ cs λs=>hU (yy ft fe s) g xs τ.A λws h=>j5 fr ws h K) {Z:av->ai->u6->bB->Prop}
  (z: ∀acc C r s',(match r with|.ok _=>PC σ K acc C s'|.error _=>False)->Z acc C r s'):aw (M x) Ar (newList []) (λacc f=>aw (M x) Ar (newFunctionEnv scope x.env.globals (qr x.env scope.names []) [] x.env.qual Y .none<|U x.env) (λcenv i=>
   oa (M x) Ar (.compStart (.ListComp elt [⟨.Name n px,iter,ifs,0⟩] scope pos) 0 A acc {cenv with scope:=Bm scope x.env}) (λr s'=>Z acc cenv.locals r s') i) N0 f) N0 τ.s:=by
 refine Qp h λs j h=>u4 (wpAny_newFunctionEnv cok.cell (λy J=>dB J) (λD hns sb=> ?_) cok.kind)
 have hC:(τ.s.heap.push<|cz [] 0).objs.size=τ.s.heap.objs.size+1:=tc ..
 have nDC:τ.s.heap.objs.size≠(τ.s.heap.push<|cz [] 0).objs.size:=λz=>td _ (hC.symm.trans z.symm)
 refine aI2 (t:=τ.s.toks+([]:List<|Str×av).length) τ cok j hC hns (λa o e=>sb.extBut a o (λz=>Nat.lt_asymm (g_ e)<|z▸hC▸n7 _)<|eB _<|eB _ e) (sb.extBut _ _ nDC<|eB _<|hg _ rfl) λυ es w l2 eD=> ?_
 have new: ∀{a},τ.R a=Y-> ∀b o,¬σ.R.kp b a o:=λe b o z=>bH <|e.symm.trans (l _ _ _ z)
 have c:=Iqv.keep (λa b o _ e=>l2 _ _ _ e) at_
 have ga:=w▸(match xs,h with
  |[],h=>h.1
  |_::_,h=>h.1)
 have loop:=xC (ab9 (pos:=pos) (iter:=iter) hh (cok.im τ (τ.s.heap.push<|cz [] 0).objs.size) cok.Ee s Iqv own (new τ.new) (new<|τ.bh.dm _<|hC▸jm _) nDC.symm N Q<|LC.mk xs Y υ [] [] 0 (λws h=>j5 fr ws h K) rfl (λa b o e=>l2 _ _ _<|l _ _ _ e) eD .nil (by rw[j6,gM];exact hl) c (λws h p=>p)<|w▸h) (z _ _)
 have go:=codeAny_compStart_list loop (bz (Iqv.self (.mk _ _) υ xs (λu s'=>oa (M x) Ar (.compLoop (.ListComp elt [⟨.Name n px,iter,ifs,0⟩] scope pos) 0 u (.ref τ.s.heap.objs.size)<|lK scope (qr x.env scope.names []) (τ.s.heap.push<|cz [] 0).objs.size x.env) (Z (.ref τ.s.heap.objs.size) (τ.s.heap.push<|cz [] 0).objs.size) s') hh c ga loop) (λ_ _ q=>q) λ_ _ q=>q.elim)
 rw[es] at go
 exact go
theorem WE(hh:Ar.handled=Y)(cok:ma x scope n cs ns){a}(hs: ∀y,Bl iter x.env y=cG y)(ei:qm x Ar (.Name n px) iter a)
  (b: ∀x',mH x scope (n::ns) x'->dU x' Ar (o4 ifs x'.env) (ft x'.ρ)) (c: ∀x',mH x scope (n::ns) x'->a3 x' Ar (aQ elt x'.env) (fe x'.ρ)):
  a3 x Ar (aQ (.ListComp elt [⟨.Name n px,iter,ifs,0⟩] scope pos) x.env)<|NA fr a x.ρ cs ft fe:=λσ K h=>by
 rw[eval_ListComp]
 exact a41 rfl hs (Nf<|cok.some σ) cok.kind cok.names (bz (ei σ _ h) (λw s q=>bz q (λe s q=>q.casesOn λτ xs g Iqv l own at_ k=>
  Io hh cok b c τ Iqv l own at_ k.1 k.2 λacc C r s' q=>match r,q with
   |.ok _,q=>Wf q
   |.error _,q=>q.elim) λ_ _=>id) λ_ _=>id)
theorem ac7(hh:Ar.handled=Y){t}{i}{p j}(cok: ∀ρ,ma (x.at ρ) scope n cs ns){u:L->H->It->Prop}
  (e:Sr (.ListComp elt [⟨.Name n px,iter,ifs,0⟩] scope pos) (U<|.Name t p) j.line x.env=cG aa) (hn:ah x.ns i=U t) (hl:x.env.kindOf t=U .local)
  (hs: ∀y,Bl iter x.env y=cG y) (ei: ∀ρ,qm (x.at ρ) Ar (.Name n px) iter<|u ρ)
  (D: ∀ρ x',mH (x.at ρ) scope (n::ns) x'->dU x' Ar (o4 ifs x'.env) (ft x'.ρ)) (J: ∀ρ x',mH (x.at ρ) scope (n::ns) x'->a3 x' Ar (aQ elt x'.env) (fe x'.ρ)):
  dj x Ar (hE (.Assign [.Name t p] (.ListComp elt [⟨.Name n px,iter,ifs,0⟩] scope pos) j) x.env) (λρ h Q=>NA fr (u ρ) ρ cs ft fe h λv h=>Q .next (cY ρ i v) h):=λρ σ Q h=>by
 rw[exec_Assign_Name_used _ _ _ _ e]
 refine aF (jn<|aF ?_)
 refine aF (bz (a41 rfl hs (Nf<|(cok ρ).some σ) (cok ρ).kind (cok ρ).names (bz (ei ρ σ _ h) (λw s q=>bz q (λN s q=>q.casesOn λτ xs g Iqv l own at_ k=>
  Io hh (cok ρ) (D ρ) (J ρ) τ Iqv l own at_ k.1 k.2 λacc C r s' q=>match r,q with
   |.error _,q=>q.elim
   |.ok _,q=>q.casesOn λυ v o le c f hN r k=>So (v_ (σ:=υ) hn (λz=>nomatch hl.symm.trans z) r k λφ lo st k=>
    have e2:=st hl _ _ _ (σ.fr.Js c).symm f
    hN.elim λm hN=>hN.elim λ_ hN=>⟨m,φ.ns e2 hN,λh sb=>PS.mk _ (σ.drop φ c e2 sb) .next (λa b o z n=>(aE λy:a=_=>c b o<|iQ y.symm z).trans<|lo a b o (le a b o z) n) .next k⟩)) λ_ _=>id) λ_ _=>id)) (λ_ s' A=>bW<|bW A) λ_ _=>id)
end
abbrev ab(P:Prop):=(b:Bool)×'(b=aa->P)
noncomputable abbrev ab.b{P}(t:ab P):Bool:=t.1
noncomputable abbrev ab.ok{P}(t:ab P):t.b=aa->P:=t.2
section
theorem dG{a b}(h:(a&&b)=aa):a=aa:=(fG.mp h).1
theorem ff{a b}(h:(a&&b)=aa):b=aa:=(fG.mp h).2
noncomputable def ab.no:ab P:=⟨ae,λh=>fE h⟩
noncomputable def ab.yes(p:P):ab P:=⟨aa,λ_=>p⟩
def ab.map(t:ab P)(f:P->Q):ab Q:=⟨t.b,λh=>f<|t.ok h⟩
def ab.and(s:ab P)(t:ab Q)(f:P->Q->R):ab R:=⟨s.b&&t.b,λh=>f (s.ok<|dG h)<|t.ok<|ff h⟩
def ab.or(s t:ab P):ab P:=⟨s.b||t.b,λh=>(xm.mp h).elim s.ok t.ok⟩
noncomputable def ba{M:Type}(no:M)(c:Bool)(k:c=aa->M):M:=match c,k with
 |aa,k=>k rfl
 |ae,_=>no
@[elab_as_elim] def ja{α:Type} [BEq α] [LawfulBEq α] {M:α->Type}(a b:α)(no:M a)(k:M b):M a:=ba no (a==b) λh=>(c_ h).symm▸k
noncomputable def ab.is(c:Bool)(k:c=aa->P):ab P:=⟨c,k⟩
end
@[elab_as_elim] noncomputable def gN{α:Type}{M:List α->Type}(l:List α)(no:M l)(k:M []):M l:=match l,no with
 |[],_=>k
 |_::_,no=>no
@[elab_as_elim] noncomputable def gC{α:Type}{M:List α->Type}(l:List α)(no:M l)(k: ∀a r,M<|a::r):M l:=match l,no with
 |[],no=>no
 |a::r,_=>k a r
@[elab_as_elim] noncomputable def gO{α:Type}{M:Option α->Type}(o:Option α)(n:M Y)(k: ∀a,M<|U a):M o:=match o with
 |Y=>n
 |U a=>k a
section
variable{M:Expr->Type}(t:Expr)(no:M t)
noncomputable def g0(n:Nat)(f:t.ctorIdx=n->M t):M t:=if h:t.ctorIdx=n then f h else no
@[elab_as_elim] def Ey(k: ∀a b c,M<|.BoolOp a b c):M t:=g0 t no 0 λh=>Expr.BoolOp.elim t h k
@[elab_as_elim] def ye(k: ∀a b c d,M<|.BinOp a b c d):M t:=g0 t no 2 λh=>Expr.BinOp.elim t h k
@[elab_as_elim] def vw(k: ∀a b c,M<|.UnaryOp a b c):M t:=g0 t no 3 λh=>Expr.UnaryOp.elim t h k
@[elab_as_elim] def DN(k: ∀a b c d,M<|.IfExp a b c d):M t:=g0 t no 5 λh=>Expr.IfExp.elim t h k
@[elab_as_elim] def No(k: ∀a b c,M<|.Dict a b c):M t:=g0 t no 6 λh=>Expr.Dict.elim t h k
@[elab_as_elim] def C_(k: ∀a b c d,M<|.ListComp a b c d):M t:=g0 t no 8 λh=>Expr.ListComp.elim t h k
@[elab_as_elim] def Ef(k: ∀a b c d,M<|.Compare a b c d):M t:=g0 t no 15 λh=>Expr.Compare.elim t h k
@[elab_as_elim] def pV(k: ∀a b c d,M<|.Call a b c d):M t:=g0 t no 16 λh=>Expr.Call.elim t h k
@[elab_as_elim] def oq(k: ∀a b c,M<|.Constant a b c):M t:=g0 t no 19 λh=>Expr.Constant.elim t h k
@[elab_as_elim] def ka(k: ∀a b c,M<|.Attribute a b c):M t:=g0 t no 20 λh=>Expr.Attribute.elim t h k
@[elab_as_elim] def mi(k: ∀a b c,M<|.Subscript a b c):M t:=g0 t no 21 λh=>Expr.Subscript.elim t h k
@[elab_as_elim] def fS(k: ∀a b,M<|.Name a b):M t:=g0 t no 23 λh=>Expr.Name.elim t h k
@[elab_as_elim] def DP(k: ∀a b,M<|.List a b):M t:=g0 t no 24 λh=>Expr.List.elim t h k
@[elab_as_elim] def kA(k: ∀a b c,M<|.Tuple a b c):M t:=g0 t no 25 λh=>Expr.Tuple.elim t h k
@[elab_as_elim] def NH(k: ∀a b c d,M<|.Slice a b c d):M t:=g0 t no 26 λh=>Expr.Slice.elim t h k
end
section
variable{M:cj->Type}(t:cj)(no:M t)
noncomputable def g1(n:Nat)(f:t.ctorIdx=n->M t):M t:=if h:t.ctorIdx=n then f h else no
@[elab_as_elim] def xI(k: ∀a b,M<|.Return a b):M t:=g1 t no 3 λh=>cj.Return.elim t h k
@[elab_as_elim] def Ei(k: ∀a b c,M<|.Assign a b c):M t:=g1 t no 5 λh=>cj.Assign.elim t h k
@[elab_as_elim] def BU(k: ∀a b c d,M<|.AugAssign a b c d):M t:=g1 t no 7 λh=>cj.AugAssign.elim t h k
@[elab_as_elim] def au1(k: ∀a b c d e,M<|.For a b c d e):M t:=g1 t no 9 λh=>cj.For.elim t h k
@[elab_as_elim] def ao3(k: ∀a b c d,M<|.While a b c d):M t:=g1 t no 11 λh=>cj.While.elim t h k
@[elab_as_elim] def NQ(k: ∀a b c d,M<|.If a b c d):M t:=g1 t no 12 λh=>cj.If.elim t h k
@[elab_as_elim] def ah9(k: ∀a b c,M<|.Raise a b c):M t:=g1 t no 16 λh=>cj.Raise.elim t h k
@[elab_as_elim] def Ow(k: ∀a b c d e,M<|.Try a b c d e):M t:=g1 t no 17 λh=>cj.Try.elim t h k
@[elab_as_elim] def aj2(k: ∀a b,M<|.Expr a b):M t:=g1 t no 24 λh=>cj.Expr.elim t h k
@[elab_as_elim] def aq5(k: ∀a,M<|.Pass a):M t:=g1 t no 25 λh=>cj.Pass.elim t h k
@[elab_as_elim] def aq3(k: ∀a,M<|.Continue a):M t:=g1 t no 27 λh=>cj.Continue.elim t h k
end
@[elab_as_elim] noncomputable def xN{M:E->Type}(t:E)(no:M t)(k: ∀v,M<|.c v):M t:=match t,no with
 |.c v,_=>k v
 |_,no=>no
@[elab_as_elim] noncomputable def P9{M:E->Type}(t:E)(no:M t)(k: ∀i,M<|.x i):M t:=match t,no with
 |.x v,_=>k v
 |_,no=>no
@[elab_as_elim] noncomputable def Wg{M:V->Type}(t:V)(no:M t)(k:M .none):M t:=if h:t.ctorIdx=0 then V.none.elim t h k else no
@[elab_as_elim] noncomputable def NX{M:V->Type}(t:V)(no:M t)(k: ∀i,M<|.int i):M t:=if h:t.ctorIdx=2 then V.int.elim t h k else no
structure Cc where
 sc:List (Str×n_)
 ns:List Str
 G:List Nat
structure o_ where
 C:cZ
 k:Nat
 Ar:cW
 rm:d9 (k+2) Ar
structure c2(z:o_)(c:Cc)(x:Cx):Prop where
 sc:x.env.scope.names=c.sc
 ns:x.ns=c.ns
 G:x.T.G=c.G
 gc:mK x.T z.C z.k
section
theorem c2.kindOf(g:c2 z c x)(n:Str):x.env.kindOf n=c.sc.lookup n:=aA (G7 n) g.sc
theorem hY{b}(h:(!b)=aa):b=ae:=match b,h with|ae,_=>rfl
noncomputable def zH(n:Str):Bool:= !(n==("__debug__"))&& !(n==("__classdict__"))
theorem yD(h:zH n=aa):(n==("__debug__":Str))=ae:=hY (dG h)
theorem CB(h:zH n=aa):(n==("__classdict__":Str))=ae:=hY (ff h)
def g7(c:Cc)(n:Str):Bool:=(c.sc.lookup n==U .globalImplicit)&&zH n
theorem c2.g7(g:c2 z c x)(h:g7 c n=aa):x.env.kindOf n=U .globalImplicit:=(g.kindOf n).trans (c_<|dG h)
theorem tF(h:g7 c n=aa):(n==("__debug__":Str))=ae:=yD (ff h)
def yL(c:Cc)(i:Nat)(n:Str):Bool:=(ah c.ns i==U n)&&zH n
theorem c2.dQ(g:c2 z c x){i}(h:yL c i n=aa):ah x.ns i=U n:=(aA (ah · i) g.ns).trans (c_<|dG h)
abbrev SV(c:Cc)(e:E)(a:Expr):Prop:= ∀(z) x,c2 z c x->a3 x z.Ar (aQ a x.env) (ao I z.C e x.ρ).v
abbrev ST(c:Cc)(e:E)(a:Expr):Prop:= ∀(z) x,c2 z c x->dU x z.Ar (isTrue a x.env<|aQ a x.env) (ao I z.C e x.ρ).t
abbrev SI(c:Cc)(e:E)(a tg:Expr):Prop:= ∀(z:o_) x,c2 z c x->qm x z.Ar tg a (ao I z.C e x.ρ).i
abbrev aP(c:Cc)(e:E)(a:Expr):=ab (SV c e a)×ab (ST c e a)×(∀tg,ab<|SI c e a tg)
def aP.no:aP c e a:=⟨ab.no,ab.no,λ_=>ab.no⟩
def Ao(tg:Expr):ab<|i5 tg:=fS tg (kA tg ab.no λes k p=>ab.yes<|.t es k p) λs p=>ab.yes (.n s p)
def aP.of(v:ab<|SV c e a)(hp: ∀env m,isTrue a env m=(do let v<-m;u1 a.pos;iT [v] (xx v)))(ht: ∀C ρ,(ao I C e ρ).t=λh T F=>(ao I C e ρ).v h λv h=>tv h T F v)(hi: ∀C ρ,(ao I C e ρ).i=λh K=>(ao I C e ρ).v h λv h=>hQ h K v):aP c e a:=
 ⟨v,ab.map v λq z x g=>by rw[hp,ht];exact Gr<|q z x g,λtg=>ab.and v (Ao tg) λq ht z x g=>by rw[hi];exact C4 ht<|q z x g⟩
abbrev SL(c:Cc)(es:Es)(as:List Expr):Prop:=as.all fF=aa/\ ∀(z:o_) x pos,c2 z c x->fW as.length x z.Ar (iS<|eV pos<|eW as x.env) (cU I z.C es x.ρ)
abbrev CkL(c:Cc)(es:Es)(as:List Expr):=ab (SL c es as)×(∀a,ab (∃e,es= .cons e .nil/\SV c e a))
theorem VP{l}{b}{k}{pos}{Ar}(h:decide (b.map (λx:UInt8=>(x.toNat:Int))=l)=aa):a3 x Ar (aQ (.Constant (.bytes b) k pos) x.env) (λh Q=>Q (.a8 l) h):=λσ K q=>by
 cases of_decide_eq_true h
 exact Constant_bytes (.tk (.a8 b.toArray _) q)
noncomputable def Iz(v:V)(k:Const)(m:Nat)(pos:Pos):ab (∀(x:Cx) (Ar:cW),a3 x Ar (aQ (.Constant k m pos) x.env) λh Q=>Q v h):=match v with
 |.none=>(match k with
  |.none=>ab.yes λ_ _=>ai8
  |_=>ab.no)
 |.bool b=>(match k with
  |.bool d=>ab.is (b==d) λh _ _=>c_ h▸ay4
  |_=>ab.no)
 |.int b=>(match k with
  |.int d=>ab.is (b==d) λh _ _=>c_ h▸O9
  |_=>ab.no)
 |.str b=>(match k with
  |.str d=>ab.is (b==d) λh _ _=>c_ h▸ay7
  |_=>ab.no)
 |.a8 b=>(match k with
  |.bytes d=>ab.is (decide<|d.map (λx:UInt8=>(x.toNat:Int))=b) λh _ _=>VP h
  |_=>ab.no)
 |_=>ab.no
abbrev TE(e:E):Type:= ∀c a,aP c e a
abbrev TL(es:Es):Type:= ∀c as,CkL c es as
def NE(v:V):TE<|.c v:=λc a=>oq a aP.no λk m pos=>aP.of (ab.map (Iz v k m pos) λh z x g=>h x z.Ar) (λ_ _=>rfl) (λ_ _=>rfl) (λ_ _=>rfl)
def Jd(i:Nat):TE<|.x i:=λc a=>fS a aP.no λn pos=>aP.of (ab.is (yL c i n) λh z x g=>Yi (g.dQ h) (yD<|ff h)<|CB<|ff h) (λ_ _=>rfl) (λ_ _=>rfl) (λ_ _=>rfl)
def L3(k:Nat):TE<|.g k:=λc a=>fS a aP.no λn pos=>aP.of (ab.is ((n==rK k)&&g7 c n) λh z x g=>by cases c_ (dG h);exact Zo (g.g7<|ff h)<|tF<|ff h) (λ_ _=>rfl) (λ_ _=>rfl) (λ_ _=>rfl)
def JJ(o:jM)(l r:E)(p:TE l)(q:TE r):TE<|.dT o l r:=λc a=>ye a aP.no λl' o' r' pos=>aP.of (ba ab.no (decide<|nw o=o') λh=>ab.and (p c l').1 (q c r').1 λp q z x g=>by cases of_decide_eq_true h;exact Wl (p z x g)<|q z x g) (λ_ _=>rfl) (λ_ _=>rfl) (λ_ _=>rfl)
def Og(e:E)(p:TE e):TE<|.neg e:=λc a=>vw a aP.no λo e' pos=>ba aP.no (decide<|o= .USub) λh=>by cases of_decide_eq_true h;exact aP.of (ab.map (p c e').1 λp z x g=>OP<|p z x g) (λ_ _=>rfl) (λ_ _=>rfl) (λ_ _=>rfl)
end
section
noncomputable def sK(b:BoolOp)(r:List Expr)(pos:Pos):Expr:=match r with
 |[a]=>a
 |r=> .BoolOp b r pos
theorem QQ(e:a3 x Ar (aQ (sK a (d::r) pos) x.env) f):a3 x Ar (A_ pos a<|evalEach (d::r) x.env) f:=match r,e with
 |[],e=>e
 |_::_,e=>e
theorem HH(e:dU x Ar (isTrue (sK a (d::r) pos) x.env<|aQ (sK a (d::r) pos) x.env) f):dU x Ar (xy a (d::r) x.env) f:=match r,e with
 |[],e=>al8 e
 |_::_,e=>e
def Jp e(p:TE e):TE<|.nt e:=λc a=>vw a aP.no λo e' pos=>ba aP.no (decide<|o= .Not) λh=>of_decide_eq_true h▸⟨ab.map (p c e').1 λp z x g=>av1<|p z x g,ab.map (p c e').2.1 λp z x g=>af3<|p z x g,λ_=>ab.no⟩
def MX e f(p:TE e)(q:TE f):TE<|.an e f:=λc a=>Ey a aP.no λo l pos=>gC l aP.no λb r=>gC r aP.no λd r=>ba aP.no (decide<|o= .And) λh=>of_decide_eq_true h▸
 ⟨ab.and (p c b).1 (q c<|sK .And (d::r) pos).1 λp q z x g=>aI6 (p z x g)<|QQ<|q z x g,ab.and (p c b).2.1 (q c<|sK .And (d::r) pos).2.1 λp q z x g=>am9 (u:=(ao I z.C f x.ρ).t) (p z x g)<|HH<|q z x g,λ_=>ab.no⟩
def KO e f(p:TE e)(q:TE f):TE<|.or e f:=λc a=>Ey a aP.no λo l pos=>gC l aP.no λb r=>gC r aP.no λd r=>ba aP.no (decide<|o= .Or) λh=>of_decide_eq_true h▸
 ⟨ab.and (p c b).1 (q c<|sK .Or (d::r) pos).1 λp q z x g=>ab4 (p z x g)<|QQ<|q z x g,ab.and (p c b).2.1 (q c<|sK .Or (d::r) pos).2.1 λp q z x g=>aP1 (u:=(ao I z.C f x.ρ).t) (p z x g)<|HH<|q z x g,λ_=>ab.no⟩
def HS o l r(p:TE l)(q:TE r):TE<|.eY o l r:=λc a=>Ef a aP.no λl' os rs pos=>gC os aP.no λo' os=>gN os aP.no (gC rs aP.no λr' rs=>gN rs aP.no (ba aP.no (decide<|iJ o=o') λh=>of_decide_eq_true h▸ba aP.no (!(xw (iJ o) r')) λhm=>
 ⟨ab.and (p c l').1 (q c r').1 λp q z x g=>aQ0 z.rm (hY hm) (p z x g)<|q z x g,ab.and (p c l').1 (q c r').1 λp q z x g=>ag9 z.rm (hY hm) (p z x g)<|q z x g,λ_=>ab.no⟩))
def OI o o2 l m r(p:TE l)(u:TE m)(q:TE r):TE<|.iN o o2 l m r:=λc a=>Ef a aP.no λl' os rs pos=>gC os aP.no λo' os=>gC os aP.no λb os=>gN os aP.no (gC rs aP.no λe rs=>gC rs aP.no λr' rs=>gN rs aP.no (
 ba aP.no (decide<|iJ o=o') λh=>of_decide_eq_true h▸ba aP.no (decide<|iJ o2=b) λh=>of_decide_eq_true h▸ba aP.no (!(xw (iJ o2) r')) λhm=>
 ⟨ab.and (p c l').1 (ab.and (u c e).1 (q c r').1 hH) λp q z x g=>TM z.rm (hY hm) (p z x g) (q.1 z x g)<|q.2 z x g,ab.and (p c l').1 (ab.and (u c e).1 (q c r').1 hH) λp q z x g=>ar9 z.rm (hY hm) (p z x g) (q.1 z x g)<|q.2 z x g,λ_=>ab.no⟩))
def aP.val(v:ab<|SV c e a)(hi: ∀C ρ,(ao I C e ρ).i=λh K=>(ao I C e ρ).v h λv h=>hQ h K v):aP c e a:=⟨v,ab.no,λtg=>ab.and v (Ao tg) λq ht z x g=>by rw[hi];exact C4 ht<|q z x g⟩
def M6 t e f(p:TE t)(q:TE e)(u:TE f):TE<|.ite t e f:=λc a=>DN a aP.no λh e' b pos=>aP.val (ab.and (p c h).2.1 (ab.and (q c e').1 (u c b).1 hH) λp q z x g=>aI9 (p z x g) (q.1 z x g)<|q.2 z x g) λ_ _=>rfl
def Mm e(p:TE e):TE<|.gu e:=λc a=>aP.val (ab.map (p c a).1 λp z x g=>Ub<|p z x g) λ_ _=>rfl
theorem BD{n:Nat}(h:eZ n 1000=aa):a_ n:=ak (d6 h) dd
def KU es(p:TL es):TE<|.tu es:=λc a=>kA a aP.no λas k pos=>aP.of (ba ab.no (eZ as.length 1000) λhn=>ab.map (p c as).1 λp z x g=>aq1 (p.2 z x pos g)<|BD hn) (λ_ _=>rfl) (λ_ _=>rfl) λ_ _=>rfl
def OA fr es(p:TL es):TE<|.li fr es:=λc a=>DP a aP.no λas pos=>aP.of (ba ab.no (eZ as.length 1000) λhn=>ab.map (p c as).1 λp z x g=>YM (p.2 z x pos g) (BD hn) fr) (λ_ _=>rfl) (λ_ _=>rfl) λ_ _=>rfl
def Ca a:ab (∀n env m,xz a n env m=m):=
 fS a (ka a (mi a (pV a ab.no λf as kw p=>gC as ab.no λ_ _=>fS f (ka f ab.no λ_ _ _=>ab.yes λ_ _ _=>rfl) λ_ _=>ab.yes λ_ _ _=>rfl) λ_ _ _=>ab.yes λ_ _ _=>rfl) λ_ _ _=>ab.yes λ_ _ _=>rfl) λ_ _=>ab.yes λ_ _ _=>rfl
def KY a:ab (∀env y,Bl a env y=cG y):=
 fS a (ka a (mi a (pV a (kA a (DP a (ye a (oq a ab.no λ_ _ _=>ab.yes λ_ _=>rfl) λ_ _ _ _=>ab.yes λ_ _=>rfl) λ_ _=>ab.yes λ_ _=>rfl) λ_ _ _=>ab.yes λ_ _=>rfl) λ_ _ _ _=>ab.yes λ_ _=>rfl) λ_ _ _=>ab.yes λ_ _=>rfl) λ_ _ _=>ab.yes λ_ _=>rfl) λ_ _=>ab.yes λ_ _=>rfl
def Pq e f(p:TE e):TE (.at e f):=λc a=>ka a aP.no λe' n pos=>aP.of (ba ab.no (j9 f gz.length) λhf=>ba ab.no (n==cN f) λhn=>ab.and (Ca e') (p c e').1 λhb p z x g=>by
 cases c_ hn;exact aL7 (d6 hf) (hb ..)<|p z x g) (λ_ _=>rfl) (λ_ _=>rfl) λ_ _=>rfl
def Qx e i(p:TE e)(q:TE i):TE<|.ix e i:=λc a=>mi a aP.no λe' b pos=>aP.of (ba ab.no (FH b) λh=>ab.and (p c e').1 (q c b).1 λp q z x g=>Ut h (p z x g)<|q z x g) (λ_ _=>rfl) (λ_ _=>rfl) λ_ _=>rfl
def Nm(e:E):ab<|e= .c .none:=xN e ab.no λv=>Wg v ab.no (ab.yes rfl)
def N_ e(p:TE e) c o:ab (∀z x,c2 z c x->a3 x z.Ar (G4 o x.env) (ao I z.C e x.ρ).v):=
 gO o (ab.map (Nm e) λh z x g=>h▸aL9) λa=>ab.map (p c a).1 λh z x g=>h z x g
def K_ e l u(p:TE e)(q:TE l)(w:TE u):TE<|.sl e l u:=λc a=>mi a aP.no λe' i pos=>NH i aP.no λl' b s _=>gO s (aP.of (ab.and (p c e').1 (ab.and (N_ l q c l') (N_ u w c b) hH) λp q z x g=>aj5 (p z x g) (q.1 z x g)<|q.2 z x g) (λ_ _=>rfl) (λ_ _=>rfl) λ_ _=>rfl) λ_=>aP.no
def IR e(p:TE e):TE<|.iz e:=λc a=>mi a aP.no λe' i pos=>NH i aP.no λl u s _=>gO l (gO u (gO s aP.no λs=>vw s aP.no λo k p2=>oq k aP.no λk n p1=>
 aP.of (ba ab.no (decide<|o= .USub) λho=>ba ab.no (decide<|k= .int 1) λhk=>ab.map (p c e').1 λp z x g=>by
  cases of_decide_eq_true ho;cases of_decide_eq_true hk
  exact X6 (p z x g) λσ K h=>OP O9 σ K<|.rT h) (λ_ _=>rfl) (λ_ _=>rfl) λ_ _=>rfl) λ_=>aP.no) λ_=>aP.no
end
section
def F1{M:Expr->Type} a(no:M a)(b: ∀a,M a)(k: ∀n q as pos,M<|.Call (.Name n q) as [] pos):M a:=pV a no λf as kw pos=>gN kw (b _) (fS f (b _) λn q=>k n q as pos)
def P2 f es(p:TL es):TE<|.call f es:=λc a=>F1 a aP.no (λ_=>aP.no) λn q as pos=>aP.of (ba ab.no (rG f c.G) λhG=>ba ab.no (j9 f sP.length) λhf=>ba ab.no (n==rN f) λhn=>ba ab.no (g7 c n) λhk=>ab.map (p c as).1 λp z x g=>by
 cases c_ hn
 exact S8 g.gc (z.rm.oF<|Nat.le_add_right _ _) (d6 hf) (g.g7 hk) (tF hk) (x.T.hG f<|g.G▸hG) p.1<|p.2 z x pos g) (λ_ _=>rfl) (λ_ _=>rfl) λ_ _=>rfl
def Qu k es(p:TL es):TE<|.new k es:=λc a=>F1 a aP.no (λ_=>aP.no) λn q as pos=>aP.of (ba ab.no (I.kT k).isSome λhi=>ba ab.no (n==tt k) λhn=>ba ab.no (g7 c n) λhk=>ab.map (p c as).1 λp z x g=>by
 cases c_ hn
 exact(u5.mp hi).elim λf hf=>ax4 g.gc (z.rm.oF<|Nat.le_succ _) hf (g.g7 hk) (tF hk) (x.T.hC k hi) p.1<|p.2 z x pos g) (λ_ _=>rfl) (λ_ _=>rfl) λ_ _=>rfl
theorem X0{m:Nat}(h:o= .nil)(hm:bF m xZ=aa)(hl:(a.endLine==pos.line)=aa)(hb: ∀n env m,xz j n env m=m)(v:SV c e j):SI c (.me e m o) (.Call (.Attribute j (kH m) a) [] [] pos)<|.Tuple l t p:=λz x g=>by
 cases jk hm
 exact Ti (hb ..) hl (v z x g)
noncomputable def zC(es:Es):ab<|es= .nil:=match es with
 |.nil=>ab.yes rfl
 |.cons _ _=>ab.no
def Oo e m es(p:TE e)(q:TL es):TE<|.me e m es:=λc a=>pV a aP.no λf as kw pos=>gN kw aP.no (ka f aP.no λe' n apos=>ja n (kH m) aP.no (ba aP.no (apos.endLine==pos.line) λhl=>ba aP.no (j9 as.length 30) λhb=>
 have v:=ab.and (Ca e') (ab.and (p c e').1 (q c as).1 hH) λha p z x g=>al5 g.gc (z.rm.oF<|cm _ _) (ha ..) hl (d6 hb) p.2.1 (p.1 z x g) (p.2.2 z x pos g)
 ⟨v,ab.map v λv z x g=>Gr<|v z x g,λtg=>gN as ab.no<|kA tg ab.no λelts kk b=>ba ab.no (bF m xZ) λhm=>ab.and (zC es) (ab.and (Ca e') (p c e').1 hH) λh p=>X0 h hm hl p.1 p.2⟩))
noncomputable def Hy(b:Bi):Bool:=Bi.casesOn b ae ae ae ae ae ae ae (λ_=>ae) (λ_=>ae) ae ae aa aa λ_=>ae
theorem YA{as:List Expr}{q pos:Pos}(ht:i5 j)(hb:Hy b=ae)(v:SV c (.bi b h) a):SI c (.bi b h) a j:=λz x g=>by
 have:=C4 ht (v z x g)
 cases b with
 |range=>exact j4 hb
 |kz=>exact j4 hb
 |_=>exact this
noncomputable def aw2(p:ab<|SL c a as)(hk:g7 c (jY b).1=aa) tg:ab<|SI c (.bi b a) (.Call (.Name (jY b).1 q) as [] pos) tg:=match b,hk with
 |.range,hk=>ab.and p (Ao tg) λp ht z x g=>i7 ht (g.g7 hk) p.1 (p.2 z x pos g)
 |.kz,hk=>kA tg ab.no λelts kk e=>ab.map p λp z x g=>An (g.g7 hk) p.1 (p.2 z x pos g)
 |_,_=>ab.no
noncomputable def QJ b es(p:TL es):TE<|.bi b es:=λc a=>F1 a aP.no (λ_=>aP.no) λn q as pos=>ja n (jY b).1 aP.no (ba aP.no (g7 c (jY b).1) λhk=>
 have v:=match b,hk with
  |.gh t,hk=>gC as ab.no λe' as=>gC as ab.no λm as=>gN as ab.no (fS m ab.no λm h=>ja m (p7 t).1 ab.no<|ba ab.no (g7 c (p7 t).1) λf=>ba ab.no (fF e') λhs=>ab.map ((p c []).2 e') λp z x g=>p.elim λe p=>p.1▸Us z.rm.hd (g.g7 hk) (g.g7 f) (tF f) hs (p.2 z x g))
  |b,hk=>ba ab.no (Cq b).isEmpty λhb=>ab.map (p c as).1 λp z x g=>Wc z.rm.hd (Sv.mp hb) (g.g7 hk) (tF hk) p.1 (p.2 z x pos g)
 ⟨v,ab.map v λv z x g=>Gr<|v z x g,λtg=>ab.or (aw2 (p c as).1 hk tg)<|ba ab.no (!(Hy b)) λh1=>ab.and v (Ao tg) λv ht=>YA (as:=as) (q:=q) (pos:=pos) ht (hY h1) v⟩)
def Qr:TL .nil:=λc as=>⟨gN as ab.no<|ab.yes ⟨rfl,λ_ _ _ _=>fW.nil⟩,λ_=>ab.no⟩
def KV e r(p:TE e)(q:TL r):TL<|.cons e r:=λc as=>⟨gC as ab.no λa as=>ba ab.no (fF a) λhs=>ab.and (p c a).1 (q c as).1 λp q=>⟨fG.mpr ⟨hs,q.1⟩,λz x pos g=>by rw[pj hs];exact fW.cons (p z x g)<|q.2 z x pos g⟩,
 λa=>ab.and (zC r) (p c a).1 λh p=>⟨e,aA (Es.cons e) h,p⟩⟩
end
@[elab_as_elim] noncomputable def Zq{M:V->Type}(t:V)(no:M t)(k: ∀b,M<|.bool b):M t:=if h:t.ctorIdx=1 then V.bool.elim t h k else no
@[elab_as_elim] noncomputable def Nt{M:Es->Type}(es:Es)(no:M es)(k: ∀a b,M<|.cons a<|.cons b .nil):M es:=match es,no with
 |.cons a (.cons b .nil),_=>k a b
 |_,no=>no
noncomputable def wD(c:Cc)(ns:List<|Str×n_):List<|Str×n_:=ns.map λ(n,k)=>if(k== .free&&c.sc.lookup n==U .cell) then(n,.cell) else(n,k)
noncomputable def wm:List Str->Bool
 |[]=>aa
 |n::r=> !(r.contains n)&&wm r
def qi(c:Cc)(cs:List Nat):List Str:=cs.map λi=>(ah c.ns i).getD ""
def CG(c:Cc)(scope:Scope)(n:Str)(ns:List Str):Bool:=
 (scope.kind== .function)&&scope.names.all (λy=> !(y.2== .cell))&&scope.names.all (λy=> !(y.2== .local)||scope.names.lookup y.1==U .local)&&
 scope.names.all (λy=> !(y.2== .free)||ns.contains y.1)&&ns.all (λm=>scope.names.contains (m,.free)&&(wD c scope.names).lookup m==U .cell&& !(c.sc.lookup m==U .local))&&
 ((wD c scope.names).lookup n==U .local)&&wm (n::ns)
theorem yI: ∀{l:List Str},wm l=aa->l.Nodup
 |[],_=>Sw
 |n::r,h=>lI.mpr ⟨λq=>(fE <|(hY<|dG h).symm.trans<|Bn.mpr q),yI<|ff h⟩
section
variable{z:o_}{c:Cc}{x:Cx}{e:E}{a:Expr}{n:Str}{Ar:cW}{scope:Scope}{ns:List Str}{cs:List Nat}
theorem E1(g:c2 z c x)(scope:Scope):(Bm scope x.env).names=wD c scope.names:=aY8 λy _=>match y with
 |(n,k)=>by
  dsimp only
  rw[g.kindOf,x.st.kind]
  exact aA (λb:Bool=>if b=aa then(n,aZ8) else(n,k)) (aA (· &&_)<|aV2 _)
theorem Lo(g:c2 z c x): ∀(cs:List Nat),cs.all (λi=>(ah c.ns i).isSome)=aa->Oa x (qi c cs) cs
 |[],_=> .nil
 |i::cs,h=> .cons ((u5.mp<|dG h).elim λm hm=>by rw[g.ns];refine(?_:ah c.ns i=U ((ah c.ns i).getD ""));rw[hm];rfl) (Lo g cs<|ff h)
theorem iw{α:Type}{l:List α}{p}(h:l.all p=aa){a}(m:a∈l):p a=aa:=A8.mp h a m
theorem Oz{a b}(h:(!a||b)=aa)(q:a=aa):b=aa:=by rw[q] at h;exact h
theorem J8(g:c2 z c x)(hc:cs.all (λi=>(ah c.ns i).isSome)=aa)(h:CG c scope n (qi c cs)=aa):ma x scope n cs (qi c cs) where
 kind:=c_ (dG<|dG<|dG<|dG<|dG<|dG h)
 cell y hy e:=fE <|(hY<|iw (ff<|dG<|dG<|dG<|dG<|dG h) hy).symm.trans (beq_iff_eq.mpr e)
 names y hy e:=c_ (Oz (iw (ff<|dG<|dG<|dG<|dG h) hy)<|beq_iff_eq.mpr e)
 free m hm:=Bn.mp (Oz (iw (ff<|dG<|dG<|dG h) hm) rfl)
 nP m hm:=
  have q:=iw (ff<|dG<|dG h) hm
  ⟨Bn.mp<|dG<|dG q,(aA (G7 m)<|E1 g scope).trans<|c_<|ff<|dG q,λe=>(fE <|(hY<|ff q).symm.trans<|beq_iff_eq.mpr<|(g.kindOf m).symm.trans e)⟩
 Ee:=(aA (G7 n)<|E1 g scope).trans (c_<|ff<|dG h)
 nd:=yI (ff h)
 iF:=Lo g cs hc
theorem zT(g:c2 z c x){h}(f:mH x scope (n::qi c cs) h):c2 z ⟨wD c scope.names,n::qi c cs,c.G⟩ h:=f.casesOn λ_ _ _ _=>⟨E1 g scope,rfl,g.G,g.gc⟩
noncomputable def TR(e:E)(q:TE e)(c:Cc)(f:List Expr):ab (∀(z:o_) x,c2 z c x->dU x z.Ar (o4 f x.env) (ao I z.C e x.ρ).t):=match f with
 |[]=>xN e ab.no λv=>Zq v ab.no λb=>(match b with
  |aa=>ab.yes λz x g=>SN
  |ae=>ab.no)
 |[t]=>ab.map (q c t).2.1 λh z x g=>ai3 (h z x g)
 |_=>ab.no
abbrev zy(c:Cc)(scope:Scope)(n:Str)(cs:List Nat):Cc:=⟨wD c scope.names,n::qi c cs,c.G⟩
abbrev SC(c:Cc)(scope:Scope)(n:Str)(g:Pos)(cs:List Nat)(h cond b:E)(iter elt':Expr)(f:List Expr):Prop:=
 (cs.all (λi=>(ah c.ns i).isSome)=aa/\CG c scope n (qi c cs)=aa)/\(∀env y,Bl iter env y=cG y)/\SI c h iter (.Name n g)/\(∀(z) x,c2 z (zy c scope n cs) x->dU x z.Ar (o4 f x.env) (ao I z.C cond x.ρ).t)/\SV (zy c scope n cs) b elt'
def Lc(cs:List Nat)(g cond b:E)(p:TE g)(q:TE cond)(u:TE b)(c:Cc)(scope:Scope)(n:Str)(j:Pos)(iter elt':Expr)(f:List Expr):ab<|SC c scope n j cs g cond b iter elt' f:=
 ba ab.no (cs.all λi=>(ah c.ns i).isSome) λh1=>ba ab.no (CG c scope n<|qi c cs) λh2=>ab.and (KY iter) (ab.and ((p c iter).2.2<|.Name n j) (ab.and (TR cond q (zy c scope n cs) f) (u (zy c scope n cs) elt').1 hH) hH) λh3 h=>⟨⟨h1,h2⟩,h3,h⟩
noncomputable def NP(fr:Bool)(cs:List Nat)(i cond b:E)(p:TE i)(q:TE cond)(u:TE b):TE<|.comp fr cs i cond b:=λc a=>C_ a aP.no λelt' gs scope pos=>gC gs aP.no λjx gs=>gN gs aP.no (match jx with
 |⟨tg,iter,ifs,as⟩=>fS tg aP.no λn l=>ja as 0 aP.no<|aP.of (ab.map (Lc cs i cond b p q u c scope n l iter elt' ifs) λh z x g=>WE (ft:=λj=>(ao I z.C cond j).t) (fe:=λj=>(ao I z.C b j).v) z.rm.hd (J8 g h.1.1 h.1.2) (h.2.1 x.env) (h.2.2.1 z x g) (λx' f=>h.2.2.2.1 z x'<|zT g f) λx' f=>h.2.2.2.2 z x'<|zT g f) (λ_ _=>rfl) (λ_ _=>rfl) λ_ _=>rfl)
def IY(fr:Bool)(ks vs:Es)(_:TL ks)(_:TL vs):TE<|.di fr ks vs:=λc a=>No a aP.no λa b pos=>gN a
 (gC a aP.no λf a=>gC a aP.no λk2 a=>gN a aP.no (gC b aP.no λo b=>gC b aP.no λh b=>gN b aP.no (gO f aP.no λf=>gO k2 aP.no λk2=>oq f aP.no λc1 m1 p1=>oq k2 aP.no λs m2 p2=>fS o aP.no λn1 p3=>fS h aP.no λn2 p4=>
  Nt ks aP.no λe1 e2=>Nt vs aP.no λq p=>xN e1 aP.no λw1=>xN e2 aP.no λw2=>NX w1 aP.no λi=>NX w2 aP.no λj=>P9 q aP.no λk=>P9 p aP.no λl=>ja c1 (.int i) aP.no (ja s (.int j) aP.no (ja fr aa aP.no
   (aP.of (ba ab.no (yL c k n1) λh1=>ab.is (yL c l n2) λh2 z x g=>VM (g.dQ h1) (g.dQ h2) (yD<|ff h1) (CB<|ff h1) (yD<|ff h2)<|CB<|ff h2) (λ_ _=>rfl) (λ_ _=>rfl) λ_ _=>rfl))))))
 (gN b aP.no<|aP.of (ab.and (zC ks) (zC vs) λh1 h2 z x g=>by cases h1;cases h2;exact Y0 fr) (λ_ _=>rfl) (λ_ _=>rfl) λ_ _=>rfl)
def gw(e:E):TE e:=
 E.rec NE Jd L3 JJ Og Jp MX KO HS OI M6 KU OA IY Pq Qx K_ IR P2 Qu Oo QJ NP Mm Qr KV e
end
section
theorem c2.at(g:c2 z c x) ρ:c2 z c<|x.at ρ:=⟨g.sc,g.ns,g.G,g.gc⟩
theorem yT(g:c2 z c x)(h:(c.sc.lookup n==U .local)=aa):x.env.kindOf n=U .local:=(g.kindOf n).trans (c_ h)
abbrev SA(c:Cc)(t:Tg)(a:Expr):Prop:= ∀(z) x,c2 z c x->qu x z.Ar a (af I z.C t)
abbrev SAs(c:Cc)(ts:ig)(as:List Expr):Prop:=(∀(z) x,c2 z c x->tV x z.Ar as (lO I z.C ts))/\as.length=oZ ts/\ ∀env,(pL as env).length=as.length/\(pL as env).findIdx? (·.1)=Y
abbrev TT(t:Tg):Type:= ∀c a,ab (SA c t a)
abbrev zF(ts:ig):Type:= ∀c as,ab (SAs c ts as)
def aD1 i:TT<|.x i:=λc a=>fS a ab.no λn p=>ba ab.no (ah c.ns i==U n) λh=>ab.is (!(c.sc.lookup n==U .free)) λh2 z x g=>aB9 ((aA (ah · i) g.ns).trans<|c_ h) λq=>fE <|(hY h2).symm.trans (beq_iff_eq.mpr<|(g.kindOf n).symm.trans q)
def Xz o f:TT (.at o f):=λc a=>ka a ab.no λe n p=>ja n (cN f) ab.no (ba ab.no (j9 f gz.length) λh=>ab.map (gw o c e).1 λv z x g=>aJ8 λρ=>v _ _<|g.at ρ)
def at9 o i:TT<|.ix o i:=λc a=>mi a ab.no λe j p=>ab.and (gw o c e).1 (gw i c j).1 λv u z x g=>aI7 (λρ=>v _ _<|g.at ρ) λρ=>u _ _ (g.at ρ)
def at7 ts(p:zF ts):TT<|.aj ts:=λc a=>kA a ab.no λas k pos=>ab.map (p c as) λq z x g=>ai4 z.rm.hd (((q.2.2 x.env).1).trans q.2.1) (q.2.2 x.env).2 (q.1 z x g)
noncomputable def av4:zF .nil:=λc as=>gN as ab.no (ab.yes ⟨λz x g=>Vq λvs ρ h K k=>match vs,k with
 |[],k=>⟨rfl,k⟩,rfl,λ_=>⟨rfl,rfl⟩⟩)
noncomputable def ZB t r(p:TT t)(q:zF r):zF<|.cons t r:=λc as=>gC as ab.no λa as=>ba ab.no (fF a) λhs=>ab.and (p c a) (q c as) λp q=>⟨λz x g=>aH8 hs (p z x g) (q.1 z x g) λvs ρ h K k=>match vs,k with
 |v::vs,k=>⟨v,vs,rfl,k⟩,aA (· +1) q.2.1,λenv=>by rw[B9 hs];exact⟨aA (· +1) (q.2.2 env).1,by rw[List.findIdx?_cons,(q.2.2 env).2];rfl⟩⟩
def Bp t:TT t:=Tg.rec aD1 Xz at9 at7 av4 ZB t
noncomputable def oM(nm:List<|Str×n_)(a:ScopeKind)(ts vs:List Expr):Option<|Option<|List Str:=
 if !(ts.length==2||ts.length==3)||vs.length !=ts.length||a != .function then U Y else
 if vs.any (λ|.Starred .. =>aa|_=>ae) then U Y else
 let line:=(ts.head?.map (·.pos.line)).getD 0
 let names:=ts.filterMap fun
  |.Name id pos=>if nm.lookup id==U .local&&pos.line==line then U id else Y
  |_=>Y
 if names.length !=ts.length||names.eraseDups.length !=names.length then U Y else
 if vs.all (foldedForSure 8) then U Y else
 if vs.all (constantsAlone 8) then Y else U (U names)
noncomputable def uE:Option (Option<|List Str)->Sem (Option<|List Str)
 |U r=>cG r
 |Y=>Sj "assign.tuple-of-constant-expressions:order-of-the-stores"
theorem Zl:Bj [.Tuple h k2 a] (.Tuple vs k pos) env=uE (oM env.scope.names env.blockKind h vs):=by
 unfold oM
 dsimp only
 rw[apply_ite uE,apply_ite uE,apply_ite uE,apply_ite uE,apply_ite uE]
 rfl
end
@[elab_as_elim] noncomputable def VA{M:E->Type} t(no:M t)(k: ∀a b d e f,M<|.comp a b d e f):M t:=match t,no with
 |.comp a b d e f,_=>k a b d e f
 |_,no=>no
@[elab_as_elim] noncomputable def Nd{M:Tg->Type} t(no:M t)(k: ∀i,M<|.x i):M t:=match t,no with
 |.x i,_=>k i
 |_,no=>no
@[elab_as_elim] noncomputable def gTt{M:Tg->Type} t(no:M t)(k: ∀ts,M<|.aj ts):M t:=match t,no with
 |.aj ts,_=>k ts
 |_,no=>no
section
variable{z:o_}{c:Cc}{x:Cx}{n:Str}{Ar:cW}{C:cZ}
def Me b:ab (∀t n env,Sr b t n env=cG ae):=
 fS b (ka b (mi b (pV b (oq b (ye b (vw b (Ey b (Ef b (DN b (No b (DP b (kA b ab.no λ_ _ _=>ab.yes λ_ _ _=>rfl) λ_ _=>ab.yes λ_ _ _=>rfl) λ_ _ _=>ab.yes λ_ _ _=>rfl) λ_ _ _ _=>ab.yes λ_ _ _=>rfl) λ_ _ _ _=>ab.yes λ_ _ _=>rfl) λ_ _ _=>ab.yes λ_ _ _=>rfl) λ_ _ _=>ab.yes λ_ _ _=>rfl) λ_ _ _ _=>ab.yes λ_ _ _=>rfl) λ_ _ _=>ab.yes λ_ _ _=>rfl)
  λ_ _ _ _=>ab.yes λ_ _ _=>rfl) λ_ _ _=>ab.yes λ_ _ _=>rfl) λ_ _ _=>ab.yes λ_ _ _=>rfl) λ_ _=>ab.yes λ_ _ _=>rfl
theorem ys(x:Cx):x.env.blockKind= .function:=by unfold Env.blockKind;rw[x.st.kind];rfl
theorem c2.swap(g:c2 z c x)(h:(oM c.sc .function a vs==U r)=aa):Bj [.Tuple a k2 p2] (.Tuple vs k p) x.env=cG r:=by
 rw[Zl,g.sc,ys,c_ h];rfl
def ZJ c tg b:ab (∀z x,c2 z c x->Bj [tg] b x.env=cG Y):=
 fS tg (ka tg (mi tg (kA tg ab.no λts k2 p2=>fS b (ka b (mi b (pV b (DN b (kA b ab.no λvs k p=>ab.is (oM c.sc .function ts vs==U Y) λh z x g=>g.swap h) λ_ _ _ _=>ab.yes λ_ _ _=>rfl) λ_ _ _ _=>ab.yes λ_ _ _=>rfl) λ_ _ _=>ab.yes λ_ _ _=>rfl) λ_ _ _=>ab.yes λ_ _ _=>rfl) λ_ _=>ab.yes λ_ _ _=>rfl)
  λ_ _ _=>ab.yes λ_ _ _=>rfl) λ_ _ _=>ab.yes λ_ _ _=>rfl) λ_ _=>ab.yes λ_ _ _=>rfl
noncomputable def Cb c ns is:ab (∀z x,c2 z c x->zS x ns is):=match ns,is with
 |[],[]=>ab.yes λ_ _ _=> .nil
 |n::ns,i::is=>ba ab.no (ah c.ns i==U n) λh1=>ba ab.no (c.sc.lookup n==U .local) λh2=>ab.map (Cb c ns is) λh z x g=> .cons ⟨(aA (ah · i) g.ns).trans<|c_ h1,yT g h2⟩ (h z x g)
 |_,_=>ab.no
noncomputable def Cw:List Nat->Bool
 |[]=>aa
 |n::r=> !(r.contains n)&&Cw r
theorem Ks: ∀{l:List Nat},Cw l=aa->l.Nodup
 |[],_=>Sw
 |n::r,h=>lI.mpr ⟨λq=>(fE <|(hY<|dG h).symm.trans<|Bn.mpr q),Ks<|ff h⟩
abbrev EL(ts:ig)(is:List Nat):Prop:=oZ ts=is.length/\ ∀C vs ρ h K,vs.length=is.length->lO I C ts vs ρ h K=K (jX is vs ρ) h
noncomputable def Qn ts:(is:List Nat)×ab (EL ts is):=match ts with
 |.nil=>⟨[],ab.yes ⟨rfl,λC vs ρ h K hl=>match vs,hl with
  |[],_=>rfl⟩⟩
 |.cons t r=>match Qn r with
  |⟨is,q⟩=>Nd t ⟨[],ab.no⟩ λi=>⟨i::is,ab.map q λq=>⟨aA (· +1) q.1,λC vs ρ h K hl=>match vs,hl with
   |v::vs,hl=>q.2 C vs (cY ρ i v) h K<|pH hl⟩⟩
theorem JS(q:EL j a):af I C (.aj j)=λv ρ h K=>js h (λl=>match bF l.length a.length with|aa=>K (jX a l ρ) h|ae=>False) v:=
 funext λv=>funext λρ=>funext λh=>funext λK=>aA (λP=>js h P v) (funext λl=>by
  rw[q.1]
  cases e:bF l.length a.length with
  |false=>rfl
  |true=>exact q.2 C l ρ h K<|Nat.eq_of_beq_eq_true e)
abbrev SS(c:Cc)(s:S)(a:cj):Prop:= ∀(z) x,c2 z c x->dj x z.Ar (hE a x.env) (ex I z.C s)
def af1 t e c tg b pos:ab<|SS c (.af t e)<|.Assign [tg] b pos:=
 ba ab.no (fF tg) λhs=>ab.and (ab.and (Me b) (ZJ c tg b) hH) (ab.and (gw e c b).1 (Bp t c tg) hH) λh q z x g=>M3 (h.1 ..) (h.2 z x g) hs (λρ=>q.1 _ _<|g.at ρ) (q.2 z x g)
def Ys t e c tg b pos:ab<|SS c (.af t e)<|.Assign [tg] b pos:=
 ka tg ab.no λo m p=>C_ b ab.no λel gs sc p2=>ab.and (gw e c<|.ListComp el gs sc p2).1 (Bp t c<|.Attribute o m p) λq r z x g=>M3 rfl rfl rfl (λρ=>q _ _<|g.at ρ) (r z x g)
noncomputable def Xk t e c tg b pos:ab<|SS c (.af t e)<|.Assign [tg] b pos:=
 gTt t ab.no λts=>kA tg ab.no λl k p=>kA b ab.no λvs k2 p2=>match Qn ts,oM c.sc .function l vs with
  |⟨is,q⟩,U (U names)=>ba ab.no (oM c.sc .function l vs==U (U names)) λh=>ba ab.no (Cw is) λhd=>ab.and (ab.and q (Cb c names is) hH) (gw e c<|.Tuple vs k2 p2).1 λq v z x g=>by
   have:=ZD z.rm.hd (pos:=pos) rfl (g.swap (k2:=k) (p2:=p) h) (q.2 z x g) (Ks hd) λρ=>v _ _ (g.at ρ)
   refine(?_:dj x z.Ar _ λρ h Q=>(ao I z.C e ρ).v h λv h=>af I z.C (.aj ts) v ρ h λρ h=>Q .next ρ h)
   rw[JS q.1]
   exact this
  |_,_=>ab.no
noncomputable def ZH t e c tg b pos:ab<|SS c (.af t e)<|.Assign [tg] b pos:=
 Nd t ab.no λi=>fS tg ab.no λm pt=>VA e ab.no λfr cs l cond a=>C_ b ab.no λelt' gs scope p=>gC gs ab.no λjx gs=>gN gs ab.no (match jx with
  |⟨tg2,iter,ifs,as⟩=>fS tg2 ab.no λn o=>ja as 0 ab.no (ba ab.no (ah c.ns i==U m) λhi=>ba ab.no (c.sc.lookup m==U .local) λhl=>ba ab.no ((pt.line==p.line)&& !(scope.names.any λ(n,k)=>n==m&&(k== .local||k== .cell))) λhs=>
   ab.map (Lc cs l cond a (gw l) (gw cond) (gw a) c scope n o iter elt' ifs) λh z x g=>ac7 (ft:=λj=>(ao I z.C cond j).t) (fe:=λj=>(ao I z.C a j).v) z.rm.hd (λρ=>J8 (g.at ρ) h.1.1 h.1.2)
    (aA cG<|by rw[ys,yT g hl];exact(by rw[Bool.and_assoc];exact hs:((aa&&aa)&&(pt.line==p.line)&& !(scope.names.any λ(n,k)=>n==m&&(k== .local||k== .cell)))=aa)) ((aA (ah · i) g.ns).trans<|c_ hi) (yT g hl) (h.2.1 x.env) (λρ=>h.2.2.1 _ _<|g.at ρ) (λρ x' f=>h.2.2.2.1 z x'<|zT (g.at ρ) f) λρ x' f=>h.2.2.2.2 z x'<|zT (g.at ρ) f))
def T3 t e c a:ab<|SS c (.af t e) a:=Ei a ab.no λf b pos=>gC f ab.no λtg f=>gN f ab.no (ab.or (af1 t e c tg b pos)<|ab.or (Ys t e c tg b pos)<|ab.or (Xk t e c tg b pos)<|ZH t e c tg b pos)
end
section
theorem gX.swap(F:gX R k h o)(hf:bc h f=U v)(r: ∀w,ax R v w->ax R u w):gX R k (iB h f u) o:=F.of λm g n h1 h2 h3=>
 have at_: ∀{i y},bc (iB h f u) i=U y-> ∃a,bc h i=U a/\ ∀w,ax R a w->ax R y w:=λ{i y} e=>if q:f=i then by subst q;exact bL ((xY ..).symm.trans e)▸⟨v,hf,r⟩ else⟨y,(vQ _ _ q).symm.trans e,λ_=>id⟩
 .mk (m:=m) g (by rw[KM,hf];exact n) (λy w e=>(h1 y w e).imp λi q=>q.elim λa q=>if t:f=i then⟨u,t▸xY ..,q.2⟩ else⟨a,(vQ _ _ t).trans q.1,q.2⟩)
  (λi y e=>(at_ e).elim λa q=>h2 i a q.1) λi y e=>(at_ e).elim λa q=>q.2 _ (h3 i a q.1)
theorem Vz{σ:St x}{K}{G:Prop}(h:CI σ.A f K v)(k: ∀τ:St x,τ.s=σ.s->σ.le τ->K τ.A->G):G:=
 h.casesOn λha hf h=>zm h λτ u e l r q=>(τ.bh.ob _ _ q.1).2.of λd o e1 ed e2 F=>
  k (τ.cr τ.s.toks q.1 (sX.refl _ _)<|.aK e1 ed e2<|F.swap hf λw p=>p.of r) e l q.2
theorem Fr.yM(f:Fr x R)(hi:ah x.ρ i=U (U v))(hv: ∀u,ax R v u->ax R w u):Fr (x.at<|cY x.ρ i w) R:=
 have key: ∀{j g} {P:V->Prop},ah (cY x.ρ i w) j=U (U g)->(∀l,ah x.ρ j=U (U l)->P l)->(P v->P w)->P g:=λ{j g P} e h q=>if t:i=j then by subst t;cases(Aj w<|yo hi).symm.trans e;exact q (h v hi) else h g ((w8 _ t).symm.trans e)
 ⟨(Bz ..).trans f.len,f.dQ.casesOn λo m k e n h=>⟨o,m,k,e,n,λj n g a b e=>key (P:=λv=> ∃w,m n=U w/\ax R v w) e (λl h1=>h j n l a b h1) λq=>q.imp λ_ q=>⟨q.1,hv _ q.2⟩⟩,
  λj n a=>(f.var j n a).casesOn (λq=> .dQ q) λc o cv h1 h2 h3 h4 p=> .cell c o cv h1 h2 h3 h4 λg e=>key (P:=λv=> ∃w,cv=U w/\ax R v w) e (λl h=>p l h) λq=>q.imp λ_ q=>⟨q.1,hv _ q.2⟩⟩
def St.yM(σ:St x)(hi:ah x.ρ i=U (U v))(hv: ∀u,ax σ.R v u->ax σ.R w u):St<|x.at<|cY x.ρ i w:=⟨σ.R,σ.A,σ.s,σ.bh,σ.bY,σ.gens,σ.os,σ.fr.yM hi hv⟩
noncomputable abbrev SG(s:S):Prop:= ∀(z:o_) x m g,dj x z.Ar m g->dj x z.Ar m λρ h Q=>ex I z.C s ρ h λfl ρ h=>match fl with|.next=>g ρ h Q|fl=>Q fl ρ h
theorem UM i f:SG<|.wP i f:=λz x m g e ρ σ Q h=>rp h λv _ h=>Vz (σ:=σ) h λτ es l k=>es▸bz (e ρ τ Q k) (λ_ _ p=>PS.aG (σ:=σ) (St.kJ l) p) λ_ _=>id
theorem aM7 i:SG<|.yH i:=λz x m g e ρ σ Q h=>rp h λv hv h=>Dg.casesOn (motive:=λv _=>ah ρ i=U (U v)->aw (M x) z.Ar m (PS σ Q) N0 σ.s) h
 (λh hv=>zm h λτ v es l r k=>es▸bz (e (cY ρ i v) (St.yM (x:=x.at ρ) τ hv λu p=>p.of r) Q k) (λ_ _ p=>PS.aG (σ:=σ) (ρ:=cY ρ i v) (τ:=St.yM (x:=x.at ρ) τ hv λu p=>p.of r) (λa b o z _=>l a b o z) p) λ_ _=>id) hv
abbrev TS(s:S):Type:=(∀c a,ab<|SS c s a)×ab (SG s)
abbrev NG(c:Cc)(ss:Ss)(as:List cj):Prop:= ∀(z:o_) x,c2 z c x->dj x z.Ar (kQ as x.env) (aZ I z.C ss)
abbrev ni(ss:Ss):Type:= ∀c as,ab (NG c ss as)
def Xl e:TS<|.expr e:=⟨λc a=>aj2 a ab.no λb pos=>ab.and (Me b) (gw e c b).1 λh v z x g=>U4 (by unfold interactive;rw[x.st.kind];rfl) (h ..) λρ=>v _ _<|g.at ρ,ab.no⟩
def qJ t e:TS<|.af t e:=⟨T3 t e,ab.no⟩
def Z4 i o e:TS<|.Al i o e:=⟨λc a=>BU a ab.no λn f b pos=>fS n ab.no λn p=>ba ab.no (decide<|nw o=f) λh=>of_decide_eq_true h▸ba ab.no (ah c.ns i==U n) λh1=>ba ab.no (c.sc.lookup n==U .local) λh2=>
 ab.map (gw e c b).1 λv z x g=>UV ((aA (ah · i) g.ns).trans<|c_ h1) (yT g h2) λρ=>v _ _<|g.at ρ,ab.no⟩
def Vb b f o e:TS<|.z5 b f o e:=⟨λc a=>BU a ab.no λn i d pos=>ka n ab.no λb' n p=>ba ab.no (decide<|nw o=i) λh=>of_decide_eq_true h▸ja n (cN f) ab.no (ba ab.no (j9 f gz.length) λhf=>
 ab.and (gw b c b').1 (gw e c d).1 λv u z x g=>ZG (d6 hf) (λρ=>v _ _<|g.at ρ) λρ=>u _ _<|g.at ρ),ab.no⟩
def aO8 j:ab (∀ov iv new,augStore j ov iv new=(do iT [new,ov,iv] (xB ov iv new);xu [new,ov,iv] [];cG .next)):=
 fS j (oq j (ye j (ka j (mi j (vw j ab.no λ_ _ _=>ab.yes λ_ _ _=>rfl) λ_ _ _=>ab.yes λ_ _ _=>rfl) λ_ _ _=>ab.yes λ_ _ _=>rfl) λ_ _ _ _=>ab.yes λ_ _ _=>rfl) λ_ _ _=>ab.yes λ_ _ _=>rfl) λ_ _=>ab.yes λ_ _ _=>rfl
def aj3 b i o e:TS<|.zU b i o e:=⟨λc a=>BU a ab.no λn f d pos=>mi n ab.no λb' j p=>ba ab.no (decide<|nw o=f) λh=>of_decide_eq_true h▸
 ab.and (aO8 j) (ab.and (gw b c b').1 (ab.and (gw i c j).1 (gw e c d).1 hH) hH) λhj v z x g=>ZZ hj (λρ=>v.1 _ _<|g.at ρ) (λρ=>v.2.1 _ _<|g.at ρ) λρ=>v.2.2 _ _<|g.at ρ,ab.no⟩
def LH t b d(p:ni b)(q:ni d):TS<|.ite t b d:=⟨λc a=>NQ a ab.no λe b' f pos=>ab.and (gw t c e).2.1 (ab.and (p c b') (q c f) hH) λv u z x g=>Ww (λρ=>v _ _<|g.at ρ) (u.1 z x g)<|u.2 z x g,ab.no⟩
def Xn t b(p:ni b):TS<|.while t b:=⟨λc a=>ao3 a ab.no λe b' r pos=>gN r ab.no<|ab.and (gw t c e).2.1 (p c b') λv u z x g=>aF2 (ft:=λρ=>(ao I z.C t ρ).t) (λρ=>v _ _<|g.at ρ)<|u z x g,ab.no⟩
def ak4 t it b(p:ni b):TS<|.for t it b:=⟨λc a=>au1 a ab.no λtg iter b' r pos=>gN r ab.no<|ab.and (ab.and (KY iter) ((gw it c iter).2.2 tg) hH) (ab.and (Bp t c tg) (p c b') hH) λh u z x g=>as1 z.rm.hd (h.1 x.env) (λρ=>h.2 _ _<|g.at ρ) (u.1 z x g)<|u.2 z x g,ab.no⟩
def ax3 e:TS<|.ret e:=⟨λc a=>xI a ab.no λo pos=>gO o (ab.map (Nm e) λh z x g=>h▸UZ) λb=>ab.map (gw e c b).1 λv z x g=>at8 λρ=>v _ _<|g.at ρ,ab.no⟩
def ak8:TS .bu:=⟨λc a=>ab.yes λz x g=>Zh λ_ _ _ q=>q,ab.no⟩
def Vm:TS .cont:=⟨λc a=>aq3 a ab.no λ_=>ab.yes λz x g=>Y7,ab.no⟩
def ax5:TS .M9:=⟨λc a=>aq5 a ab.no λ_=>ab.yes λz x g=>ay8,ab.no⟩
def aC7 b(p:ni b):TS<|.tr b:=⟨λc a=>Ow a ab.no λb' hs r f pos=>gN r ab.no<|gN f ab.no<|gC hs ab.no λ_ _=>ab.map (p c b') λv z x g=>aC5<|v z x g,ab.no⟩
def W7 i f:TS<|.wP i f:=⟨λ_ _=>ab.no,ab.yes<|UM i f⟩
def Z0 i:TS<|.yH i:=⟨λ_ _=>ab.no,ab.yes<|aM7 i⟩
def W9:ni .nil:=λc as=>gN as ab.no (ab.yes λz x g=>Zw)
def au0 s r(p:TS s)(q:ni r):ni<|.cons s r:=λc as=>ab.or (ab.and p.2 (q c as) λp q z x g=>p z x _ _<|q z x g) (gC as ab.no λa as=>ab.and (p.1 c a) (q c as) λp q z x g=>Qf (p z x g)<|q z x g)
def zI ss:ni ss:=Ss.rec (motive_1:=TS) (motive_2:=ni) Xl qJ Z4 Vb aj3 LH Xn ak4 ax3 ak8 Vm ax5 aC7 W7 Z0 W9 au0 ss
end
section
noncomputable def Eb(K:n9) a(k: ∀o,K.lookup a=U o->ab P):ab P:=match h:K.lookup a with
 |U o=>k o h
 |Y=>ab.no
theorem zK(e:B.get? a=U o):(Rm.of B).is a o:=aA (uO<|Rl.kp .fr) e
noncomputable def C1 v w:ab (∀R,ax R v w):=match v with
 |.none=>(match w with
  |.none=>ab.yes λ_=> .none
  |_=>ab.no)
 |.bool b=>(match w with
  |.bool d=>ab.is (b==d) λh _=>c_ h▸ .bool _
  |_=>ab.no)
 |.int b=>(match w with
  |.int d t=>ab.is (b==d) λh _=>c_ h▸ .int ..
  |_=>ab.no)
 |.str b=>(match w with
  |.str d t=>ab.is (b==d) λh _=>c_ h▸ .str ..
  |_=>ab.no)
 |_=>ab.no
noncomputable def K6 vs ws:ab (∀R,aV R vs ws):=match vs,ws with
 |[],[]=>ab.yes λ_=> .nil
 |v::vs,w::ws=>ab.and (C1 v w) (K6 vs ws) λp q R=> .cons (p R) (q R)
 |_,_=>ab.no
noncomputable def aN7(K:n9) l w:ab (∀B,K.In B->ax (Rm.of B) (.aj l) w):=match w with
 |.ref a=>Eb K a λo h=>(match o,h with
  |⟨.type T,Y,.seq ws n,sl⟩,h=>ba ab.no (T=="tuple") λh1=>ba ab.no sl.isEmpty λh2=>ab.map (K6 l ws.toList) λr B hB=> .aj (n:=n) (zK<|by rw[hB _ _ h,c_ h1,Array.isEmpty_iff.mp h2]) (r _)
  |_,_=>ab.no)
 |_=>ab.no
noncomputable def BJ(K:n9) v w:ab (∀B,K.In B->ax (Rm.of B) v w):=match v with
 |.aj l=>aN7 K l w
 |v=>ab.map (C1 v w) λr B _=>r _
noncomputable def Qj(K:n9) vs ws:ab (∀B,K.In B->aV (Rm.of B) vs ws):=match vs,ws with
 |[],[]=>ab.yes λ_ _=> .nil
 |v::vs,w::ws=>ab.and (BJ K v w) (Qj K vs ws) λp q B h=> .cons (p B h) (q B h)
 |_,_=>ab.no
noncomputable def Pn(K:n9) cd q:ab (∀B,K.In B->a42 B cd q):=match cd with
 |.ref a=>Eb K a λo h=>(match o,h with
  |⟨cl,d,.fields vs,sl⟩,h=>(match e:(vs[1]? :Option av) with
   |U (.str s t)=>ab.is (s==q) λhs B hB=>⟨a,_,vs,t,rfl,hB _ _ h,rfl,e.trans<|by rw[c_ hs]⟩
   |_=>ab.no)
  |_,_=>ab.no)
 |_=>ab.no
abbrev Pa(K:n9)(d:av)(l:List V)(dv:List av):Prop:= ∀B:cu,K.In B->aV (Rm.of B) l dv/\((d= .none/\dv=[])\/ ∃t od n,d= .ref t/\B.get? t=U od/\od.data= .seq dv.toArray n)
noncomputable def Ok K d l:(dv:List av)×ab (Pa K d l dv):=match d with
 |.none=>⟨[],gN l ab.no<|ab.yes λ_ _=>⟨.nil,.inl ⟨rfl,rfl⟩⟩⟩
 |.ref a=>(match h:K.lookup a with
  |U ⟨cl,dd,.seq ws n,sl⟩=>⟨ws.toList,ab.map (Qj K l ws.toList) λr B hB=>⟨r B hB,.inr ⟨a,_,n,rfl,hB _ _ h,aA (Hf · n) a30.symm⟩⟩⟩
  |_=>⟨[],ab.no⟩)
 |_=>⟨[],ab.no⟩
noncomputable def PE p ns:ab<|vr p ns:=match p with
 |⟨po,as,va,ko,kd,kw,df⟩=>gN po ab.no (gO va (gN ko ab.no<|gO kw (ab.is (decide<|lC as=ns) λh=>⟨as,kd,df,rfl,of_decide_eq_true h⟩) λ_=>ab.no) λ_=>ab.no)
abbrev y_(T:qQ)(f:Nat)(fn:Fn)(G:List Nat)(a:Cc->List cj->Prop):=(ck:Ck T f fn)×'a ⟨ck.fd.scope.names,ck.ns,G⟩ ck.mY
def pq{j:Cc->List cj->Prop}(u: ∀c l,ab<|j c l) K G f fn(ns:List Str):ab (∀T,T.p.K=K->T.G=G->Nonempty (y_ T f fn G j)):=Eb K (bQ f) λo h=>match o,h with
 |⟨cl,dd,.func fd,sl⟩,h=>(match hb:fd.body with
  |.stmts mY=>ba ab.no (fd.globals==uN) λh1=>ba ab.no (fd.builtins==A2) λh2=>ba ab.no fd.closure.isEmpty λh3=>ba ab.no (!fd.scope.isCoroutine) λh4=>ba ab.no (!fd.scope.isGenerator) λs=>ba ab.no (fd.scope.kind== .function) λt=>
   ba ab.no (wm ns) λi=>ba ab.no (bF ns.length fn.nl) λg=>ba ab.no (eZ fn.np fn.nl) λe=>ba ab.no (eZ fn.gU.length fn.np) λa=>ba ab.no (ns.all λn=>fd.scope.names.lookup n==U .local||fd.scope.names.lookup n==U .cell) λb=>
   (match Ok K fd.defaults fn.gU with
   |⟨dv,hd⟩=>ab.and (ab.and (Pn K fd.code fd.qualname) (PE fd.params<|ns.take fn.np) hH) (ab.and hd (u ⟨fd.scope.names,ns,G⟩ mY) hH) λp q T w hG=>
    have jc:=w▸T.p.jc
    ⟨⟨⟨fd,_,jc _ _ h,rfl,c_ h1,c_ h2,Sv.mp h3,mY,hb,hY h4,hY s,c_ t,p.1 _ jc,ns,yI i,jk g,d6 e,p.2,dv,(q.1 _ jc).1,d6 a,(q.1 _ jc).2,λn hn=>(xm.mp<|iw b hn).imp c_ c_⟩,
     q.2⟩⟩)
  |_=>ab.no)
 |_,_=>ab.no
def QP K G f fn(ns:List Str):ab (∀T,T.p.K=K->T.G=G->Nonempty (Ec T f fn)):=
 ab.map (pq (λc l=>zI fn.body c l) K G f fn ns) λr T e hG=>(r T e hG).elim λz=>⟨⟨z.1,λC k x Ar gc a xs b rm=>z.2 ⟨C,k,Ar,rm⟩ x ⟨aA Scope.names xs,b,a▸hG,a▸gc⟩⟩⟩
end
end c6
namespace c6
set_option maxHeartbeats 0
open PySem PySem.W PySem.Calls PyProof.Rows PySem.SeqAt
def KP(P:cP):n9:=[125,124,132,131,139,138,146,145,153,152,181,180,195,194,239,238,246,245,260,259,267,266,274,273,281,280,298,291,289,290,297,305,304,312,311,319,318,326,325,340,339,382,381,389,388,394,393,399,398,404,403,411,410,418,417,425,424,432,431,440,433,439,447,446,454,453,461,460,492,491,506,505,526,521,525,547,546,568,567,580,579,585,584,590,589,597,596,604,603,631,630,652,651,666,665,673,672,680,679,694,693,701,700,709,702,708,746,745,753,752,760,759,767,766,772,771,779,778,793,792,800,799,807,806,814,813,828,827,842,841,849,848,856,855,863,862,870,869,877,876,884,883,912,911,917,916,929,928,936,935,951,944,950,960,953,952,959,967,966,992,991,999,998,1006,1005,1013,1012,1034,1033,1055,1054,1076,1075,1090,1089,1095,1094,1102,1101,1109,1108,1116,1115,1130,1129,1137,1136,1144,1143,1149,1148,1156,1155,1161,1160,1168,1167,1176,1175,1188,1187,1202,1201,1209,1208,1216,1215,1223,1222,1231,1224,1230,1239,1238,1246,1245,1253,1252,1260,1259,1265,1264,1272,1271,1279,1278,1284,1283,1291,1290,1296,1295,253,252,160,159,645,644,638,637,659,658,687,686,609,608,616,615,922,921,1123,1122,219,218,371,370,509,508,529,528,550,549,571,570,817,816,901,900,970,969,1016,1015,1058,1057,1079,1078,1191,1190,232,738,1169,1232].map λa=>(a,Hd.lo P a)
noncomputable def GL:List Nat:=[0,1,2,3,4,7,8,9,10,11,12,19,20,21,22,23,24,25,26,27,28,29,30,31,32,37,38,39,40,41,42,43,44,45,46,47,48,49,50,51,52,53,54,55,60,68,69,70,71,82,83,84,85,86,87,88,89,90,91,92,93,94,96,97,98,99,100,101,102,103,104,105,106,107,108,109,110,111,112,113,114,115,116,117,118,119,120]
def ot(P:cP):BT:=Hd.tr P (Hd.gl P Hd.i6 225) (Hd.zt 327) (Hd.Az 6)
theorem aG3 P:(KP P).map (λp=>(ot P).get p.1)=(KP P).map (λp=>U p.2):=by kernel_rfl
theorem ao6 P:(KP P).map (λp=>alive p.2)=(KP P).map (λp=>U p.2):=by kernel_rfl
theorem kLt P:(KP P).all (λp=>j9 p.1 1297)=aa:=by kernel_rfl
theorem kR{α β:Type}{f g:α->β}{l:List α}(h:l.map f=l.map g): ∀a∈l,f a=g a:=List.map_inj_left.mp h
theorem OJ{α:Type}{l:List<|Nat×α}{a}(h:l.lookup n=U a):(n,a)∈l:=by
 induction l with
 |nil=>cases h
 |cons p r ih=>
  rw[pJ] at h
  cases e:n==p.1 with
  |true=>rw[e] at h;cases h;cases c_ e;exact .head _
  |false=>rw[e] at h;exact .tail _ (ih h)
theorem CO P:(KP P).In<|Hd.H1 P:=λa o e=>by
 have m:=OJ e
 have h1:=kR (aG3 P) _ m
 have h2:=kR (ao6 P) _ m
 exact(abs_get (d6<|A8.mp (kLt P) _ m) h1).trans h2
noncomputable def nk(f:Nat):List Str:=match bc ac9 f with
 |U l=>l
 |.none=>(match(Hd.lo Hd.p0<|bQ f -4).data with
  |.seq vs _=>vs.toList.map λv=>match v with
   |.str n _=>n
   |_=>""
  |_=>[])
theorem nF{l}{a:α}(h:bc l n=U a):(n,a)∈l:=by
 induction l with
 |nil=>cases h
 |cons p r ih=>
  rw[show p=(p.1,p.2) from rfl,o7] at h
  exact if e:p.1=n then by rw[aM e] at h;cases h;cases e;exact .head _ else by rw[aE e] at h;exact .tail _ (ih h)
theorem zG: ∀n c,c <n->c∈u3 n:=λn c h=>List.mem_range.mpr h
section
variable(P:cP)
theorem az3:(u3 13).map (λc=>(h8 (KP P) (.ref<|dL c) "__getattribute__",h8 (KP P) (.ref<|dL c) "__getattr__",hasDictIn (KP P)<|dL c,plainOver (KP P)<|dL c,h8 (KP P) (.ref<|dL c) "__setattr__"))=
  (u3 13).map (λ_=>(U<|U<|.builtin "object.__getattribute__",U Y,aa,aa,U<|U<|.builtin "object.__setattr__")):=by kernel_rfl
noncomputable def aL6:Nat×List Nat->Bool:=λp=>j9 p.1 13&&p.2.all λf=>j9 f 62
theorem XV:tO.all aL6=aa:=by kernel_rfl
noncomputable def J5(K:n9):Nat×List Nat->Bool:=λp=>p.2.all λf=>match h8 K (.ref<|dL p.1) (cN f) with
 |U attr=>noGet K attr&&(match GU K (dL p.1) (cN f) with|U Y=>aa|_=>ae)
 |Y=>ae
theorem KC:tO.all (J5<|KP P)=aa:=by kernel_rfl
noncomputable def rF:List (Nat×List (Nat×Nat))->List (Nat×Nat×Nat)
 |[]=>[]
 |(c,l)::r=>(l.map λp=>(c,p.1,p.2))++rF r
theorem UO:(rF qw).map (λp=>(j9 p.1 13,h8 (KP P) (.ref<|dL p.1)<|kH p.2.1,A1 (KP P)<|.ref<|bQ p.2.2))=
  (rF qw).map (λp=>(aa,U<|U<|.ref<|bQ p.2.2,U<|.type "function")):=by kernel_rfl
theorem Mc:w7.map (λp=>(j9 p.1 13,h8 (KP P) (.ref<|dL p.1) "__init__",A1 (KP P)<|.ref<|bQ p.2,makesIn (KP P)<|dL p.1,q4 (KP P)<|.ref<|dL p.1))=
  w7.map (λp=>(aa,U<|U<|.ref<|bQ p.2,U<|.type "function",aa,aa)):=by kernel_rfl
theorem af9:((u3 62).all λf=> !(cN f==("":Str))&&(u3 32).all λm=> !(cN f==kH m)||bF f (I.mf m))=aa:=by kernel_rfl
theorem XN:wm gz=aa:=by kernel_rfl
theorem Xi:(u3 121).all (λf=>q4 (KP P)<|.ref<|bQ f)=aa:=by kernel_rfl
theorem DE:gz.length=62:=by kernel_rfl
theorem wL:kU.length=13:=by kernel_rfl
theorem an5:Li.length=32:=by kernel_rfl
theorem an8:sP.length=121:=by kernel_rfl
end
theorem Q0: ∀{l:List<|Nat×List (Nat×Nat)} {c m f:Nat} {r:List<|Nat×Nat},(c,r)∈l->(m,f)∈r->(c,m,f)∈rF l
 |(c',r')::l,c,m,f,r,h,h2=>(bC.mp h).elim (λh=>by cases h;exact List.mem_append_left _<|List.mem_map.mpr ⟨(m,f),h2,rfl⟩) λh=>GQ _ (Q0 h h2)
theorem IM(h:I.nq c m=U f):(c,m,f)∈rF qw:=by
 refine(?_:(match bc qw c with|U l=>bc l m|Y=>Y)=U f->_) h
 cases e:bc qw c with
 |none=>exact λh=>bR h
 |some l=>exact λh=>Q0 (nF e) (nF h)
theorem Cv(h:I.nG c f=aa): ∃l,(c,l)∈tO/\f∈l:=by
 refine(?_:(match bc tO c with|U l=>l.contains f|Y=>ae)=aa->_) h
 cases e:bc tO c with
 |none=>exact λh=>fE h
 |some l=>exact λh=>⟨l,nF e,Bn.mp h⟩
theorem MN(h:i <l.length):ah l i=U (nm l i):=by
 unfold nm
 rw[lP,Hg h]
theorem XA(h: ¬i <l.length):nm l i="":=by
 unfold nm
 rw[lP,List.getElem?_eq_none<|Nat.le_of_not_lt h]
theorem tZ(h:j9 i n=aa)(e:m=n):i <m:=e▸d6 h
section
variable(P:cP)
noncomputable def O6 K c f v:ab (∀B,K.In B->c <kU.length/\f <gz.length/\ ∃a,h8 K (.ref<|dL c) (cN f)=U (U a)/\Rq K a "__get__"=U Y/\ax (Rm.of B) v a/\Rr.contains (cN f)=ae):=
 ba ab.no (j9 c 13) λh1=>ba ab.no (j9 f 62) λh2=>ba ab.no (!(Rr.contains<|cN f)) λh3=>match e:h8 K (.ref<|dL c) (cN f) with
  |U (U a)=>(match e2:Rq K a "__get__" with
   |U Y=>ab.map (C1 v a) λr B _=>⟨tZ h1 wL,tZ h2 DE,a,rfl,e2,r _,hY h3⟩
   |_=>ab.no)
  |_=>ab.no
theorem aM4:xd.all (λp=>p.2.all λq=>(O6 (KP P) p.1 q.1 q.2).1)=aa:=by kernel_rfl
theorem aI5(h:I.vH c f=U v): ∃l,(c,l)∈xd/\(f,v)∈l:=by
 refine(?_:(match bc xd c with|U l=>bc l f|Y=>Y)=U v->_) h
 cases e:bc xd c with
 |none=>exact λh=>bR h
 |some l=>exact λh=>⟨l,nF e,nF h⟩
theorem Pz{K}(h:J5 K p=aa)(m:f∈p.2): ∃attr,h8 K (.ref<|dL p.1) (cN f)=U attr/\noGet K attr=aa/\GU K (dL p.1) (cN f)=U Y:=by
 have h:=iw h m
 cases e:h8 K (.ref<|dL p.1) (cN f) with
 |none=>rw[e] at h;cases h
 |some attr=>
  rw[e] at h
  refine⟨attr,rfl,dG h,?_⟩
  have h:=ff h
  cases e2:GU K (dL p.1) (cN f) with
  |none=>rw[e2] at h;cases h
  |some o=>cases o with
   |none=>rfl
   |some o=>rw[e2] at h;cases h
def pkH:Pk<|Hd.H1 P:=
 have g:=λc (h)=>kR (az3 P) c (zG _ _<|wL▸h)
 have oD:=λc m f (h)=>kR (UO P) _ (IM h)
 have sy:=λc f (h)=>kR (Mc P) _ (nF h)
 {K:=KP P
  jc:=CO P
  ga:=λc h=>(c8<|g c h).1
  gt:=λc h=>(c8 (c8<|g c h).2).1
  hd:=λc h=>(c8 (c8 (c8<|g c h).2).2).1
  po:=λc h=>(c8 (c8 (c8 (c8<|g c h).2).2).2).1
  set:=λc h=>(c8 (c8 (c8 (c8<|g c h).2).2).2).2
  Ga:=λc f h=>(Cv h).elim λl q=>have y:=iw XV q.1;⟨tZ (dG y) wL,tZ (iw (ff y) q.2) DE⟩
  OD:=λc f h=>(Cv h).elim λl q=>(Pz (iw (KC P) q.1) q.2).imp λa y=>⟨y.1,y.2.1⟩
  tk:=λc f h=>(Cv h).elim λl q=>(Pz (iw (KC P) q.1) q.2).elim λa y=>y.2.2
  Ml:=λc f v h=>(aI5 h).elim λl q=>(O6 (KP P) c f v).2 (iw (iw (aM4 P) q.1) q.2) _ (CO P)
  oD:=λc m f h=>⟨tZ (c8<|oD c m f h).1 wL,(c8 (c8<|oD c m f h).2).1,(c8 (c8<|oD c m f h).2).2⟩
  sy:=λc f h=>⟨tZ (c8<|sy c f h).1 wL,(c8 (c8<|sy c f h).2).1,(c8 (c8 (c8<|sy c f h).2).2).1,(c8 (c8 (c8 (c8<|sy c f h).2).2).2).1⟩
  Qc:=λm f hf e=>
   have y:=iw af9 (zG _ _<|DE▸hf)
   if hm:m <32 then(xm.mp<|iw (ff y)<|zG _ _ hm).elim (λq=>fE <|(hY q).symm.trans<|beq_iff_eq.mpr e) jk
   else fE <|(hY<|dG y).symm.trans (beq_iff_eq.mpr<|e.trans<|XA<|by rw[an5];exact hm)
  names:=λf g hf b e=>B5 (yI XN) (MN hf)<|(MN b).trans<|aA U e.symm}
noncomputable def ou:Array jj:=match(Hd.gl P Hd.i6 225).data with
 |.dict es _=>es
 |_=> #[]
noncomputable def wr:Array jj:=match(AM P).data with
 |.dict es _=>es
 |_=> #[]
noncomputable def wM:Array jj:=match(AN P).data with
 |.dict es _=>es
 |_=> #[]
noncomputable def wK(e:jj):ab (∃s t,e.key= .str s t):=match e with
 |⟨_,.str s t,_⟩=>ab.yes ⟨s,t,rfl⟩
 |_=>ab.no
theorem EB(h:a.toList.all (λe=>(wK e).1)=aa):StrKeys a:=λe he=>(wK e).2 (iw h<|A5.mpr he)
theorem Yv:(ou P).toList.all (λe=>(wK e).1)=aa:=by kernel_rfl
theorem ai2:(wr P).toList.all (λe=>(wK e).1)=aa:=by kernel_rfl
theorem ar6:(wM P).toList.all (λe=>(wK e).1)=aa:=by kernel_rfl
theorem WV:(ot P).get uN=U (Hd.gl P Hd.i6 225):=by kernel_rfl
theorem W0:(ot P).get A2=U (AM P):=by kernel_rfl
theorem X2:(ot P).get cStatics=U (AN P):=by kernel_rfl
theorem YB:((ot P).get kP).map (λo=>o.isFreed)=U ae:=by kernel_rfl
theorem av0:HL.all (λp=>match lH (ou P) (rK p.1) with|U w=>(BJ (KP P) p.2 w).1|Y=>ae)=aa:=by kernel_rfl
theorem WQ:ty.map (λp=>((lH (ou P) p.1).isNone,lH (wr P) p.1))=ty.map (λp=>(aa,U p.2)):=by kernel_rfl
theorem gFn:GL.map (λf=>lH (ou P)<|rN f)=GL.map (λf=>U<|.ref<|bQ f):=by kernel_rfl
theorem XQ:(rF qw).map (λp=>q4 (KP P)<|.ref<|bQ p.2.2)=(rF qw).map (λ_=>aa):=by kernel_rfl
theorem TK:lH (wM P) "sys.recursionlimit"=Y:=by kernel_rfl
theorem ai7:w7.map (λp=>lH (ou P)<|tt p.1)=w7.map (λp=>U<|.ref<|dL p.1):=by kernel_rfl
theorem Xo:Nb.all (λq=>(QP (KP P) GL q.1 q.2<|nk q.1).1)=aa:=by kernel_rfl
theorem wV(h:(ot P).get a=U o)(hl:a <1297)(hf:alive o=U o):(Hd.H1 P).get? a=U o:=(abs_get hl h).trans hf
theorem Vy{l:List Nat}{n:Nat}(h:rG n l=aa):n∈l:=by
 induction l with
 |nil=>exact fE h
 |cons k r ih=>
  have h:cond (bF k n) aa (rG n r)=aa:=h
  cases e:bF k n <;>rw[e] at h
  ·exact .tail _ (ih h)
  ·exact jk e▸ .head _
def Dt:QZ (Hd.H1 P) where
 mg:=lH (ou P)
 mb:=lH (wr P)
 ng:=⟨_,ou P,225,wV P (WV P) dd rfl,rfl,EB<|Yv P,λ_=>rfl⟩
 nb:=(⟨_,rfl⟩: ∃ep,(AM P).data= .dict (wr P) ep).elim λep hd=>⟨_,wr P,ep,wV P (W0 P) dd rfl,hd,EB<|ai2 P,λ_=>rfl⟩
 gF k v h:=by
  have h:=iw (av0 P) (nF h)
  dsimp only at h
  cases e:lH (ou P) (rK k) with
  |none=>rw[e] at h;cases h
  |some w=>rw[e] at h;exact⟨w,rfl,(BJ (KP P) v w).2 h _<|CO P⟩
 bi n v h:=have y:=c8 (kR (WQ P) _ h);⟨aZ0.mp y.1,y.2⟩
end
section
variable(P:cP)
def rM(p:pv)(w:kN):qQ where
 prog:=p
 w:=w
 B:=Hd.H1 P
 p:=pkH P
 g:=Dt P
 E0 f h:=iw (Xi P) (zG _ _<|an8▸h)
 cls c f h:=(c8 (c8 (c8 (c8<|kR (Mc P) _<|nF h).2).2).2).2
 oD c m f h:=kR (XQ P) _ (IM h)
 QE:=((ot P).get kP).getD Q2
 nm:=by
  have h:=YB P
  cases e:(ot P).get kP with
  |none=>rw[e] at h;cases h
  |some o=>
   rw[e] at h
   refine wV P e dd ?_
   have h:=bL h
   obtain⟨c,d,a,b⟩:=o
   cases a <;>first|rfl|cases h
 G:=GL
 hG f h:=kR (gFn P) f (Vy h)
 hC k h:=(u5.mp h).elim λf hf=>have e:=kR (ai7 P) _ (nF hf);e
theorem D_:(Hd.H1 P).NoLimit:=(⟨_,rfl⟩: ∃ep,(AN P).data= .dict (wM P) ep).elim λep hd=>⟨lH<|wM P,⟨_,wM P,ep,wV P (X2 P) dd rfl,hd,EB<|ar6 P,λ_=>rfl⟩,TK P⟩
theorem Ve p w f fn(h:I.fn f=U fn):Nonempty<|Ec (rM P p w) f fn:=
 (QP (KP P) GL f fn<|nk f).2 (iw (Xo P)<|nF h) (rM P p w) rfl rfl
theorem Fw p w d:mK (rM P p w) (al I d)<|4*d:=HA (D_ P) (Ve P p w) d
end
end c6
namespace c6
open PySem PySem.W PySem.Calls PyProof.Rows PySem.SeqAt
open Sem (wp)
noncomputable abbrev K2:List av:=[.type "ValueError",.type "Exception",.type "BaseException",.type "object"]
abbrev oR:List av:= .ref 39::K2
abbrev oX:Obj:=excClassObj (eG "BadFont") (eG "BadFont") 76 75 [.ref 39] oR aa [] [] ae Y Y (U<|.ref 67) Y (U<|.str (eG "BadFont") 256) (U<|.str (eG "BadFont") 264) (U<|.bool aa) "ValueError.__new__"
def KX(P:cP):n9:=(39,Hd.Az 6)::[76,75,38,36,35,29].map λa=>(a,Hd.lo P a)
theorem YN P:(KX P).map (λp=>(ot P).get p.1)=(KX P).map (λp=>U p.2):=by kernel_rfl
theorem ax0 P:(KX P).map (λp=>alive p.2)=(KX P).map (λp=>U p.2):=by kernel_rfl
theorem xLt P:(KX P).all (λp=>j9 p.1 1297)=aa:=by kernel_rfl
theorem TJ P:(KX P).In<|Hd.H1 P:=λa o e=>by
 have m:=OJ e
 have h1:=kR (YN P) _ m
 have h2:=kR (ax0 P) _ m
 exact wV P h1 (d6<|A8.mp (xLt P) _ m) h2
theorem LR P:(KX P).lookup 76=U oX:=by kernel_rfl
theorem Uk P:h8 (KX P) (.ref 76) "__init__"=U (U<|.ref 36):=by kernel_rfl
theorem aw1 P:h8 (KX P) (.ref 76) "__setattr__"=U (U<|.builtin "object.__setattr__"):=by kernel_rfl
theorem aI1 P:h8 (KX P) (.ref 76) "reason"=U Y:=by kernel_rfl
theorem WS P:A1 (KX P) (.ref 36)=U (.type "function"):=by kernel_rfl
noncomputable abbrev FV:ExcBaseFacts "ValueError" "ValueError.__new__" "ValueError.__init__" K2:=PySem.F.excBase_ValueError
section
variable{M:Model}{E:av->bB->Prop}{os:mn}
theorem ZQ(hC:h.get? 76=U oX)(b:Q () ⟨h,g,d,t,os⟩):
  aw M A (Se "ValueError.__new__" ⟨.ref 76::rest,[]⟩) Q E ⟨h,g,d,t,os⟩:=by
 have hcont:(q7 76::oR).contains (.type "ValueError")=aa:=by decide+kernel
 have a:=FV.noStar
 simp only[Se,FV.newKind,FV.newSplit,FV.newRow]
 repeat(first|refine vc hC ?_|(refine Hk hC ?_;rw[hcont])|refine wpAny_staticBase_exc hC ?_|refine a43 hC ?_|simp only[bne_self_eq_false,a24,if_false]|wp_step)
 exact b
end
section
variable{E:av->bB->Prop}{os:mn}
noncomputable abbrev wO(rest:List av):Obj:={cls:= .type "tuple",data:= .seq rest.toArray}
noncomputable abbrev wf(a:ai):Obj:={cls:= .ref 76,data:= .fields #[.ref a,.none,.none,.none,.bool ae,.none]}
theorem aP7(hC:h.get? 76=U oX)(hrest:rest.length<=jH)
  (c:R (.ok<|.ret<|.ref<|h.objs.size+1) ⟨(h.push<|wO rest).push<|wf h.objs.size,g,d,t,os⟩):
  oa (fJ prog w) A (.builtin "ValueError.__new__" ⟨.ref 76::rest,[]⟩) R ⟨h,g,d,t,os⟩:=by
 have a:=FV.ends
 have hcB:(q7 76::oR).contains (.type "ValueError")=aa:=by decide+kernel
 have hcA:(q7 76::oR).contains (.type "AttributeError")=ae:=by decide+kernel
 have hcN:(q7 76::oR).contains (.type "NameError")=ae:=by decide+kernel
 refine codeAny_builtinAt FV.entry ?_
 unfold iU.«BaseException.__new__»
 refine a44 ?_
 refine a44 (PySem.wpAt_stack λp b=>a45 ?_)
 wp_walk
 refine a45 ?_
 rw[FV.owner]
 repeat(first|with_reducible refine wpAny_madeHere_exc FV.canon hC ?_|with_reducible refine vc hC ?_|(with_reducible refine Hk hC ?_;first|rw[hcB]|rw[hcA]|rw[hcN])|wp_step)
 rw[tc]
 exact c
theorem aB4{Q:Fin->bB->Prop}(X:(KX P).In h)(hC:h.get? 76=U oX)(hrest:rest.length<=jH)
  (i:aw (fJ prog w) A (call (.ref 36)<|.ref (h.objs.size+1)::rest) (λr s'=>r= .none/\Q (.done<|.ret<|.ref<|h.objs.size+1) s') E ⟨(h.push<|wO rest).push<|wf h.objs.size,g,d,t,os⟩):
  aw (fJ prog w) A (iU.«type.__call__» ⟨.ref 76::rest,[]⟩) Q E ⟨h,g,d,t,os⟩:=by
 repeat(first|with_reducible refine vc hC ?_|with_reducible refine a43 hC ?_|wp_step)
 refine codeAny_call_builtin_code (a46 _ FV.quiet) (ZQ hC ?_)
 refine aP7 hC hrest ?_
 have k: ∀b o,h.get? b=U o->((h.push<|wO rest).push<|wf h.objs.size).get? b=U o:=λb o e=>eB _ (eB _ e)
 have f:=k _ _ hC
 have c:=λa o e=>k _ _ (X a o e)
 have hget:=by heap_get
 have hcC:(q7 76::oR).contains (.ref 76)=aa:=by decide+kernel
 unfold isInstance
 repeat(first|with_reducible refine vc hget ?_|(with_reducible refine Hk f ?_;rw[hcC])|wp_step)
 refine(R6 c<|Uk P).at ?_
 refine e8 (aF ((bind_fn c _<|WS P).at ?_))
 refine aF (bz i (λr s' hr=> ?_) λ_ _ x=>x)
 obtain⟨rfl,j⟩:=hr
 wp_walk
 exact j
theorem T4{Q:av->bB->Prop}(X:(KX P).In h)(hC:h.get? 76=U oX)(hrest:rest.length<=jH)
  (a:aw (fJ prog w) (A.under<|.builtin "type.__call__" ⟨.ref 76::rest,[]⟩) (call (.ref 36)<|.ref (h.objs.size+1)::rest) (λr s'=>r= .none/\Q (.ref<|h.objs.size+1) s') E ⟨(h.push<|wO rest).push<|wf h.objs.size,g,d,t,os⟩):
  aw (fJ prog w) A (call (.ref 76) rest) Q E ⟨h,g,d,t,os⟩:=by
 have f1:=tc_lookup
 have f2:=tc_bind (.ref 76)
 have hT:(⟨h,g,d,t,os⟩:bB).TypeIs (.ref 76) "type":=⟨_,hC,rfl⟩
 refine s_ (codeAny_of_tree ?_)
 repeat(any_goals(first|assumption|with_reducible refine vc hC ?_|wp_step))
 refine⟨rfl,?_⟩
 exact codeAny_call_builtin_at (a46 _<|by decide+kernel) entry_typeCall (wpAny_check_type_call_sub hC<|aB4 X hC hrest a)
end
open Builtin Builtin.ObjectAttr
theorem WI P:mroIn (KX P) 76 (.type "object")=U aa:=by kernel_rfl
section
variable{E:av->bB->Prop}
theorem ab1{M}(hC:h.get? 76=U oX):Looks M h (mroOf<|.ref 76)<|.ref 76::oR:=λA Q E s k q=>by
 obtain⟨hh,g,d,t,os⟩:=s
 exact wpAny_mroOf_exc (k _ _ hC) q
theorem af7(X:(KX P).In s.heap)(hC:s.heap.get? 76=U oX)(he:s.heap.get? e=U h)(hc:h.cls= .ref 76)(f:h.dict=Y)(c:h.data= .fields vs)
  (j: ∀h' tk q,(∀b o,b≠e->s.heap.get? b=U o->h'.get? b=U o)->h'.get? e=U {cls:=h.cls,dict:=U q,data:=h.data,slots:=h.slots}->Q () {s with heap:=h',toks:=tk}):
  aw (fJ prog w) A (setAttr (.ref e) "reason" v) Q E s:=by
 have SF:=PySem.F.store_object
 have Iqv:InstAt s.heap e h 76 Y:=⟨he,hc,by unfold notCls;rw[c],by rw[f];trivial⟩
 have sub:Looks (fJ prog w) s.heap (isInstance (.ref e)<|.type "object") aa:=Iqv.type.andThen (looks_mroIn X<|WI P)
 refine PySem.W.set_plain X Iqv (aw1 P) ?_
 refine codeAny_call_builtin SF.slot.plain SF.entry (@check_slot (fJ prog w) _ _ _ "object.__setattr__" "object" "__setattr__" (.ref e) [.str "reason" s.toks,v] [] _ SF.kind SF.split sub (SF.args (.ref e) (.str "reason" s.toks) v) ?_)
 rw[osa_eq,refuse_eq]
 obtain⟨hh,g,d,tk,os⟩:=s
 obtain⟨oc,od,p,t⟩:=h
 dsimp only at X hC he j hc f c Iqv⊢
 subst hc f c
 refine aF (aF<|Iqv.type.at<|wpAny_bind ((ab1 hC).at ?_))
 rw[a47,a47,PySem.F.store_ValueError.passes]
 refine bW (aF<|Iqv.type.at<|wpAny_bind ((R6 X<|aI1 P).at<|wpAny_bind<|wpAny_pure ?_))
 refine aF (bW<|wpAny_bind<|wpAny_bind<|wpAny_loadPart he<|wpAny_bind<|wpAny_bind<|wpAny_load hC<|wpAny_pure ?_)
 have i:=jI (g_ he)
 have a:=eB {cls:= .type "dict",data:= .dict #[]} he
 refine aF (wpAny_alloc' ?_)
 refine aF (wpAny_update' a ?_)
 refine bW ?_
 have hgd:((hh.push {cls:= .type "dict",data:= .dict #[]}).update e λo=>{cls:=o.cls,dict:=U hh.objs.size,data:=o.data,slots:=o.slots}).get? hh.objs.size
   =U {cls:= .type "dict",data:= .dict #[]}:=
  (a48 _ _ _ _ i.symm).trans (cu.get?_push_at rfl rfl)
 have hns:iP {cls:= .type "dict",data:= .dict #[]} (λ_=>Y) 0:=⟨#[],0,rfl,by intro e he;simp at he,λ_=>rfl,dP _⟩
 unfold storeInDict newKeyGuard
 refine aF (bW<|wpAny_bind<|Qv hgd hns λo' h' e' l sb=> ?_)
 obtain⟨es,ep,n1,n2,u,n4⟩:=id l
 refine aF (aW3 e' (by rw[n1];exact aW2 (by
  have:es.size<=1:=n4
  rw[A4];lia)) ?_)
 refine bW (j _ _ hh.objs.size (λb o hb eb=> ?_) ?_)
 ·exact(sb.2 b<|Nat.ne_of_lt<|Heap.lt_size eb).trans ((a48 _ _ _ _ hb).trans<|Heap.get?_push_of_some _ eb)
 ·exact(sb.2 e i).trans (uX _ a rfl)
end
abbrev KW(l:List cj):Prop:= ∃p1 p2 p3 p4,l=[.Assign [.Attribute (.Name "self" p1) "reason" p2] (.Name "reason" p3) p4]
def SR l:ab<|KW l:=gC l ab.no λs r=>gN r ab.no (Ei s ab.no λts v p4=>gC ts ab.no λt tr=>gN tr ab.no (ka t ab.no λb n2 p2=>fS b ab.no λn1 p1=>fS v ab.no λa p3=>
 ja n1 "self" ab.no<|ja n2 "reason" ab.no<|ja a "reason" ab.no<|ab.yes ⟨p1,p2,p3,p4,rfl⟩))
structure Xh(K:n9)(fd:FuncData)(dv:List av):Prop where
 FN: ∃l,fd.body= .stmts l/\KW l
 si:fd.closure=[]
 co:fd.scope.isCoroutine=ae
 jx:fd.scope.isGenerator=ae
 kind:fd.scope.kind= .function
 code: ∀B,K.In B->a42 B fd.code fd.qualname
 D9:vr fd.params ["self","reason"]
 gU:Pa K fd.defaults [.str ""] dv
 l1:fd.scope.names.lookup (eG "self")=U .local
 l2:fd.scope.names.lookup (eG "reason")=U .local
noncomputable def NK K(o:Obj):ab (∃fd dv,o.data= .func fd/\Xh K fd dv):=match o with
 |⟨cl,dq,.func fd,sl⟩=>(match hb:fd.body with
  |.stmts l=>ba ab.no fd.closure.isEmpty λh3=>ba ab.no (!fd.scope.isCoroutine) λh4=>ba ab.no (!fd.scope.isGenerator) λa=>ba ab.no (fd.scope.kind== .function) λb=>ba ab.no (fd.scope.names.lookup (eG "self")==U .local) λe=>ba ab.no (fd.scope.names.lookup (eG "reason")==U .local) λc=>
   (match Ok K fd.defaults [.str ""] with
   |⟨dv,hd⟩=>ab.and (ab.and (Pn K fd.code fd.qualname) (PE fd.params ["self","reason"]) hH) (ab.and hd (SR l) hH) λp q=>⟨fd,dv,rfl,⟨l,hb,q.2⟩,Sv.mp h3,hY h4,hY a,c_ b,p.1,p.2,q.1,c_ e,c_ c⟩)
  |_=>ab.no)
 |_=>ab.no
theorem Ze P:(KX P).lookup 36=U (Hd.lo P 36):=by kernel_rfl
theorem TP P:(NK (KX P)<|Hd.lo P 36).b=aa:=by kernel_rfl
section
variable{E:av->bB->Prop}
theorem XB(hA:A.depth <GZ)(X:(KX P).In s.heap)(hl:s.heap.NoLimit)(hC:s.heap.get? 76=U oX)
  (he:s.heap.get? e=U {cls:= .ref 76,dict:=Y,data:= .fields vs,slots:=j})
  (p: ∀h' tk h,(∀b o,b≠e->s.heap.get? b=U o->h'.get? b=U o)->h'.get? e=U {cls:= .ref 76,dict:=U h,data:= .fields vs,slots:=j}->Q .none {s with heap:=h',toks:=tk}):
  aw (fJ prog w) A (call (.ref 36) [.ref e,v]) Q E s:=by
 obtain⟨fd,dv,hd,Iqv⟩:=(NK (KX P)<|Hd.lo P 36).ok (TP P)
 obtain⟨l,g,p1,p2,p3,p4,el⟩:=Iqv.FN
 have hbod:=el▸g
 have ho:=X _ _ (Ze P)
 obtain⟨dr,u⟩:=Iqv.gU s.heap X
 have ldv:dv.length=1:=dr.length
 have nd:(["self","reason"]:List Str).Nodup:=by decide+kernel
 refine s_ (a00 hA ho hd Iqv.co Iqv.jx hbod (Iqv.code _ X) ?_)
 refine QS Iqv.D9 nd (dP _) (by simp only[eU,j6,ldv];lia) (by rw[ldv];exact d6 rfl) ?_ _ _ _ _ ?_
 ·intro M A E Q p
  rcases u with⟨e1,e2⟩|⟨T,od,n,e1,e2,e3⟩
  ·rw[e2] at ldv;cases ldv
  ·rw[e1];exact R2 e2 e3 (p _ rfl)
 ·rw[Iqv.si]
  have us:rU ["self","reason"] [.ref e,v] dv=([("self",.ref e),("reason",v)]:List<|Str×av):=by
   unfold rU
   simp only[eU,j6,ldv]
   rw[a13<|by lia]
   rfl
  rw[us]
  refine a01 Iqv.kind (λy f=> ?_) λenv c s' Z=> ?_
  ·rcases bC.mp f with rfl|f
   ·exact .inl Iqv.l1
   ·rcases bC.mp f with rfl|f
    ·exact .inl Iqv.l2
    ·cases f
  ·have ns:=Z.toInCall.ns
   obtain⟨h1,tk,rfl,hk⟩:=Z.done
   have ks:env.kindOf "self"=U .local:=by rw[c];exact Iqv.l1
   have kr:env.kindOf "reason"=U .local:=by rw[c];exact Iqv.l2
   have kd:env.scope.kind= .function:=by rw[c];exact Iqv.kind
   have b1:=DV (us:=[.ref e,v]) (i:=0) nd rfl rfl ks
   refine⟨hl.keeps hk,codeAny_func ?_⟩
   refine q8 (plainObj_wpAny_Assign_Attribute ?_)
   refine GV (GW kd kr ns (DV (us:=[.ref e,v]) (i:=1) nd rfl rfl kr) ?_) (by decide+kernel)
   refine GV (GW kd ks ns b1 ?_) (by decide+kernel)
   refine af7 (λa o q=>hk _ _<|X a o q) (hk _ _ hC) (hk _ _ he) rfl rfl rfl λh' t h z k2=> ?_
   exact Bk (p h' t h (λb o hb eb=>z b o hb<|hk _ _ eb) k2)
end
theorem VQ P:q4 (KX P) (.ref 76)=aa:=by kernel_rfl
section
variable{M:Model}{E:av->bB->Prop}
theorem XG(hh:A.handled=Y)
  (h:aw M A xs (λv s₁=> ∃e c vs b,v= .ref e/\s₁.heap.get? 76=U oX/\s₁.heap.get? e=U {cls:= .ref 76,dict:=c,data:= .fields vs,slots:=b}/\vs[1]? =U .none/\E (.ref e) s₁) E s):
  aw M A (raiseStmt env (U xs) Y) Q E s:=by
 have hcB:(q7 76::oR).contains (.type "BaseException")=aa:=by decide+kernel
 have hcT:(q7 76::oR).contains (.type "type")=ae:=by decide+kernel
 unfold raiseStmt
 refine aF (bz h (λv s₁ a=> ?_) λ_ _ x=>x)
 obtain⟨e,c,vs,b,rfl,hC,he,hv,f⟩:=a
 obtain⟨hp,g,d,tk,os⟩:=s₁
 repeat(first|with_reducible refine vc he ?_|with_reducible refine vc hC ?_|(with_reducible refine Hk hC ?_;first|rw[hcB]|rw[hcT])|wp_step)
 rw[hv]
 refine bW ?_
 rw[aE dd]
 exact bW (wpAny_raiseNew_none hh f)
end
section
variable{n:Nat}{σ:St x}{E:av->bB->Prop}
theorem Ew{M}{t}{Q:α->bB->Prop}(h:aw M Ar t Q N0 s):aw M Ar t Q E s:=bz h (λ_ _ q=>q) λ_ _ q=>q.elim
theorem ME(X:t.In x.T.B)(hk:q4 t p=aa){j}
  (hn: ∀b,b p σ.s->aw (M x) Ar (aQ (.Name j q) x.env) b N0 σ.s) (hs:o.all fF=aa) (el:fW n x Ar (iS<|eV pos<|eW o x.env) u) (h:u σ.A G)
  (k: ∀(τ:St x) vs ws,σ.le τ->aV τ.R vs ws->G vs τ.A->aw (M x) Ar (call p ws) Q E τ.s):
  aw (M x) Ar (aQ (.Call (.Name j q) o [] pos) x.env) Q E σ.s:=
 u8 (Ew<|hn _<|callWith_of (by rw[tM hs];rfl) (keeps_K hk)<|Ew<|zo hs<|el.map h λτ vs ws l r g=>⟨λa ob e=>τ.jc<|X a ob e,k τ vs ws l r.1 g⟩)
theorem V1(hX:(KX P).In x.T.B)(hlim:x.T.B.NoLimit)(s:x.T.g.mg "BadFont"=U (.ref 76))(hk:x.env.kindOf "BadFont"=U .globalImplicit)(hh:Ar.handled=Y)(hdep:Ar.depth+4 <GZ)
  (p: ∀h' tk (τ:St x) e oe vs a0,σ.le τ->τ.A=σ.A->(∀b ob,τ.s.heap.get? b=U ob->h'.get? b=U ob)->τ.s.heap.get? e=Y->h'.get? e=U oe->oe.cls= .ref 76->oe.data= .fields vs->vs[1]? =U .none->vs[0]? =U a0->E (.ref e) {τ.s with heap:=h',toks:=tk}):
  aw (M x) Ar (hE (.Raise (U<|.Call (.Name "BadFont" q) [.Constant (.str m) o cp] [] j) Y pos) x.env) Q E σ.s:=by
 rw[arm_exec_Raise]
 refine aF (jn<|?_)
 refine XG hh (aF ?_)
 have ec:=((Iz (.str m) (.str m) o cp).2<|by exact beq_self_eq_true m) x Ar
 have el:fW 1 x Ar (iS<|eV j<|eW [.Constant (.str m) o cp] x.env) (λh K=>K [.str m] h):=by
  rw[pj rfl]
  exact fW.cons ec fW.nil
 refine ME (G:=λvs h=>vs=[.str m]/\h=σ.A) hX (VQ P) (λt k=>wA σ hk (by decide+kernel) s k) rfl el ⟨rfl,rfl⟩ λτ vs ws l r f=>(f.1▸r:aV τ.R [.str m] ws).bp λb rw=> ?_
 have X1:=λa ob e=>τ.jc (hX a ob e)
 have hC:=X1 _ _ (LR P)
 have k2: ∀{y:av} b ob,τ.s.heap.get? b=U ob->((τ.s.heap.push<|wO [y]).push<|wf τ.s.heap.objs.size).get? b=U ob:=λb ob e=>eB _ (eB _ e)
 have hne:τ.s.heap.get? (τ.s.heap.objs.size+1)=Y:=R3 (jm _)
 refine T4 X1 hC (by size_fits) (XB ?_ (λa ob e=>k2 _ _<|X1 a ob e) ((hlim.keeps λb ob e=>τ.jc e).keeps k2) (k2 _ _ hC) (by heap_get) λh' c u c1 i=>⟨rfl,?_⟩)
 ·show Ar.depth+_ <_
  have:(Code.builtin "type.__call__" ⟨.ref 76::[b],[]⟩).weight=1:=rfl
  rw[this];lia
 ·have g:=λb ob e=>c1 b ob (λz=>by rw[z,hne] at e;exact bR e) (k2 _ _ e)
  refine aF (jn<|bW ?_)
  exact⟨_,_,_,_,rfl,g _ _ hC,i,rfl,p h' c τ _ _ _ _ l f.2 g hne i rfl rfl rfl rfl⟩
end
noncomputable abbrev FK:E:= .nt (.call 0<|.cons (.x 3)<|.cons (.c<|.int 1)<|.cons (.c<|.int 32768) .nil)
noncomputable abbrev Gm:Es:= .cons (.x 0) (.cons (.x 1)<|.cons (.x 2)<|.cons (.x 4) .nil)
noncomputable abbrev CF:Es:= .cons (.x 0) (.cons (.x 1)<|.cons (.ix (.tu<|.cons (.c<|.str<|eG "fa")<|.cons (.c<|.str<|eG "fb") .nil)<|.dT .sub (.x 1)<|.c<|.int 1)<|.cons (.x 2)<|.cons (.x 3) .nil)
inductive xc (c:Cc):List cj->Prop
 |mk:ST c FK t->c.sc.lookup (eG "BadFont")=U .globalImplicit->xc c (.If t [.Raise (U<|.Call (.Name "BadFont" q) [.Constant (.str m) kk cp] [] cpos) Y pos] b p::rest)
inductive jE (c:Cc) (f:Nat) (es:Es):Expr->Prop
 |mk:rG f c.G=aa->f <sP.length->g7 c (rN f)=aa->SL c es as->jE c f es (.Call (.Name (rN f) q) as [] pos)
inductive wo (c:Cc):List cj->Prop
 |mk:SS c (.ite (.eY .gt (.x 3)<|.c<|.int 0) BI .nil) a->jE c 29 Gm e->wo c (a:: .Return (U e) p::rest)
inductive xb (c:Cc):List cj->Prop
 |mk:jE c 30 CF e->c.sc.lookup (eG "BadFont")=U .globalImplicit->xb c [.Try [.Return (U e) p] [.ExceptHandler (U<|.Name "BadFont" q) Y [.Return (U<|.Constant .none kk cp) p1] p2] [] [] p3]
def U_ es:TL es:=
 Es.rec NE Jd L3 JJ Og Jp MX KO HS OI M6 KU OA IY Pq Qx K_ IR P2 Qu Oo QJ NP Mm Qr KV es
def yl c f es a:ab<|jE c f es a:=pV a ab.no λfn as kw pos=>gN kw ab.no (fS fn ab.no λn q=>ja n (rN f) ab.no (ba ab.no (rG f c.G) λh1=>ba ab.no (j9 f sP.length) λh2=>ba ab.no (g7 c<|rN f) λh3=>
 ab.map (U_ es c as).1 λp=>⟨h1,d6 h2,h3,p⟩))
noncomputable def M5 c l:ab<|xc c l:=gC l ab.no λs r=>NQ s ab.no λt b e p=>gC b ab.no λs g=>gN g ab.no (ah9 s ab.no λx z pos=>gO z (gO x ab.no λx=>pV x ab.no λf as kw cp=>gN kw ab.no (gC as ab.no λa ar=>gN ar ab.no (fS f ab.no λn q=>oq a ab.no λk kk kp=>(match k with
 |.str m=>ja n "BadFont" ab.no (ba ab.no (c.sc.lookup (eG "BadFont")==U .globalImplicit) λh=>ab.map (gw FK c t).2.1 λv=>⟨v,c_ h⟩)
 |_=>ab.no)))) λ_=>ab.no)
def Ht c l:ab<|wo c l:=gC l ab.no λa r=>gC r ab.no λs r=>xI s ab.no λo p=>gO o ab.no λe=>ab.and ((LH _ _ _ (zI _)<|zI _).1 c a) (yl c 29 Gm e) λv k=>⟨v,k⟩
noncomputable def Iw c l:ab<|xb c l:=gC l ab.no λs r=>gN r ab.no (Ow s ab.no λb hs oe f p3=>gN oe ab.no (gN f ab.no (gC b ab.no λs g=>gN g ab.no (xI s ab.no λo p=>gO o ab.no λe=>gC hs ab.no λhd hr=>gN hr ab.no (match hd with
 |.ExceptHandler a nm hb p2=>gO nm (gO a ab.no λa=>fS a ab.no λn q=>gC hb ab.no λs vX=>gN vX ab.no (xI s ab.no λo p1=>gO o ab.no λv=>oq v ab.no λk kk cp=>(match k with
  |.none=>ja n "BadFont" ab.no (ba ab.no (c.sc.lookup (eG "BadFont")==U .globalImplicit) λh=>ab.map (yl c 30 CF e) λk=>⟨k,c_ h⟩)
  |_=>ab.no))) λ_=>ab.no)))))
theorem Zz P:(pq M5 (KP P) GL 29 wR<|nk 29).b=aa:=by kernel_rfl
theorem x30 P:(pq Ht (KP P) GL 30 vP<|nk 30).b=aa:=by kernel_rfl
theorem ag8 P:(pq Iw (KP P) GL 109 wN<|nk 109).b=aa:=by kernel_rfl
end c6
namespace c6.La
open PySem
section
theorem an4(hs:a=0\/a=32769)(k:Q (.bool ae) h):al I (d+1) 0 [.int a,.int 1,.int 32768] h Q:=
 e9 rfl rfl (bA (mL (PJ (eP (ay (ap rfl (bg (.MB (Dm (PJ (VN (eP (ay (ap rfl (bg (.OO (X8 (Dm (al3 (ap rfl (ap rfl (.DO (hs.elim
  (λe=>gm (by subst e;decide) ⟨h,H.le_refl h,k⟩) λe=>EE (by subst e;decide)<|ap rfl<|.DO<|by rw[LS<|by subst e;decide];exact⟨h,H.le_refl h,k⟩)))))))))))))))))))))))
theorem ar7(hs:a=0\/a=32769)(k:T h):(ao I (al I 2) FK [U b,U n,U m,U<|.int a,Y]).t h T F:=
 aB8 (ah2<|eN<|ay<|ap rfl<|ay<|bl<|ay<|bl<|bg<|an4 hs<|EA k)
theorem Yq(k:Q .next [U b,U n,U m,U<|.int 0,U<|.int a] h):ex I (al I 2) (.ite (.eY .gt (.x 3)<|.c<|.int 0) BI .nil) [U b,U n,U m,U<|.int 0,U<|.int a] h Q:=
 E2 (iV<|ap rfl<|bl<|.qe<|gm dd k)
theorem az2(k:K [b,n,m,s] h):cU I (al I 2) Gm [U b,U n,U m,U z,U s] h K:=
 ay (ap rfl<|ay<|ap rfl<|ay<|ap rfl<|ay<|ap rfl<|bg k)
theorem Wq(k:K [b,.int 2,.str<|eG "fb",z,s] h):cU I (al I 2) CF [U b,U<|.int 2,U z,U s] h K:=
 ay (ap rfl<|ay<|ap rfl<|ay<|iL<|nZ<|ay<|bl<|ay<|bl<|bg<|eC<|ap rfl<|bl<|.vF<|.nh dd dd rfl<|ay<|ap rfl<|ay<|ap rfl<|bg k)
end
end c6.La
namespace c6
open PySem PySem.W PySem.Calls PyProof.Rows PySem.SeqAt
section
variable{x:Cx}
def Ck.cx(c:Ck x.T f fn)(n:Nat)(st:mU (callEnvC c.fd n<|bQ f) c.ns)(ρ:L):Cx:=c.fx n x.gens x.os st ρ
end
noncomputable abbrev im(l:List Env):List ai:=l.filterMap (·.frame)
def jv(R:Rm)(l:List Env):Prop:= ∀env∈l,env.scope.kind= .function/\ ∃L o,env.frame=U L/\R.kp .own L o/\ ∀vs,o.data≠ .fields vs
theorem jv.le{R S}(st:jv R l)(h:R.le S):jv S l:=λenv m=>(st env m).imp id λz=>z.imp λL z=>z.imp λo z=>⟨z.1,h _ _ _ z.2.1,z.2.2⟩
section
theorem r6(q:v1 x R): ∃o,R.kp .own x.env.locals o/\ ∀vs,o.data≠ .fields vs:=q.casesOn λo m k e n _=>⟨o,e,λvs z=>by obtain⟨es,ep,e2,_⟩:=n;rw[e2] at z;exact nomatch z⟩
theorem jv.call{σ:St x}(st:jv σ.R l)(c:Ck x.T f fn){n:Nat}{s}(τ:St<|c.cx n s ρ)(h:σ.R.le τ.R):jv τ.R<|callEnvC c.fd n (bQ f)::l:=λenv m=>(bC.mp m).elim (λe=>e▸⟨c.kind,_,(r6 τ.fr.dQ).elim λo z=>⟨o,rfl,z⟩⟩) λm=>st.le h env m
theorem LK{a h':cu}: ∀{l:List Env},(∀env∈l,env.scope.kind= .function/\ ∃L o,env.frame=U L/\h'.get? L=U o/\(∀vs,o.data≠ .fields vs)/\a.get? L=Y)->h'.FunFrames a l
 |[],_=>trivial
 |env::l,h=>by
  obtain⟨k,L,o,e1,e2,e3,e4⟩:=h env xj
  exact⟨by rw[k];decide,⟨L,o,e1,e4,e2,e3⟩,LK λv m=>h v<|List.mem_cons_of_mem _ m⟩
theorem jv.frames{σ:St x}(st:jv σ.R l){a h':cu}(hb: ∀L∈im l,a.get? L=Y)(k: ∀b ob,σ.s.heap.get? b=U ob->h'.get? b=U ob):h'.FunFrames a l:=
 LK λenv m=>(st env m).imp id λz=>z.elim λL z=>z.elim λo z=>⟨L,o,z.1,k _ _<|σ.bh.kp _ _ _ z.2.1,z.2.2,hb L<|Sx.mpr ⟨env,m,z.1⟩⟩
end
section
variable{E:av->bB->Prop}
def Ck.nP(c:Ck x.T f fn){n}{a}(σ:St x)(τ:St<|c.cx n a ρ)(h:σ.R.le τ.R):St x:=⟨τ.R,τ.A,τ.s,τ.bh,τ.bY,τ.gens,τ.os,σ.fr.keep h⟩
inductive pa (σ:St x) (l:List Env) (e:ai) (s':bB):Prop
 |mk (τ:St x) (bY:cu) (a0:av) (S:List ai):σ.R.le τ.R->τ.A=σ.A->s'.gens=x.gens->s'.os=x.os->(∀a∈S,(∀b o,¬σ.R.kp b a o)/\ ∃o,τ.R.kp .own a o)->
  (∀b ob,τ.s.heap.get? b=U ob->b∉S->b∉im l->bY.get? b=U ob)->cu.FlyingW bY l e (.ref 76) a0 s'.heap->τ.s.heap.UpToSlots s'.heap->pa σ l e s'
theorem Md{h a}(m:b∈im (callEnvC h n a::l))(k:b≠n):b∈im l:=(bC.mp m).elim (λz=>absurd z k) id
theorem PG{h:cu}{F}(hn:h.get? e=Y):(hideAll h F).get? e=Y:=by
 cases q:(hideAll h F).get? e with
 |none=>rfl
 |some p=>exact bR <|hn.symm.trans (of_hideAll _ q)
theorem Kg{S:List ai}(n1:b∉n::S):b≠n:=λz=>n1 (z▸xj)
theorem ac2{σ:St x}(c:Ck x.T f fn){n:Nat}{t}(τ:St<|c.cx n t ρ)(h:σ.R.le τ.R)(hA:τ.A=σ.A)(n0: ∀b o,¬σ.R.kp b n o)(sk:jv τ.R<|callEnvC c.fd n (bQ f)::l)(i:Ar.frames=U (callEnvC c.fd n (bQ f)::l))
  (k: ∀b ob,τ.s.heap.get? b=U ob->h'.get? b=U ob) (hn:τ.s.heap.get? e=Y) (he:h'.get? e=U j) (hc:j.cls= .ref 76) (hd:j.data= .fields vs) (h1:vs[1]? =U .none) (h0:vs[0]? =U u)
  {M} (p: ∀g,pa σ l e g->Q () g):aw M Ar (R0 (callEnvC c.fd n<|bQ f)<|.ref e) Q E {τ.s with heap:=h',toks:=tk}:=
 wpAny_leaving_firstW i (sk.frames (λL m=>hideAll_none _ m) k) rfl he (λb ob q=>k _ _<|of_hideAll _ q) (PG hn) hd h1 h0 λs LW=>p _
  ⟨c.nP σ τ h,_,u,[n],h,hA,τ.gens,τ.os,λa m=>pD (motive:=λa=>(∀b o,¬σ.R.kp b a o)/\ ∃o,τ.R.kp .own a o) (b_.mp m).symm ⟨n0,(r6 τ.fr.dQ).imp λo z=>z.1⟩,λb ob eb n1 n2=>hideAll_get _ eb λm=>n2<|Md m<|Kg n1,⟨LW.1,PG hn,LW.2.1.2.2,hc▸LW.2.2.1⟩,(cu.UpToSlots.of_keeps k).trans LW.2.2.2⟩
theorem Ux{σ:St x}(c:Ck x.T f fn){n:Nat}{u}(τ:St<|c.cx n u ρ)(h:σ.R.le τ.R)(hA:τ.A=σ.A)(n0: ∀b o,¬σ.R.kp b n o)(fl:pa τ (callEnvC c.fd n (bQ f)::l) e t)(p:Ar.frames=U (callEnvC c.fd n (bQ f)::l))
  {M} (s: ∀g,pa σ l e g->Q () g):aw M Ar (R0 (callEnvC c.fd n<|bQ f)<|.ref e) Q E t:=
 pa.casesOn fl λυ bY A S l2 hA2 g2 o2 hS w y us=>wpAny_leaves_onW p rfl y λh' j i=>s _
  ⟨c.nP σ υ λa b o q=>l2 a b o<|h a b o q,bY,A,n::S,λa b o q=>l2 a b o<|h a b o q,hA2.trans hA,g2,o2,λa m=>(bC.mp m).elim (λz=>pD (motive:=λa=>(∀b o,¬σ.R.kp b a o)/\ ∃o,υ.R.kp .own a o) z.symm ⟨n0,(r6 υ.fr.dQ).imp λo z=>z.1⟩) λm=>⟨λb o q=>(hS a m).1 b o<|h a b o q,(hS a m).2⟩,
   λb ob eb n1 n2=>w b ob eb (λm=>n1<|.tail _ m) λm=>n2<|Md m<|Kg n1,j,us.trans i⟩
end
structure Ex(T:qQ) where
 P:cP
 hX:(KX P).In T.B
 hl:T.B.NoLimit
 JP:T.g.mg "BadFont"=U (.ref 76)
 gc:mK T (al I 2) 8
 zi:y_ T 29 wR T.G xc
 z9:y_ T 30 vP T.G wo
 yv:y_ T 109 wN T.G xb
section
theorem yb(rm:d9 (k+1) Ar):d9 k<|Ar.deeper env:=by
 have:=rm.oE
 have:=rm.un
 exact⟨rm.hd,by show Ar.depth+1+_ <_;lia,by show Ar.units+3+_+_ <_;lia⟩
noncomputable def tQ(σ:St x)(l:List Env)(r:u6)(s':bB):Prop:=match r with
 |.error v=> ∃e,v= .ref e/\pa σ l e s'
 |.ok _=>False
@[elab_as_elim] theorem tQ.el{σ:St x}{X:u6->bB->Prop}(q:tQ σ l r s)(k: ∀e,pa σ l e s->X (.error<|.ref e) s):X r s:=by
 rcases r with v|v
 ·obtain⟨e,rfl,fl⟩:=q
  exact k e fl
 ·exact q.elim
theorem Wv(X:Ex x.T)(c:Ck x.T 29 wR)(hb:xc ⟨c.fd.scope.names,c.ns,x.T.G⟩ c.mY)(rm:d9 12 Ar)(σ:St x)(sk:jv σ.R l)(i:Ar.frames=U l)(hs:t=0\/t=32769)(r:aV σ.R [b,n,m,.int t] y):
  oa (M x) Ar (.call (.ref<|bQ 29) ⟨y,[]⟩) (tQ σ l) σ.s:=by
 refine xi X.hl c (ms (cm _ _) rm.oE) σ.bh σ.bY σ.gens σ.os rfl r λst τ le s own _=>xc.casesOn hb λtv hk=> ?_
 have rm3:d9 10<|Ar.deeper<|callEnvC c.fd σ.s.heap.objs.size<|bQ 29:=(yb rm).oF dd
 refine q8 (wpAny_If<|Ew<|(tv ⟨al I 2,8,_,rm3⟩ (c.cx σ.s.heap.objs.size st [U b,U n,U m,U<|.int t,Y]) ⟨rfl,rfl,rfl,X.gc⟩).map (J:=λb h=>b=aa/\h=τ.A) (La.ar7 hs ⟨rfl,rfl⟩) λυ v w l2 rv j=> ?_)
 cases(rv)
 rw[j.1]
 exact q8 (V1 (σ:=υ) X.hX X.hl X.JP hk rm3.hd (ms (eH dd _) rm3.oE) λh' tk f e oe vs z l3 e3 kp hn p hc hd h1 h0=>
  have g:=λa b o q=>l3 a b o (l2 a b o<|le a b o q)
  ac2 c f g (e3.trans<|j.2.trans s) (λb o q=>bH <|(σ.bh.dm _<|Nat.le_refl _).symm.trans q) (sk.call c f g) (xG i) kp hn p hc hd h1 h0 λu fl=>⟨e,rfl,fl⟩)
end
section
theorem O_(g:c2 z c x)(k:jE c f j a)(σ:St x)(h:cU I z.C j x.ρ σ.A G){Q E}(q: ∀(τ:St x) vs ws,σ.le τ->aV τ.R vs ws->G vs τ.A->aw (M x) z.Ar (call (.ref<|bQ f) ws) Q E τ.s):aw (M x) z.Ar (aQ a x.env) Q E σ.s:=
 jE.casesOn k λh1 h2 h3 h4=>ME x.T.p.jc (x.T.E0 f h2) (λb k=>wA σ (g.g7 h3) (tF h3) (x.T.hG f<|g.G▸h1) k) h4.1 (h4.2 z x _ g) h q
theorem MJ(g:c2 z c x)(k:jE c f o a)(σ:St x){vs j}(b:σ.A=j)(h: ∀K,K vs σ.A->cU I z.C o x.ρ σ.A K){Q E}(q: ∀(τ:St x) ws,σ.le τ->τ.A=j->aV τ.R vs ws->aw (M x) z.Ar (call (.ref<|bQ f) ws) Q E τ.s):aw (M x) z.Ar (aQ a x.env) Q E σ.s:=
 O_ g k σ (G:=λus h=>us=vs/\h=σ.A) (h _ ⟨rfl,rfl⟩) λτ us ws l r e=>q τ ws l (e.2.trans b) (e.1▸r)
noncomputable def Gi(f:Fl):Bool:=Fl.casesOn f aa ae ae λ_=>ae
theorem ap3(r:nR R f a):f= .next->a= .next:=
 nR.casesOn (motive:=λf w _=>f= .next->w= .next) r (λ_=>rfl) (λe=>fE<|aA Gi e) (λe=>fE<|aA Gi e) λ_ e=>fE (aA Gi e)
@[elab_as_elim] theorem PS.nx{σ:St x}{X:sS->bB->Prop}(q:PS σ (λf ρ h=>f= .next/\ρ=a/\h=j) l s)(k: ∀υ:St<|x.at a,σ.lo υ->υ.A=j->X .next υ.s):X l s:=by
 obtain⟨b,υ,v,lo,r2,e1,e2,e3⟩:=q
 cases e2
 exact ap3 r2 e1▸k υ lo e3
theorem aM5(X:Ex x.T)(c:Ck x.T 30 vP)(hb:wo ⟨c.fd.scope.names,c.ns,x.T.G⟩ c.mY)(rm:d9 13 Ar)(σ:St x)(sk:jv σ.R l)(f:Ar.frames=U l)(hs:j=0\/j=32769)(r:aV σ.R [b,n,m,.int 0,.int j] u):
  oa (M x) Ar (.call (.ref<|bQ 30) ⟨u,[]⟩) (tQ σ l) σ.s:=by
 refine xi X.hl c (ms (cm _ _) rm.oE) σ.bh σ.bY σ.gens σ.os rfl r λst τ le s own _=>wo.casesOn hb λsv kc=> ?_
 have rm2:d9 12<|Ar.deeper<|callEnvC c.fd σ.s.heap.objs.size<|bQ 30:=yb rm
 have g:c2 ⟨al I 2,8,_,rm2.oF dd⟩ ⟨c.fd.scope.names,c.ns,x.T.G⟩<|c.cx σ.s.heap.objs.size st [U b,U n,U m,U<|.int 0,U<|.int j]:=⟨rfl,rfl,rfl,X.gc⟩
 refine q8 (bz (sv _ _ g _ τ (λfl p h=>fl= .next/\p=[U b,U n,U m,U<|.int 0,U<|.int j]/\h=τ.A)<|La.Yq ⟨rfl,rfl,rfl⟩) (λfl s2 q=>PS.nx q λυ lo e3=> ?_) λ_ _ q=>q.elim)
 refine q8 (Sp<|MJ g kc υ (e3.trans s) (λK=>La.az2) λφ y l3 hA r3=> ?_)
 have i:=λa b o q=>l3 a b o ((λa b o q=>lo a b o (le a b o q) λ_ w=>bH <|(σ.bh.no a<|own a w).symm.trans q) a b o q)
 exact s_ (xC (Wv (x:=c.cx σ.s.heap.objs.size st [U b,U n,U m,U<|.int 0,U<|.int j]) X X.zi.1 X.zi.2 rm2 φ (sk.call c φ i) (xG f) hs r3) λr s' q=>tQ.el q λe fl=>
  Ux c φ i hA (λb o q=>bH <|(σ.bh.dm _<|dP _).symm.trans q) fl (xG f) λt fl'=>⟨e,rfl,fl'⟩)
end
section
noncomputable def Rm.mark(R:Rm)(T:List ai)(h:cu):Rm:=λa=>if a∈T then(h.get? a).map (.kp .own) else R a
theorem St.WO{σ υ:St x}(le:σ.R.le υ.R){T:List ai}{s}(hT: ∀a∈T,∃o,υ.R.kp .own a o)(nT: ∀a∈T,a≠x.env.locals-> ∀b o,¬σ.R.kp b a o)(k: ∀b ob,υ.s.heap.get? b=U ob->b∉T->s.heap.get? b=U ob)(us:υ.s.heap.UpToSlots s.heap)
  (g:s.gens=x.gens) (os:s.os=x.os) (nc: ∀n c,x.env.cells.lookup n=U c->c≠x.env.locals): ∃φ:St x,φ.s=s/\φ.A=υ.A/\σ.lo φ:=by
 have dX: ∀{a},a∉T->(υ.R.mark T s.heap) a=υ.R a:=λm=>aE m
 have no: ∀{a r},υ.R a=U r->(∀o,r≠ .kp .own o)->a∉T:=λe n m=>(hT _ m).elim λo q=>n o (bL<|e.symm.trans q)
 have fl:υ.R.fl<|υ.R.mark T s.heap:=λa o e=>(dX<|no e λ_ q=>qc <|q).trans e
 have lo:=λa b o e q=>(dX λm=>nT a m q b o e).trans (le a b o e)
 have bh:c4 (υ.R.mark T s.heap) υ.A s.heap:=⟨λa b o e=>by
   by_cases m:a∈T
   ·have e:(if a∈T then(s.heap.get? a).map (Rl.kp .own) else υ.R a)=U (.kp b o):=e
    rw[aM m] at e
    exact(a17.mp e).elim λob q=>by cases q.2;exact q.1
   ·exact k _ _ (υ.bh.kp _ _ _<|(dX m).symm.trans e) m,
  λa o e=>have q:=υ.bh.ob a o e
   have m:=no q.1 λ_ q=>qc <|q
   ⟨(dX m).trans q.1,q.2.keep fl (λp h=>k a p h m) λd p hd hp=>⟨k d p hp<|no hd λ_ q=>qc <|q,(dX<|no hd λ_ q=>qc <|q).trans hd⟩⟩,
  λa e=>by
   by_cases m:a∈T
   ·exact(aM m).trans (by rw[e];rfl)
   ·refine(dX m).trans ?_
    cases q:υ.s.heap.get? a with
    |none=>exact υ.bh.no a q
    |some ob=>exact bR <|e.symm.trans<|k a ob q m⟩
 have iH:=λa o e=>fl a o (le a .fr o e)
 have fr:Fr x<|υ.R.mark T s.heap:=⟨σ.fr.len,σ.fr.dQ.casesOn λo m j e ns hh=>by
   have eo:=υ.bh.kp _ _ _ (le _ _ _ e)
   have hh2: ∀i n v,ah x.ns i=U n->x.env.kindOf n=U .local->ah x.ρ i=U (U v)-> ∃w,m n=U w/\ax (υ.R.mark T s.heap) v w:=λi n v a b c=>(hh i n v a b c).imp λ_ q=>⟨q.1,q.2.aG iH⟩
   by_cases mT:x.env.locals∈T
   ·obtain⟨f,es⟩:=us _ _ eo λvs z=>by obtain⟨es,ep,e2,_⟩:=ns;rw[e2] at z;exact nomatch z
    exact .mk {o with slots:=f} m j ((aM mT).trans<|by rw[es];rfl) (ns.casesOn λes ep a b c d=>⟨es,ep,a,b,c,d⟩) hh2
   ·exact .mk o m j ((dX mT).trans<|le _ _ _ e) ns hh2,
  λi n e=>(σ.fr.var i n e).casesOn .dQ λc o cv h1 h2 h3 h4 l=> .cell c o cv h1 h2 (lo c .own o h3<|nc n c h2) h4 λv e=>(l v e).imp λ_ q=>⟨q.1,q.2.aG iH⟩⟩
 exact⟨⟨_,υ.A,s,bh,λa o e=>fl a o<|υ.bY a o e,g,os,fr⟩,rfl,rfl,λa b o e q=>lo a b o e λz=>(r6 σ.fr.dQ).elim λo' w=>q (by subst z;cases bL (e.symm.trans w.1);rfl)<|.inl z⟩
end
section
variable{x:Cx}
theorem jv.at(st:jv R l)(m:a∈im l): ∃o,R.kp .own a o:=by
 obtain⟨env,hm,hL⟩:=Sx.mp m
 obtain⟨-,L,o,e,k,-⟩:=st env hm
 cases bL (e.symm.trans hL)
 exact⟨o,k⟩
inductive jR (σ:St x) (K:V->H->Prop) (u:av):bB->Prop
 |mk (φ:St x) (v:V):σ.lo φ->ax φ.R v u->K v φ.A->jR σ K u φ.s
theorem Xy(X:Ex x.T)(D:x.env.frame=U x.env.locals)(nc: ∀n c,x.env.cells.lookup n=U c->c≠x.env.locals)(σ:St x){n:Nat}(c:Ck x.T f fn){y}(τ:St<|c.cx n y ρ)(le:σ.R.le τ.R)(hA:τ.A=σ.A)(n0: ∀b o,¬σ.R.kp b n o)
  (hk:c.fd.scope.names.lookup (eG "BadFont")=U n_.globalImplicit) (sk:jv σ.R [x.env]) (A:Ar.frames=U [callEnvC c.fd n<|bQ f,x.env]) {K} (hK:K .none σ.A)
  (fl:pa τ [callEnvC c.fd n<|bQ f,x.env] e W) {Q:sS->bB->Prop} {E} (hq: ∀l,jR σ K .none l->Q (.ret .none) l):
  aw (M x) Ar (noteFrame (.ref e)<|callEnvC c.fd n<|bQ f) (λ_ h=>aw (M x) Ar (setFlight (.ref e) Y) (λ_ i=>
   aw (M x) Ar (handleBy (.ref e) (callEnvC c.fd n<|bQ f) [.ExceptHandler (U<|.Name "BadFont" q) Y [.Return (U<|.Constant .none kk cp) p1] p2]) Q E i) E h) E W:=pa.casesOn fl λυ bY a0 S l2 hA2 g2 o2 hS R fw us=>by
 have pn:=λa b o q=>l2 a b o (le a b o q)
 refine wpAny_looks_onW A rfl fw λh4 t p=>wpAny_landsW t λZ g w=> ?_
 have j:=us.trans (p.trans w)
 have hX:=X.hX _ _ (LR X.P)
 have N:=υ.bY _ _ hX
 have no: ∀{a:ai} {o},υ.R.kp .own a o->a≠76:=λz m=>qc <|bL (z.symm.trans<|m▸N)
 have hC:=g.1 _ _ (R _ _ (υ.at N) (λm=>(hS _ m).2.elim λo z=>no z rfl) λm=>(((sk.call c τ le).le l2).at m).elim λo z=>no z rfl)
 have ns:Z.Ns (callEnvC c.fd n<|bQ f).globals x.T.g.mg:=by
  exact y.gF▸j.ns (υ.Aq x.T.g.ng)
 refine g.there.elim λoe he=> ?_
 refine wpAny_handleBy_cons (codeAny_handlers_test<|Rt y.kind hk (aV4 ns X.JP ?_)<|by decide+kernel) (by intro z;cases z)
 refine wpAny_excMatches_sub_self hC he.1 he.2 (by decide+kernel) (codeAny_handlers_suite<|lands_againW g λh6 u J=>q8<|wpAny_Return_some<|wpAny_Constant_none<|hq _ ?_)
 exact(St.WO (υ:=c.nP σ υ pn) pn (s:={W with heap:=h6})
  (λa m=>(bC.mp m).elim (λz=>z▸(r6 υ.fr.dQ).imp λo z=>z.1) λm=>(bC.mp m).elim (λz=>z▸(r6 σ.fr.dQ).imp λo z=>pn _ _ _ z.1) λm=>(hS a m).2)
  (λa m T=>(bC.mp m).elim (λz=>z▸n0) λm=>(bC.mp m).elim (λz=>absurd z T) λm b o q=>(hS a m).1 b o<|le a b o q)
  (λb ob eb nm=>u.1 _ _<|R b ob eb (λm=>nm<|.tail _<|.tail _ m) λm=>(Sx.mp m).elim λenv m=>(bC.mp m.1).elim (λz=>nm<|by subst z;cases bL m.2;exact .head _) λhm=>nm<|.tail _<|by cases b_.mp hm;cases bL (D.symm.trans m.2);exact .head _)
  (j.trans J) g2 o2 nc).elim λφ q=>q.1▸⟨φ,.none,q.2.2,.none,q.2.1▸(show υ.A=σ.A from hA2.trans hA)▸hK⟩
end
structure jV(x:Cx)(Ar:cW):Prop where
 ex:Nonempty (Ex x.T)
 gc:mK x.T (al I 100) 400
 rm:d9 402 Ar
 f0:x.env.frame=U x.env.locals
 fr:Ar.frames=U [x.env]
 nc: ∀n c,x.env.cells.lookup n=U c->c≠x.env.locals
section
theorem jV.sk(z:jV x Ar)(σ:St x):jv σ.R [x.env]:=λenv m=>(b_.mp m)▸⟨x.st.kind,_,(r6 σ.fr.dQ).imp λo q=>⟨z.f0,q⟩⟩
theorem aF0(X:Ex x.T)(c:Ck x.T 109 wN)(hb:xb ⟨c.fd.scope.names,c.ns,x.T.G⟩ c.mY)(z:jV x Ar)(σ:St x)(hs:h=0\/h=32769)(r:aV σ.R [b,.int 2,.int 0,.int h] l){K}(p:K .none σ.A):aw (M x) Ar (call (.ref<|bQ 109) l) (jR σ K) N0 σ.s:=by
 refine s_ (xi X.hl c (ms (cm _ _) z.rm.oE) σ.bh σ.bY σ.gens σ.os rfl r λst τ le i own _=>xb.casesOn hb λkc hk=> ?_)
 have rm2:d9 13<|Ar.deeper<|callEnvC c.fd σ.s.heap.objs.size<|bQ 109:=yb (z.rm.oF dd)
 have g:c2 ⟨al I 2,8,_,rm2.oF dd⟩ ⟨c.fd.scope.names,c.ns,x.T.G⟩<|c.cx σ.s.heap.objs.size st [U b,U<|.int 2,U<|.int 0,U<|.int h]:=⟨rfl,rfl,rfl,X.gc⟩
 refine q8 (a40<|q8<|Sp<|MJ g kc τ i (λK=>La.Wq) λφ s l3 hA r3=> ?_)
 have f:=λa b o q=>l3 a b o (le a b o q)
 exact s_ (xC (aM5 (x:=c.cx σ.s.heap.objs.size st [U b,U<|.int 2,U<|.int 0,U<|.int h]) X X.z9.1 X.z9.2 rm2 φ ((z.sk σ).call c φ f) (xG z.fr) hs r3) λr s' q=>tQ.el q λe fl=>
  Xy X z.f0 z.nc σ c φ f hA (λb o q=>bH <|(σ.bh.dm _<|dP _).symm.trans q) hk (z.sk σ) (xG z.fr) p fl λj q=>q)
end
noncomputable abbrev tL:Es:= .cons (.x 2) (.cons (.c<|.int 1)<|.cons (.x 4)<|.cons (.c<|.int 0) .nil)
noncomputable abbrev sD:Es:= .cons (.x 2) (.cons (.c<|.int 2)<|.cons (.c<|.int 0)<|.cons (.x 5) .nil)
section
variable{x:Cx}{K:V->H->Prop}
theorem jR.aG{σ:St<|x.at ρ}{τ:St<|x.at ρ}(l:σ.lo τ)(q:jR τ K u s):jR σ K u s:=jR.casesOn q λφ v m r k=>⟨φ,v,St.lo.trans l m,r,k⟩
theorem al6(z:jV x Ar)(σ:St x)(r:aV σ.R vs a)(h:La.CS 109 vs σ.A K):aw (M x) Ar (call (.ref<|bQ 109) a) (jR σ K) N0 σ.s:=
 h.elim (λh=>bz (Gc z.gc (z.rm.oF dd) r h) (λ_ _ p=>p.casesOn λτ v w l r k=>⟨τ,v,St.kJ l,r,k⟩) λ_ _=>id)
  λq=>q.elim λw q=>q.elim λsc q=>z.ex.elim λX=>aF0 X X.yv.1 X.yv.2 z σ q.1 (q.2.2.1▸r) q.2.2.2
theorem jV.to(z:jV x Ar) ρ:jV (x.at ρ) Ar:=⟨z.ex,z.gc,z.rm,z.f0,z.fr,z.nc⟩
noncomputable abbrev jV.tm(z:jV x Ar):o_:=⟨La.CX,400,Ar,z.rm⟩
theorem Ob(z:jV x Ar)(g:c2 z.tm c x)(k:jE c 109 j a)(he:cU I La.CS j=cU I La.CX j)(σ:St x)(h:(ao I La.CS (.call 109 j) x.ρ).v σ.A K):aw (M x) Ar (aQ a x.env) (jR σ K) N0 σ.s:=
 O_ g k σ (G:=λvs h=>La.CS 109 vs h K) (he▸h) λτ vs ws l r h=>bz (al6 z τ r h) (λ_ _ q=>jR.aG (St.kJ l) q) λ_ _=>id
theorem jE.QB(k:jE c f h a):fF a=aa:=jE.casesOn k λ_ _ _ _=>rfl
theorem al4(z:jV x Ar)(g:c2 z.tm c x)(e:jE c 109 tL a)(k2:jE c 109 sD b)(σ:St x)(h:(ao I La.CS (.tu<|.cons (.call 109 tL)<|.cons (.call 109 sD) .nil) x.ρ).v σ.A K):aw (M x) Ar (aQ (.Tuple [a,b] j pos) x.env) (jR σ K) N0 σ.s:=by
 refine aV5 ?_
 exact pj e.QB▸pj k2.QB▸A3 (bz (Ob z g e rfl σ (K:=λv h=>(ao I La.CS (.call 109 sD) x.ρ).v h λw h=>K (.aj [v,w]) h) h) (λi s1 q=>jR.casesOn q λτ v l r h=>
  A3 (bz (Ob z g k2 rfl τ h) (λf s2 q=>jR.casesOn q λυ w l2 r2 h=>
   Ru ⟨jB<|BD rfl,.mk (υ.keep (gS [i,f] 0) rfl) (.aj [v,w]) (St.lo.trans (St.lo.trans l l2)<|St.kJ<|υ.dS _) (.aj (υ.uc ..)<|.cons ((r.aG<|St.lo.fl l2).aG (υ.dS _).fl)<|.cons (r2.aG (υ.dS _).fl) .nil) h⟩) λ_ _=>id)) λ_ _=>id)
inductive v6 (c:Cc):cj->Prop
 |mk:(oM c.sc .function elts [a1,a2]==U (U names))=aa->(∀(z) x,c2 z c x->zS x names [9,10])->jE c 109 tL a1->jE c 109 sD a2->v6 c (.Assign [.Tuple elts k2 p2] (.Tuple [a1,a2] kk p) pos)
noncomputable def Xw c a:ab<|v6 c a:=Ei a ab.no λe b pos=>gC e ab.no λtg e=>gN e ab.no (kA tg ab.no λelts k2 p2=>kA b ab.no λvs kk p=>gC vs ab.no λf vs=>gC vs ab.no λg vs=>gN vs ab.no (match oM c.sc .function elts [f,g] with
 |U (U names)=>ba ab.no (oM c.sc .function elts [f,g]==U (U names)) λh=>ab.and (Cb c names [9,10]) (ab.and (yl c 109 tL f) (yl c 109 sD g) hH) λq k=>⟨h,q,k.1,k.2⟩
 |_=>ab.no))
theorem aC3:EL (.cons (.x 9)<|.cons (.x 10) .nil) [9,10]:=⟨rfl,λC vs ρ h K hl=>match vs,hl with
 |[_,_],_=>rfl⟩
theorem ad3{ρ A Q}(h:ex I La.CS La.vE ρ A Q):(ao I La.CS (.tu<|.cons (.call 109 tL)<|.cons (.call 109 sD) .nil) ρ).v A λv h=>js h (λl=>match bF l.length 2 with|aa=>Q .next (jX [9,10] l ρ) h|ae=>False) v:=by
 have h:(ao I La.CS (.tu<|.cons (.call 109 tL)<|.cons (.call 109 sD) .nil) ρ).v A λv h=>af I La.CS (.aj<|.cons (.x 9)<|.cons (.x 10) .nil) v ρ h λρ h=>Q .next ρ h:=h
 rw[JS aC3] at h
 exact h
theorem af5(z:jV x Ar)(g:c2 z.tm c x)(b:v6 c a):dj x Ar (hE a x.env)<|ex I La.CS La.vE:=
 v6.casesOn b λhw ha f i ρ σ Q h=>a39 (bz (al4 (z.to ρ) (g.at ρ) f i σ<|ad3 h) (λu s q=>jR.casesOn q λτ v l r k=>by
  have ha:=ha _ _ g
  rw[<-ha.length]
  refine DA z.rm.hd r k λxs hl k υ ws l2 e r2=> ?_
  rw[<-DR [9,10] xs ρ dd hl.symm,<-e] at k
  exact bz (Jv ha.iz xs.reverse ws.reverse ρ υ (by rw[sW,sW];exact hl) r2.iz k) (λ_ _ p=>PA.up (λa b o z n=>l2 a b o<|l a b o z n) p) λ_ _=>id) λ_ _=>id) rfl (g.swap hw)
end
def Sq(p:cj->Prop)(q:List cj->Prop)(l:List cj):Prop:= ∃a r,l=a::r/\p a/\q r
def pT(t: ∀a,ab<|p a)(u: ∀l,ab<|q l) l:ab<|Sq p q l:=gC l ab.no λa r=>ab.and (t a) (u r) λp q=>⟨a,r,rfl,p,q⟩
def O4(c:Cc):List cj->Prop:=Sq (SS c La.Br) (Sq (SS c La.D7)<|Sq (SS c La.FC)<|Sq (SS c La.FT)<|Sq (SS c La.Dv)<|Sq (SS c La.Go)<|Sq (SS c La.DT)<|Sq (v6 c) λr=>NG c q_ r)
def LM c: ∀l,ab<|O4 c l:=pT ((qJ _ _).1 c) (pT ((qJ _ _).1 c)<|pT ((qJ _ _).1 c)<|pT ((qJ _ _).1 c)<|pT ((qJ _ _).1 c)<|pT ((qJ _ _).1 c)<|pT ((qJ _ _).1 c)<|pT (Xw c)<|zI q_ c)
theorem YQ P:(pq LM (KP P) GL 110 FX<|nk 110).b=aa:=by kernel_rfl
section
theorem qF(s:Sq p q l)(h: ∀a,p a->dj x Ar (hE a x.env) f)(k: ∀r,q r->dj x Ar (kQ r x.env) g):dj x Ar (kQ l x.env)<|La.kX f g:=by
 obtain⟨a,r,rfl,b,c⟩:=s
 have:=Qf (h a b) (k r c)
 delta La.kX La.yF
 exact this
theorem U3(z:jV x Ar)(g:c2 z.tm c x)(b:O4 c l):dj x Ar (kQ l x.env) La.CR:=
 have ss: ∀{s:S} a,SS c s a->dj x Ar (hE a x.env) (ex I La.CX s):=λa p=>p z.tm x g
 qF b ss λr b=>qF b ss λr b=>qF b ss λr b=>qF b ss λr b=>qF b ss λr b=>qF b ss λr b=>qF b ss λr b=>qF b (λa b=>af5 z g b) λr b=>b z.tm x g
end
theorem ay1 P:lH (ou P) "BadFont"=U (.ref 76):=by kernel_rfl
noncomputable def Rm.l7(h:cu):Rm:=λa=>(h.get? a).map (.kp .fr)
theorem Rm.Zd(e:(Rm.l7 h).kp b a o):h.get? a=U o:=by
 have e:(h.get? a).map (Rl.kp .fr)=U (.kp b o):=e
 cases q:h.get? a with
 |none=>rw[q] at e;exact bH <|e
 |some p=>rw[q] at e;cases e;rfl
theorem Rm.DU(e:h.get? a=U o):(Rm.l7 h).is a o:=aA (uO<|Rl.kp .fr) e
theorem aG4 h:c4 (Rm.l7 h) La.nH h:=⟨λa b o e=>Rm.Zd e,λa o e=>(bR <|e),λa e=>aA (uO<|Rl.kp .fr) e⟩
theorem Yt(r:nR R f a):wu f= .bool aa->a= .ret (.bool aa):=
 nR.casesOn (motive:=λf w _=>wu f= .bool aa->w= .ret (.bool aa)) r (λe=>j4<|aA sh e) (λe=>j4<|aA sh e) (λe=>j4<|aA sh e) λ{v w} r e=>ax.of (P:=λw=>sS.ret w= .ret (.bool aa)) (pD (motive:=λv=>ax R v w) e r) rfl
theorem Zg P p w(hB: ∀b o,(Hd.H1 P).get? b=U o->s.heap.get? b=U o)(hx:xs.length<=63)(r:ax (Rm.l7 s.heap) (.fl<|vi xs) v)
  (k: ∀s',(∀a o,s.heap.get? a=U o->s'.heap.get? a=U o)->s'.gens=s.gens->s'.os=s.os->Q (.ok<|.ret<|.bool aa) s'):oa (fJ p w) callerA (.call (.ref<|bQ 110) ⟨[v],[]⟩) Q s:=by
 refine Nonempty.elim ((pq LM (KP P) GL 110 FX<|nk 110).2 (YQ P) (rM P p w) rfl rfl) λcb=> ?_
 obtain⟨c,b⟩:=cb
 have rm:d9 410 callerA:=⟨rfl,dd,dd⟩
 refine xi (D_ P) c dd (aG4 s.heap) (λa o e=>Rm.DU<|hB a o e) rfl rfl rfl (.cons r .nil) λst τ le h own nc=> ?_
 have z:jV (c.fx s.heap.objs.size s.gens s.os st<|La.pX xs Y Y Y)<|callerA.deeper<|callEnvC c.fd s.heap.objs.size<|bQ 110:=
  ⟨(pq M5 (KP P) GL 29 wR<|nk 29).2 (Zz P) (rM P p w) rfl rfl|>.elim λzi=>((pq Ht (KP P) GL 30 vP<|nk 30).2 (x30 P) (rM P p w) rfl rfl).elim λz9=>((pq Iw (KP P) GL 109 wN<|nk 109).2 (ag8 P) (rM P p w) rfl rfl).elim λyv=>⟨⟨P,TJ P,D_ P,ay1 P,Fw P p w 2,zi,z9,yv⟩⟩,
   Fw P p w 100,(yb<|rm.oF dd),rfl,xG rfl,nc⟩
 exact bz (U3 z ⟨rfl,rfl,rfl,Fw P p w 100⟩ b _ τ La.PT<|h▸La.av2 hx) (λfl s' q=>PS.casesOn q λi υ f l j g=>Yt j g▸k υ.s (λa o e=>υ.at<|l _ .fr _ (le _ _ _<|Rm.DU e) λz=>fX z) υ.gens υ.os) λ_ _ q=>q.elim
noncomputable def JR(P:cP)(h:cu)(v:av)(d:WData):Prop:=match d with
 |.int i=> ∃t,v= .int i t
 |.list xs=> ∃a vs,v= .ref a/\h.get? a=U (cz vs 0)/\Hl P h vs xs
 |_=>True
theorem Qq(x:Well P h v d):JR P h v d:=Well.casesOn (motive_1:=λv d _=>JR P h v d) x tI (λ_=>tI) (λ_ t=>⟨t,rfl⟩) (λ_ _=>tI) (λ_ _=>tI) (λ_ _=>tI) (λ_=>tI) (λe w=>⟨_,_,rfl,e,w⟩) (λ_ _=>tI) (λ_ _=>tI) (λ_ _ _ _=>tI) (λ_ _ _ _=>tI) λ_ _ _ _=>tI
theorem Lh(x:Hl P h vs []):vs=[]:=by cases x;rfl
theorem aN9{xs:List Int}(x:Hl P h vs<|ofPys<|xs.map .int):aV R (vi xs) vs:=by
 induction xs generalizing vs with
 |nil=>exact Lh x▸ .nil
 |cons i r ih=>
  exact(a49 x).elim λv e=>e.elim λws e=>(Qq e.2.1).elim λt q=>e.1▸q▸ .cons (.int _ _) (ih e.2.2)
theorem T0{xs:List Int}(x:Hl P h vs [ofPy<|.list<|xs.map .int]): ∃v,vs=[v]/\ax (Rm.l7 h) (.fl<|vi xs) v:=
 (a49 x).elim λv e=>e.elim λws e=>(Qq e.2.1).elim λa q=>q.elim λus q=>⟨v,Lh e.2.2▸e.1,q.1▸ .fl (Rm.DU q.2.1) (aN9 q.2.2)⟩
theorem ay6 P:(Dt P).mg Hd.dl.name=U (.ref<|bQ 110):=by kernel_rfl
set_option tactic.hygienic true in
set_option maxHeartbeats 0 in
theorem T5{a b:ai}(e:U (q7 a)=U (.ref b)):a=b:=by cases e;rfl
theorem ai6{e f:Array jj}{n m:Nat}(h:Data.dict e n= .dict f m):e=f:=by cases h;rfl
theorem aP8{h h':cu}{m j:Str->Option av}(A:h.Ns a m)(B:h'.Ns a j)(Yqv: ∀b o,h'.get? b=U o->h.get? b=U o)(k):m k=j k:=by
 obtain⟨o1,e,i,c,f,_,a4⟩:=A
 obtain⟨o2,g,l,b1,b2,_,b4⟩:=B
 rw[<-a4,<-b4,ai6<|(f.symm.trans<|congrArg _<|Option.some.inj<|c.symm.trans<|Yqv _ _ b1).trans b2]
theorem T7{a}(hpre:Hd.jt.row.claim.pre a=aa)(hlay:WData.layableAll a=aa): ∃xs:List Int,a=[ofPy<|.list<|xs.map .int]/\xs.length<=63:=by
 have b:=(pre_splitW hpre).1
 have hcond:=(pre_splitW hpre).2
 clear hpre
 wrow_hasAll b hlay
 refine⟨_,rfl,?_⟩
 w_cond hcond
 rename_i h1 h2
 exact bT.mp (fH.mp h1)
theorem VJ:Hd.jt.row.wellSaid=aa->Hd.jt.row.Holds:=λi=>Hd.au i (by
 intro w f s₁ mg mb G Yqv q o pm y doc u t _ _ _ _ b p args vals as hpre hlay _ c _
 have e2:=T5 (b.symm.trans<|(aP8 G.T.g (Dt w.params).ng Yqv _).trans<|ay6 w.params)
 have e3:=T7 hpre hlay
 clear b G hpre hlay
 subst e2
 obtain⟨xs,e,hlen⟩:=e3
 subst e
 obtain⟨v,e,r⟩:=T0 c
 subst e
 refine s_ (Zg w.params Hd.jt.row.prog w (s:=s₁) Yqv hlen r λs' g l j=> ?_)
 refine GoodW.toG ⟨.inl ⟨_,_,_,rfl,λ_=>rfl,.bool aa,?_,λh=> ?_⟩,g,j,l.trans p⟩
 ·wrow_post
 ·exact⟨Sw,λa ha=>by cases ha⟩
 )
theorem UP(h:(a&&b)=aa):a=aa/\b=aa:=fG.mp h
theorem iu(h:(a&&b)=aa):a=aa:=(UP h).1
theorem ap9{l:OpenLaw}(h:l.wellSaid=aa):l.row.wellSaid=aa:=iu <|iu <|iu <|iu <|iu <|iu <|iu <|iu <|iu <|iu <|iu <|iu <|iu <|iu <|iu <|iu <|iu <|iu <|h
end c6
section
open PySem PySem.W
theorem PySem.Challenge.cw_sq0083_01_holds : PySem.Challenge.rw_sq0083_01.Holds :=
 ⟨c6.w2,c6.VJ<|c6.ap9 c6.w2⟩
end
end
