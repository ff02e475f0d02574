import PyProof.Rows.All
import PySem.Value
import PyProof.Calls
import PyProof.RulesTry
import PyProof.CallFns
import PyProof.ForAny
import PyProof.CompUse
import PyProof.StrWalks
import PyProof.CollectIter
import PyProof.CompFree
import PyProof.DictItemsLoops
import PyProof.DictWalks
import PyProof.EnumMake
import PyProof.WalksMore
import PyProof.IsiHeapPairs
import PyProof.IsiPairs
import PyProof.ListStr
import PyProof.MaxThree
import PyProof.Rows.TupAssign
import PyProof.Rows.RuleN_abs
import PyProof.Rows.Walk
import PyProof.RulesAssignMore
import PyProof.TupleOfStr
import Wide.BytesRules
import KE.BytesMake
import KE.LcSums
import KE.KBytesWalk
import KE.KDictSum
import KE.KDictOf
import KE.KTupSum
import Wide.FinOn
import OpenK.AllK
import Wide.All
import PySem.Challenge.RW_sq0083_01
set_option Elab.async false
set_option linter.all false
set_option genSizeOf false
set_option genSizeOfSpec false
set_option genInjectivity false
set_option genCtorIdx false
set_option tactic.hygienic false
set_option maxRecDepth 100000
set_option bootstrap.genMatcherCode false
noncomputable section
namespace c6
universe u v
theorem aA{α:Sort u}{β:Sort v}{a₁ a₂:α}(f:α->β)(h:a₁=a₂):f a₁=f a₂:=congrArg f h
theorem aE{c:Prop}{h:Decidable c}(hnc:¬c){α:Sort u}{t e:α}:ite c t e=e:=if_neg hnc
theorem aM{c:Prop}{h:Decidable c}(hc:c){α:Sort u}{t e:α}:ite c t e=t:=if_pos hc
end c6
open c6
open And renaming intro->hq
open Array renaming getElem?_toList->sW,length_toList->sX,mem_toList_iff->A0,mk->lC,size_map->a11,toArray_toList->a10
open Bool renaming and_eq_true_iff->fT,and_true->aT3,false->ae,false_eq_true->a04,false_ne_true->A2,or_eq_true_iff->xj,true->aa
open Classical renaming em->GU,not_not->GI
open Decidable renaming byCases->xm
open Eq renaming subst->pz
open False renaming elim->AN
open ForInStep renaming yield->Hc
open Inhabited renaming default->QV
open Int renaming add_assoc->gp,add_comm->iu,add_le_add->fS,add_le_add_left->fG,add_le_add_right->g8,add_lt_add_left->Rg,add_mul->Q6,add_mul_ediv_left->Q5,add_mul_ediv_right->aR0,add_mul_emod_self_right->aR1,add_nonneg->GH,add_sub_cancel->mn,add_zero->eZ,ediv_ediv_of_nonneg->sR,ediv_eq_zero_of_lt->GD,ediv_le_ediv->uN,ediv_le_self->Q4,ediv_nonneg->xk,ediv_one->GE,emod_add_mul_ediv->Q7,emod_def->aQ8,emod_eq_of_lt->xl,emod_lt_of_pos->qQ,emod_nonneg->pr,eq_ofNat_of_zero_le->GM,fdiv_eq_ediv_of_nonneg->aU0,le_add_of_nonneg_left->GG,le_add_of_nonneg_right->n6,le_add_one->aQ4,le_antisymm->qP,le_of_eq->aT2,le_of_lt->eR,le_of_lt_add_one->iO,le_refl->aU,le_sub_one_of_lt->aQ1,le_trans->az,lt_add_of_pos_right->aQ7,lt_add_one_of_le->aR2,lt_of_le_of_lt->g7,lt_of_lt_of_le->jB,lt_trans->AR,mul_add->qT,mul_assoc->qS,mul_ediv_add_emod->GF,mul_le_mul->GA,mul_le_mul_of_nonneg_left->pA,mul_le_mul_of_nonneg_right->aR7,mul_le_mul_of_nonpos_left->aR6,mul_nonneg->AQ,mul_zero->Q8,natAbs_of_nonneg->aT7,natCast_add->qU,natCast_nonneg->du,natCast_succ->R7,natCast_zero->G4,ne_of_gt->pu,ne_of_lt->aQ2,neg_le_neg->Gz,not_le->n3,not_lt->fF,ofNat_le->bS,ofNat_lt->mm,ofNat_natAbs_of_nonpos->aT8,one_mul->aS7,pow_succ->aS8,sub_add_cancel->Re,sub_le_self->aR5,sub_le_sub->xi,sub_le_sub_right->Rc,sub_pos_of_lt->a03,sub_self->aS1,sub_zero->a00,toNat_le->uV,toNat_le_toNat->aS9,toNat_lt->aV6,toNat_natCast->aV7,toNat_of_nonneg->Rf,zero_add->qR,zero_mul->Ra
open Int.le renaming dest->Q_
open Int.ofNat renaming inj->aT0
open LawfulBEq renaming eq_of_beq->c9
open List renaming all_eq_true->A3,any_toArray->RC,append_assoc->aX,append_nil->c8,append_toArray->aT9,casesOn->uO,cons_append->Rb,contains_iff_mem->Bh,drop_eq_nil_of_le->aZ4,drop_left->aQ6,drop_nil->RJ,drop_zero->aX7,filterMap_cons->RN,forIn_cons->aX2,getD_eq_getElem?_getD->Sf,getElem?_append_right->aV8,getElem?_eq_getElem->G9,getElem?_map->GV,getElem?_toArray->u1,isEmpty_iff->Sl,length->aS2,length_append->aC,length_cons->eT,length_drop->RR,length_map->bN,length_nil->j2,length_replicate->GK,length_reverse->sU,length_singleton->aS0,length_take_of_le->A7,lookup->G1,lookup_cons->pE,map_append->qW,map_congr_left->aW9,map_cons->kK,map_map->AU,map_reverse->aR8,mem_append->pB,mem_append_right->GJ,mem_cons->bB,mem_cons_of_mem->Gy,mem_cons_self->xg,mem_filterMap->Sp,mem_map->AS,mem_of_mem_drop->aS4,mem_of_mem_take->aS3,mem_singleton->b9,mem_toArray->RB,nil_append->aR9,nodup_append->AV,nodup_cons->lF,nodup_nil->So,of_mem_zip->RQ,range->u2,rec->QW,replicate->gn,reverse_cons->pv,reverse_reverse->aS6,size_toArray->j4,sum_cons->aR3,take_append_drop->aX4,take_left->aQ5,take_length->RP,take_nil->RI,take_sublist->aY0,zip_append->RO,zip_cons_cons->G0
open List.cons renaming inj->aT4
open Nat renaming add_assoc->cG,add_comm->c4,add_le_add->gM,add_le_add_left->eG,add_le_add_right->cK,add_right_comm->Q3,add_sub_of_le->RS,beq->bE,beq_refl->AP,ble->eY,blt->j5,eq_of_beq_eq_true->jh,le_add_left->uQ,le_add_right->cg,le_antisymm->aZ5,le_mul_of_pos_left->aQ9,le_of_add_le_add_right->aR4,le_of_ble_eq_true->d5,le_of_eq->jC,le_of_lt->uU,le_of_lt_succ->GN,le_of_succ_le->lD,le_of_succ_le_succ->uT,le_refl->dO,le_succ->jj,le_succ_of_le->uR,le_trans->ak,lt_add_of_pos_right->Rd,lt_irrefl->RM,lt_of_le_of_lt->mo,lt_of_succ_lt_succ->xh,lt_succ_of_le->aT1,lt_succ_of_lt->Sg,lt_succ_self->n5,min_eq_left->GC,mul_le_mul_left->ji,mul_succ->py,ne_of_gt->RX,ne_of_lt->jE,not_lt->Rh,not_lt_zero->Gx,not_succ_le_zero->Q9,rec->Gv,sub_eq_zero_of_le->aX6,sub_le_of_le_add->aX3,sub_self->aV9,sub_sub_right->aX5,sub_sub_self->aX8,succ_le_succ->cf,succ_lt_succ->GB,succ_ne_self->s_,succ_ne_zero->aS5,succ_pos->sS,zero_add->gK,zero_le->j3,zero_lt_succ->aQ3
open Nat.succ renaming inj->pC
open Ne renaming symm->AT
open Option renaming isNone_iff_eq_none->aX1,isSome->Ry,isSome_iff_exists->u4,map->uM,map_eq_some_iff->aZ8,none->Y,some->U
open Option.some renaming inj->bM
open Prod.mk renaming inj->c7
open Pure renaming pure->cF
open PyProof renaming noPylong_small->aU1
open PyProof.Rows renaming Assign_Tuple_swapped->a19,IntsAre->xB,Subscript_->RG,getMethod_list_of->R3,isnot_none_gen->aV0,slot_tuple_getitem->aW5,subscriptTail->RF
open PySem renaming Addr->ai,Around->cV,Builtin->iR,DictEntry->jg,Flow->sQ,GenState->Q1,Heap->ct,IsEnum->R8,IsPart->xw,ItemsOf->pG,NameKind->n8,OsState->ml,Pairs->aU9,Params->cO,Program->qN,Result->u5,Shared->bA,Stmt->cr,Value->au,Walks->u9,World->kJ,allTrue->xu,argBest->xA,assign->Hb,assignEach->pH,assignInOrder->a13,attributeBase->xv,backTo->eU,behindInMarks->xr,binaryOp->Rp,boolOp->A5,builtinsNs->AX,cLine->qY,callWith->u6,call_meets->G2,cellOf->Sk,cellsFrom->A8,checkBuiltinCall->R9,clipAt->A6,codeAny->n9,codeAny_builtin->a06,codeAny_call_function->aY1,codeAny_mono->xy,compEnvC->lH,compareOp->uY,concat_meets->Rq,eval->aQ,evalPart->GY,evalPart_none->aW7,exec->hg,execs->kM,foldedSetIterable->Bf,getAttr->Rx,getItem->mq,getMethod->xz,getMethod_builtin->aZ2,holding->iQ,importedModules->aQ0,intItems->lG,intItems_at->G_,isSubtype_type->a05,leaving->RU,letOwnedTupleGo->G3,list_append->aY7,mainGlobals->uL,markedBehindIn->aV1,markedBehindIn_of_false->aV2,methodCallForm->aZ0,methodCallPos->aZ1,model->fH,noFill_tuple_add->Rr,nsFind->lE,numAt->gq,operate->xq,pairTrees_cons_walk->aX0,pastItsLine_dict->aU3,plainId_quiet->Sd,pyIter->jF,pyNext->A_,rawInt->Ba,recursionLimit->GT,refuseLoop_ref->a27,relabel->Bg,release->xp,seq_tuple_add->Rs,setItem->xx,sizeLine->jD,sizeLine_eq->AZ,slot_list_iter->a14,slot_list_setitem->a17,spliced->iP,standAt->uZ,starEach->eV,stored->GZ,subscripted->RE,swappedStores->Bc,swapsWith->Sj,swapsWithSole->a18,sysModules->kL,treeTable->AL,truthy->xt,unsupported->Se,valueAt->Rz,wpAny->aw,wpAny_Call_NameR->u7,wpAny_Constant_int->Rk,wpAny_Name->GP,wpAny_Return_some->Si,wpAny_Try_except->a20,wpAny_Tuple_spliced->aT6,wpAny_UnaryOp->aV3,wpAny_allTrue_And_cons->aV4,wpAny_allTrue_Or_cons->aV5,wpAny_assignInOrder_more->a16,wpAny_assignInOrder_none->a15,wpAny_assign_Name->Sh,wpAny_bind->aF,wpAny_call->s8,wpAny_callSpecial?_slot->RL,wpAny_call_entry->GX,wpAny_comprehension_free->a21,wpAny_execs_cons->q5,wpAny_execs_nil->Be,wpAny_field->G5,wpAny_getItem_list_slice->aW6,wpAny_holding->e7,wpAny_isSubtype_exc->He,wpAny_letTemporaryGo->RH,wpAny_load->RA,wpAny_loadName_local->GQ,wpAny_loadPart'->R_,wpAny_loadPart_at->u_,wpAny_lookBehind->aU4,wpAny_madeBy_exc->a23,wpAny_mono->bx,wpAny_newFunctionEnv_cells->aY2,wpAny_newObj_type->u3,wpAny_of_eq->RT,wpAny_pure->bV,wpAny_pyIter_list->R4,wpAny_pyIter_tuple->R5,wpAny_seqItems->RV,wpAny_sequenceKey->aW4,wpAny_setField_rec->G6,wpAny_specialOf->aW2,wpAny_standAt->jk,wpAny_truthy_bool->pD,wpAny_typeOf->Sc,wpAt_bind->a24,wpAt_of_wpAny->a25
open PySem.Around renaming frames_deeper->xC,under_plainId->a07
open PySem.Builtin.List renaming listExtendWith->Sb
open PySem.Builtin.Range renaming rangeFitsLong->a02,rangeSize->Bb,small->aZ9
open PySem.Builtin.Slice renaming sliceAdjust->RK,sliceApplied->aW3,slicePlaces->GW
open PySem.Builtin.Tuple renaming tupleExact->a09
open PySem.Calls renaming Name_function_global->Rn,callWith_builtin->RY,evalArgs_plain->aY3,loadGlobal_global->aT5,spliced_cons->AY,spliced_nil->Ro
open PySem.Challenge renaming rw_sq0083_01->Q2
open PySem.Code renaming body->AK,quiet_builtin->a26
open PySem.Data renaming seq->G8
open PySem.DictEntry renaming refKey->aU2
open PySem.F renaming args_list_append_2->aY6,args_tuple_add_2->Rv,entry_dict_get->aY9,entry_list_append->aY5,entry_tuple_add->Ru,plainAttrs_dict->aZ3,plain_list_iadd->a08,slot_dict_get->R2,slot_dict_items->a12,slot_enumerate_next->a01,slot_list_append->R0,slot_list_extend->aY4,slot_list_pop->aY8,slot_tuple_add->Rt
open PySem.Heap renaming CodeRec->a22,SameBut->sV,get?_none_of_le->RW,get?_push_of_some->eA,get?_push_size->g_,get?_update_ne->a28,get?_update_self->uW,lt_size->g9,size_push->s9
open PySem.Heap.IsSliceOf renaming new->aW8
open PySem.Heap.SameBut renaming update->A1
open PySem.IsRange renaming new->Sa
open PySem.NameKind renaming cell->aX9,free->n_
open PySem.Obj renaming mapSeq->u8,putNameByArray->GS,putName_eq->GR
open PySem.PyData renaming keyHash->aP9
open PySem.SeqAt renaming EqAt->xn,RcAt->uX,RcNeAt->xo
open PySem.SeqAt.EqAt renaming int_int->aU8
open PySem.SeqAt.RcAt renaming lists->aU6
open PySem.SeqAt.RcNeAt renaming lists->aU7
open PySem.Str renaming ofString->eF
open PySem.Value renaming bytes->aU5,int->s7,isInt->A4,ref->q4,type->G7
open PySem.W renaming Frag->n7,SharedT->QX,WellAll->Hf,behindTheImports->AM,boot_drawn->QY,boot_heap->qO,boot_o_0->AH,boot_o_2->AI,boot_toks->QZ,copiedNames->Rj,emptyDict->A9,findIn->hZ,keepIn->qX,lookIn->Rw,looks_findIn->RZ,specialIn->Ri,takerIn->GO,topFrame->uK,topStub->Q0,typeIn->AW,typeIs_bytes->qZ,wellAll_cons_inv->a29
open PySem.W.FB renaming args_bytes_getitem_2->aW1,entry_bytes_getitem->aW0,slot_bytes_getitem->RD
open PySem.W.Fast renaming te14364793385576792824->Gw,tw14364793385576792824->AJ
open PySem.W.KBw renaming pyIter_bytes->aZ6,walks->aZ7
open PySem.Walks renaming tuple->R6
namespace Hd
set_option maxHeartbeats 0
open PySem PySem.W
noncomputable abbrev N:=BT.node
noncomputable abbrev Z:=BT.nil
noncomputable abbrev r(a:Nat):au:= .ref a
noncomputable abbrev iv(i:Int)(t:Nat):au:= .int i t
noncomputable abbrev st(s:String)(t:Nat):au:= .str (eF s) t
noncomputable abbrev E(P:cO)(s:String)(t:Nat)(v:au):jg:=⟨aP9 P<|eF s,.str (eF s) t,v⟩
noncomputable abbrev tu(l:List au):Obj:=⟨.type "tuple",Y,.seq l.toArray 0,#[]⟩
noncomputable abbrev co(l:List au):Obj:=⟨.type "code",Y,.fields l.toArray,#[]⟩
noncomputable abbrev fl(l:List au):Obj:=⟨.none,Y,.fields l.toArray,#[]⟩
noncomputable def pw:qN:=PySem.Challenge.pw_sq0083_01
noncomputable def ah:List cr->Nat->cr
 |s::_,0=>s
 |_::l,n+1=>ah l n
 |[],_=> .Pass ⟨0,0,0,0⟩
def sa(i:Nat):cr:=ah pw.main.body i
noncomputable def tX{α:Type}(s:cr)(no:α)(f:Str->Arguments->List cr->Scope->Pos->α)(c:Str->List cr->List Str->α):α:=match s with
 |.FunctionDef n a b _ _ _ sc _ _ p=>f n a b sc p
 |.ClassDef n _ _ b _ _ _ _ _ l _=>c n b l
 |_=>no
def TP(s:cr)(j:Nat):cr:=tX s s (λ_ _ _ _ _=>s) λ_ b _=>ah b j
def sm(i j:Nat):cr:=TP (sa i) j
def fo(cls:au)(s:cr)(i:Str)(g:Nat)(d kd doc m h j:au)(b:Nat):Obj:=tX s QV (λn a body sc _=>⟨cls,Y,.func {name:=n,qualname:=i,params:=a,body:= .stmts body,scope:=sc,globals:=g,closure:=[],defaults:=d,kwdefaults:=kd,doc:=doc,pyModule:=m,annotations:=Y,code:=h,closureTuple:=j,builtins:=b},#[]⟩) λ_ _ _=>QV
def m0:au:=st "__main__" 164
def m1:au:=st "gluepage.errors" 194
def m2:au:=st "gluepage.scaled" 320
def m3:au:=st "gluepage.fonts" 468
def m4:au:=st "gluepage.tfm" 711
def m5:au:=st "gluepage.nodes" 863
def m6:au:=st "gluepage.boxops" 1107
def m7:au:=st "gluepage.packing" 1127
def m8:au:=st "gluepage.dvi" 1261
def m9:au:=st "gluepage.dviread" 1695
def pY:au:=st "gluepage.ligkern" 1991
def jf:au:=st "law_sq0083_01" 2116
def T:Obj:=tu []
noncomputable def H6:Nat->List String->List au
 |_,[]=>[]
 |t,s::l=>st s t::H6 (t+1) l
noncomputable def ub:Nat->List Int->List au
 |_,[]=>[]
 |t,i::l=>iv i t::ub (t+1) l
def cu(t:Nat):au:=st "/claim/cut.py" t
def oo(s:cr):Str:=tX s "" (λn _ _ _ _=>n) λn _ _=>n
def aF3(s:cr):Nat:=tX s 0 (λ_ a _ _ _=>a.args.length) λ_ _ _=>0
def JN(s:cr):List Str:=tX s [] (λ_ _ _ _ _=>[]) λ_ _ l=>l
noncomputable def zC(s:cr):Int:=s.pos.line
def i0:au:=iv 0 0
def yg(n q:Str)(t:Nat)(h:Int)(ar:Nat)(k:Int)(b:Bool)(a c:Nat)(v w u:au)(e:Nat):Obj:=
 co [.str n t,.str q<|t+1,cu<|t+2,iv h 0,iv ar 0,i0,i0,iv k 0,r a,.bool b,iv 181 0,r c,.none,v,w,u,iv e 0,iv h 0,cu<|e+1]
noncomputable def fn(s:cr)(q:Str)(a t:Nat)(m d:au)(nm:List String):List Obj:=
 let f:=λb v w e=>[fo .none s q 0 .none .none .none .none .none .none 0,yg (oo s) q t (zC s) (aF3 s) 3 aa a (a+1) v w (r b) e,fo (.type "function") s q 3 d .none .none m (r<|b+1) .none 0]
 T::fl []::match nm with
 |[]=>f (a+2) .none .none (t+3)
 |_=>tu (H6 (t+3) nm)::T::f (a+4) (r<|a+2) (r<|a+3) (t+3+nm.length)
def s(a:Nat)(l:List Obj)(x:Nat):Obj:=QW (motive:=λ_=>Nat->Obj) (λ_=>T) (λo _ h i=>Gv o (λj _=>h j) i) l (x -a)
noncomputable def b(k:Nat)(f g:Nat->Obj)(x:Nat):Obj:=cond (eY k x) (g x) (f x)
def f(i a t:Nat)(m d:au)(nm:List String):Nat->Obj:=s a (fn (sa i) (oo<|sa i) a t m d nm)
def g(i j a t:Nat)(m d:au)(nm:List String):Nat->Obj:=s a (fn (sm i j) (oo (sa i)++(".":Str)++oo (sm i j)) a t m d nm)
noncomputable def bi(s:String)(v:au):Obj:=⟨.type "builtin_function_or_method",Y,.fields #[.builtin s,v],#[]⟩
def gs(s:String)(t:Nat)(c:Nat)(u v:au):Obj:=⟨.type "getset_descriptor",Y,.fields #[st s t,r c,u,v],#[]⟩
noncomputable def di(l:List jg)(k:Nat):Obj:=⟨.type "dict",Y,.dict l.toArray k,#[]⟩
def fr(a b:Nat)(m:au):Obj:=⟨.type "frame",Y,.plain,#[U<|r a,U<|r 3,U<|r b,Y,U m,Y,U<|r 0]⟩
def q6(n:Str)(z t:Nat)(bs a sub:List au)(x:Option au)(h:String):Obj:=⟨.type "type",Y,.cls ⟨n,bs,r (z+2)::a,z+1,n,aa,[],sub,ae,Y,ae⟩,#[x,Y,U<|.str n<|t -2,U<|.str n<|t+6,U<|.builtin h,U<|.bool aa]⟩
noncomputable def ce(P:cO)(s:cr)(z w:Nat)(h:List jg)(d:jg)(k:Nat)(o:Obj):List Obj:=
 [di (h++d::match k with
  |0=>[E P "__dict__" (w+2)<|r<|z+3,E P "__weakref__" (w+4)<|r<|z+4,E P "__doc__" (w+5) .none]
  |1=>[E P "__doc__" (w+1) .none]
  |_=>[E P "__weakref__" (w+2)<|r<|z+3,E P "__doc__" (w+3) .none]) (match k with|0=>4|1=>2|_=>3),o]++(match k with
  |0=>[gs "__dict__" (w+1) (z+2) (.builtin "function.__dict__")<|.builtin "function.__dict__#set",gs "__weakref__" (w+3) (z+2) (.builtin "ExceptionGroup.__weakref__") .none]
  |1=>[]
  |_=>[gs "__weakref__" (w+1) (z+2) (.builtin "ExceptionGroup.__weakref__") .none])++[⟨.type "super",Y,.fields #[r<|z+2,r<|z+2,r<|z+2],#[]⟩,bi "object.__init_subclass__"<|r<|z+2]
def cc(P:cO)(i a z t u:Nat)(m:au)(k:Nat)(bs:List au)(o:Obj)(x:List jg)(y:List<|Nat×Nat×Nat):(Nat->Obj)×(Nat->Obj):=
 let b:=sa i
 let n:=oo b
 let j:=zC b
 let w:=u+(JN b).length
 let hd:=E P "__module__" (t+5) m
 let ln:=E P "__firstlineno__" (t+9) (iv j<|t+8)
 let h:=x++y.map λp=>⟨aP9 P<|oo<|sm i p.1,.str (oo<|sm i p.1) p.2.1,r p.2.2⟩
 let l:=E P "__static_attributes__" w (r z)
 (s z<|tu ((JN b).zipIdx.map λp=> .str p.1<|u+p.2)::ce P b z w (hd::ln::h) l k o,
  s a [tu bs,bi "type.__prepare__"<|.type "type",di (hd::E P "__qualname__" (t+7) (.str n<|t+6)::ln::(h++[l]))<|h.length+4,T,fl<|y.flatMap λp=>[iv (zC<|sm i p.1) 0,iv 4 0,r<|p.2.2 -1],yg n n t j 0 0 ae (a+3) (a+4) .none .none .none<|t+3,fr (a+5) (a+2) m])
def c(P:cO)(i a z t u:Nat)(m:au)(x:List jg)(h:List<|Nat×Nat×Nat):(Nat->Obj)×(Nat->Obj):=
 cc P i a z t u m 0 [] (q6 (oo<|sa i) z t [.type "object"] [.type "object"] [] Y "object.__new__") x h
def e(P:cO)(i a z t:Nat):(Nat->Obj)×(Nat->Obj):=
 cc P i a z t (t+10) m1 1 [r 39] (q6 (oo<|sa i) z t [r 39] [r 39,.type "ValueError",.type "Exception",.type "BaseException",.type "object"] [] (U<|r a) "ValueError.__new__") [] []
def w(a t:Nat)(l:List Int):Nat->Obj:=
 s a [tu<|ub t l,⟨.type "tuple_iterator",Y,.fields #[.none,iv l.length 0],#[]⟩,T,⟨.type "StopIteration",Y,.fields #[r<|a+2,.none,.none,.none,.bool ae,.none],#[]⟩]
def yp(k:Nat):Obj:=q6 "PageError" 37 198 [.type "ValueError"] [.type "ValueError",.type "Exception",.type "BaseException",.type "object"] (([r 52,r 64,r 76,r 88,r 100,r 112]:List au).take k) (U<|r 22) "ValueError.__new__"
def TV:List au:=([(0,20),(2,27),(3,48),(4,60),(5,72),(6,84),(7,96),(8,108),(15,124),(16,131),(17,138),(18,145),(19,152),(20,159),(21,166),(22,173),(31,238),(32,245),(33,252),(34,259),(35,266),(36,273),(37,280),(38,287),(41,381),(42,388),(43,393),(44,398),(45,403),(46,410),(47,417),(48,424),(49,431),(50,439),(51,446),(52,453),(53,460),(61,491),(62,498),(63,519),(64,539),(65,560),(66,579),(67,584),(68,589),(69,596),(70,603),(73,608),(74,615),(78,630),(79,637),(80,644),(81,651),(82,658),(83,665),(84,672),(85,679),(86,686),(87,693),(88,700),(89,708),(102,745),(103,752),(104,759),(105,766),(106,771),(107,778),(108,785),(109,827),(110,834),(111,911),(112,916),(113,921),(114,928),(115,935),(116,942),(119,984),(120,1026),(121,1068),(122,1089),(123,1094),(124,1101),(125,1108),(126,1115),(127,1122),(128,1129),(129,1136),(130,1143),(131,1148),(132,1155),(133,1160),(134,1167),(138,1175),(139,1182),(140,1201),(141,1208),(142,1215),(143,1222),(144,1230),(147,1238),(148,1245),(149,1252),(150,1259),(151,1264),(152,1271),(153,1278),(154,1283),(155,1290),(156,1295)]:List<|Nat×Nat).flatMap λp=>[iv (zC<|sa p.1) 0,i0,r p.2]
def yf(k:Nat):Obj:=fl (TV.take k)
def LS(P:cO):(Nat->Obj)×(Nat->Obj):=cc P 2 22 37 198 217 m1 2 [.type "ValueError"] T [] [(0,216,36)]
def Iw(P:cO):(Nat->Obj)×(Nat->Obj):=e P 3 43 50 226
def LU(P:cO):(Nat->Obj)×(Nat->Obj):=e P 4 55 62 242
def KR(P:cO):(Nat->Obj)×(Nat->Obj):=e P 5 67 74 258
def NJ(P:cO):(Nat->Obj)×(Nat->Obj):=e P 6 79 86 274
def Ml(P:cO):(Nat->Obj)×(Nat->Obj):=e P 7 91 98 290
def Jd(P:cO):(Nat->Obj)×(Nat->Obj):=e P 8 103 110 306
def I7(P:cO):(Nat->Obj)×(Nat->Obj):=c P 22 168 217 403 457 m2 [] [(0,419,181),(1,427,188),(2,435,195),(3,442,202),(4,449,209),(5,456,216)]
def Ox(P:cO):(Nat->Obj)×(Nat->Obj):=c P 38 282 369 581 690 m3 [] [(0,605,298),(1,613,305),(2,621,312),(3,629,319),(4,637,326),(5,645,333),(6,654,340),(7,663,347),(8,672,354),(9,680,361),(10,689,368)]
def IG(P:cO):(Nat->Obj)×(Nat->Obj):=c P 62 493 507 940 960 m5 [E P "kind" 950<|iv 0 865] [(1,959,506)]
def LR(P:cO):(Nat->Obj)×(Nat->Obj):=c P 63 514 527 972 989 m5 [E P "kind" 982<|iv 1 866] [(1,988,526)]
def KV(P:cO):(Nat->Obj)×(Nat->Obj):=c P 64 534 548 1004 1026 m5 [] [(0,1025,547)]
def JQ(P:cO):(Nat->Obj)×(Nat->Obj):=c P 65 555 569 1045 1065 m5 [E P "kind" 1055<|iv 5 870] [(1,1064,568)]
def J4(P:cO):(Nat->Obj)×(Nat->Obj):=c P 108 780 815 1393 1445 m8 [] [(0,1410,793),(1,1418,800),(2,1430,807),(3,1444,814)]
def P_(P:cO):(Nat->Obj)×(Nat->Obj):=c P 110 829 899 1465 1559 m8 [] [(0,1483,842),(1,1491,849),(2,1500,856),(3,1508,863),(4,1516,870),(5,1525,877),(6,1536,884),(7,1548,891),(8,1558,898)]
def Px(P:cO):(Nat->Obj)×(Nat->Obj):=c P 116 937 968 1634 1679 m8 [] [(0,1653,951),(1,1668,960),(2,1678,967)]
def M7(P:cO):(Nat->Obj)×(Nat->Obj):=c P 119 979 1014 1705 1754 m9 [] [(0,1722,992),(1,1733,999),(2,1743,1006),(3,1753,1013)]
def JR(P:cO):(Nat->Obj)×(Nat->Obj):=c P 120 1021 1056 1766 1808 m9 [] [(0,1782,1034),(1,1789,1041),(2,1796,1048),(3,1807,1055)]
def Pr(P:cO):(Nat->Obj)×(Nat->Obj):=c P 121 1063 1077 1828 1847 m9 [] [(0,1846,1076)]
def KU(P:cO):(Nat->Obj)×(Nat->Obj):=c P 139 1177 1189 2022 2038 pY [] [(0,2037,1188)]
def lo(P:cO):Nat->Obj:=b 646 (b 327 (b 168 (b 86 (b 43 (b 29 (b 15 (s 0 [AH P,boot_o_1 P,AI P,T,boot_o_4 P,boot_o_5 P,boot_o_6 P,boot_o_7 P,boot_o_8 P,boot_o_9 P,boot_o_10 P,T,T,yg "<module>" "<module>" 182 1 0 0 ae 11 12 .none .none .none 185,fr 13 3 m0])<|b 22 (f 0 15 187 m0 .none ["k"])<|(LS P).2)<|b 30 (s 29 [tu [(st "" 208)]])<|b 37 (g 2 0 30 209 m1 (r 29) ["self","reason"])<|(LS P).1)<|b 62 (b 50 ((Iw P).2)<|b 55 ((Iw P).1)<|(LU P).2)<|b 74 (b 67 ((LU P).1)<|(KR P).2)<|b 79 ((KR P).1)<|(NJ P).2)<|b 119 (b 103 (b 91 ((NJ P).1)<|b 98 ((Ml P).2)<|(Ml P).1)<|b 110 ((Jd P).2)<|b 115 ((Jd P).1)<|w 115 338 [0,1,2,3])<|b 140 (b 126 (f 15 119 346 m2 .none ["value","low","high"])<|b 133 (f 16 126 355 m2 .none ["value"])<|f 17 133 362 m2 .none ["value"])<|b 154 (b 147 (f 18 140 369 m2 .none ["value"])<|f 19 147 376 m2 .none ["number","by"])<|b 161 (f 20 154 384 m2 .none ["excess","total","ratio"])<|f 21 161 393 m2 .none ["sums","order"])<|b 247 (b 210 (b 189 (b 175 ((I7 P).2)<|b 182 (g 22 0 175 413 m2 .none ["self"])<|g 22 1 182 420 m2 .none ["self","glue"])<|b 196 (g 22 2 189 428 m2 .none ["self","width"])<|b 203 (g 22 3 196 436 m2 .none ["self"])<|g 22 4 203 443 m2 .none ["self"])<|b 228 (b 217 (g 22 5 210 450 m2 .none ["self"])<|b 224 ((I7 P).1)<|w 224 482 [0,1,2,3])<|b 233 (b 232 (w 228 490 [128,128,255])<|s 232 [tu<|ub 496 [0,0,0,0,0,0]])<|b 240 (f 31 233 503 m3 .none ["value"])<|f 32 240 510 m3 .none ["sizes","size"])<|b 290 (b 268 (b 254 (f 33 247 518 m3 .none ["pieces","chars","place","code"])<|b 261 (f 34 254 528 m3 .none ["chars","many","code","row","sort","rest"])<|f 35 261 540 m3 .none ["chars","code","far","turns"])<|b 282 (b 275 (f 36 268 550 m3 .none ["program","kerns","chars","boundary","many","place","row","octet","skip","following","op","rest"])<|f 37 275 568 m3 .none ["program","skip","following","op","rest"])<|b 289 ((Ox P).2)<|s 289 [T])<|b 299 (b 291 (s 290 [T])<|b 292 (s 291 [tu [(r 289),(r 290),(iv 256 470)]])<|g 38 0 292 591 m3 (r 291) ["self","number","name","size","params","chars","program","kerns","boundary"])<|b 313 (b 306 (g 38 1 299 606 m3 .none ["self","code"])<|g 38 2 306 614 m3 .none ["self","code"])<|b 320 (g 38 3 313 622 m3 .none ["self","code"])<|g 38 4 320 630 m3 .none ["self","code"])<|b 482 (b 412 (b 369 (b 348 (b 334 (g 38 5 327 638 m3 .none ["self","code"])<|b 341 (g 38 6 334 646 m3 .none ["self","code","row"])<|g 38 7 341 655 m3 .none ["self","code","row"])<|b 355 (g 38 8 348 664 m3 .none ["self","code","row"])<|b 362 (g 38 9 355 673 m3 .none ["self","number"])<|g 38 10 362 681 m3 .none ["self","number","value"])<|b 390 (b 376 ((Ox P).1)<|b 383 (f 41 376 715 m4 .none ["size","reduced","factor"])<|f 42 383 724 m4 .none ["row","reduced","factor","first","second","third","fourth","part"])<|b 400 (b 395 (f 43 390 738 m4 .none [])<|f 44 395 744 m4 .none [])<|b 405 (f 45 400 750 m4 .none [])<|f 46 405 756 m4 .none ["octets","at","counts","slots","first","last","code","row","slot","sort","rest"])<|b 448 (b 433 (b 419 (f 47 412 773 m4 .none ["slots","tables","pieces","chars","code","slot","rest","row"])<|b 426 (f 48 419 787 m4 .none ["octets","at","many","size","first","second","third","fourth","slant"])<|f 49 426 802 m4 .none ["octets","row","design"])<|b 434 (s 433 [tu [.none]])<|b 441 (f 50 434 811 m4 (r 433) ["octets","number","name","size","counts","check","design","wanted","at","slots","tables","many","program","kerns","chars","params","font"])<|f 51 441 834 m4 .none ["octets","number","name","thousandths","design"])<|b 466 (b 455 (f 52 448 845 m4 .none ["octets","number","name","size","scale"])<|b 462 (f 53 455 856 m4 .none ["program"])<|w 462 865 [0,1,2,3,4,5,6,7])<|b 474 (b 470 (w 466 881 [8,9,10,11,12,13,14])<|w 470 895 [0,1,2])<|b 478 (w 474 901 [0,1,2,3])<|w 478 909 [0,1,2,3,4,5,100])<|b 562 (b 521 (b 500 (b 486 (w 482 923 [0,1,2,3])<|b 493 (f 61 486 931 m5 .none ["code"])<|(IG P).2)<|b 507 (g 62 1 500 951 m5 .none ["self","font","code"])<|b 514 ((IG P).1)<|(LR P).2)<|b 534 (b 522 (s 521 [tu [(.bool ae),(.bool ae)]])<|b 527 (g 63 1 522 983 m5 (r 521) [])<|(LR P).1)<|b 548 (b 541 ((KV P).2)<|g 64 0 541 1014 m5 .none ["self","kind","width","height","depth","items"])<|b 555 ((KV P).1)<|(JQ P).2)<|b 605 (b 581 (b 569 (g 65 1 562 1056 m5 .none ["self","width","sort"])<|b 576 ((JQ P).1)<|f 66 576 1075 m5 .none [])<|b 591 (b 586 (f 67 581 1081 m5 .none [])<|f 68 586 1087 m5 .none [])<|b 598 (f 69 591 1093 m5 .none ["node"])<|f 70 598 1100 m5 .none ["node"])<|b 621 (b 610 (f 73 605 1111 m6 .none [])<|b 617 (f 74 610 1117 m6 .none ["rule","box","height","width"])<|w 617 1129 [0,1])<|b 632 (b 625 (w 621 1133 [0,1,2,3])<|f 78 625 1141 m7 .none ["items","totals","height","depth","node"])<|b 639 (f 79 632 1152 m7 .none ["items","node"])<|f 80 639 1160 m7 .none ["up","down"]) (b 954 (b 787 (b 722 (b 688 (b 667 (b 653 (f 81 646 1168 m7 .none ["totals","excess","order","total","report"])<|b 660 (f 82 653 1179 m7 .none ["box","glue"])<|f 83 660 1187 m7 .none ["box","flexed"])<|b 674 (f 84 667 1195 m7 .none ["box","node"])<|b 681 (f 85 674 1203 m7 .none ["box","found","fixed","flexed","node"])<|f 86 681 1214 m7 .none ["items","kept","out","node"])<|b 703 (b 695 (f 87 688 1224 m7 .none ["own","mode","amount"])<|b 702 (f 88 695 1233 m7 .none ["box","totals","excess","report"])<|s 702 [tu [(iv 1 1130),(iv 0 1243),.none]])<|b 714 (b 710 (f 89 703 1244 m7 (r 702) ["items","mode","amount","outside","kept","out","totals","height","depth","width","box"])<|w 710 1263 [128,132,133,137,138,139,140,141,142])<|b 718 (w 714 1281 [143,157,171,235,239,243,247,248,249])<|w 718 1299 [223,2])<|b 740 (b 734 (b 726 (w 722 1303 [25400000,473628672,1000])<|b 730 (w 726 1313 [5,10,4,9])<|w 730 1321 [0,1,2,3,4,5])<|b 738 (w 734 1333 [0,1,2])<|b 739 (s 738 [tu [(iv 5 870),(iv 6 871),(iv 7 872),(iv 9 882),(iv 10 883),(iv 11 884),(iv 12 885)]])<|s 739 [tu [(iv 5 870),(iv 6 871),(iv 7 872),(iv 9 882),(iv 10 883)]])<|b 761 (b 747 (f 102 740 1341 m8 .none ["octets","number","room","place"])<|b 754 (f 103 747 1351 m8 .none ["octets","first","size","room"])<|f 104 754 1361 m8 .none ["octets","first","number","room"])<|b 773 (b 768 (f 105 761 1371 m8 .none ["octets"])<|f 106 768 1378 m8 .none [])<|b 780 (f 107 773 1384 m8 .none ["place"])<|(J4 P).2)<|b 878 (b 829 (b 808 (b 794 (g 108 0 787 1403 m8 .none ["self","plain"])<|b 801 (g 108 1 794 1411 m8 .none ["self","begin"])<|g 108 2 801 1419 m8 .none ["self","octets","size","hit","state","row"])<|b 815 (g 108 3 808 1431 m8 .none ["self","octets","size","seen","place","there","spot","state"])<|b 822 ((J4 P).1)<|f 109 822 1455 m8 .none ["state","used"])<|b 850 (b 836 ((P_ P).2)<|b 843 (g 110 0 836 1475 m8 .none ["self","fonts","depth"])<|g 110 1 843 1484 m8 .none ["self","depth"])<|b 864 (b 857 (g 110 2 850 1492 m8 .none ["self","begin","depth"])<|g 110 3 857 1501 m8 .none ["self","h"])<|b 871 (g 110 4 864 1509 m8 .none ["self","v"])<|g 110 5 871 1517 m8 .none ["self","font","known"])<|b 923 (b 899 (b 885 (g 110 6 878 1526 m8 .none ["self","font","code","h","v"])<|b 892 (g 110 7 885 1537 m8 .none ["self","height","width","h","v","moves"])<|g 110 8 892 1549 m8 .none ["self","octets","h","v"])<|b 913 (b 906 ((P_ P).1)<|f 111 906 1576 m8 .none ["box","offsets","found","place","item","spot","part","behind"])<|b 918 (f 112 913 1590 m8 .none [])<|f 113 918 1596 m8 .none [])<|b 944 (b 930 (f 114 923 1602 m8 .none ["page","box","left","base","depth","begin","is_vertical","row","inner","part","part_left","part_base","is_copy","h","v"])<|b 937 (f 115 930 1623 m8 .none ["box","left","top"])<|(Px P).2)<|b 952 (b 945 (s 944 [tu<|ub 1644 [40]])<|g 116 0 945 1645 m8 (r 944) ["self","depth","mark"])<|b 953 (s 952 [T])<|s 953 [tu [(r 952),(iv 0 1654),(iv 0 1655)]])<|b 1138 (b 1042 (b 993 (b 975 (b 961 (g 116 1 954 1656 m8 (r 953) ["self","box","counts","left","top","page","place"])<|b 968 (g 116 2 961 1669 m8 .none ["self","octets","number","place"])<|(Px P).1)<|b 979 (w 975 1697 [0,1,2])<|b 986 ((M7 P).2)<|g 119 0 986 1715 m9 .none ["self","octets"])<|b 1014 (b 1000 (g 119 1 993 1723 m9 .none ["self","room","end","found","place"])<|b 1007 (g 119 2 1000 1734 m9 .none ["self","room","found","half"])<|g 119 3 1007 1744 m9 .none ["self","many","end","found"])<|b 1028 (b 1021 ((M7 P).1)<|(JR P).2)<|b 1035 (g 120 0 1028 1776 m9 .none ["self"])<|g 120 1 1035 1783 m9 .none ["self"])<|b 1091 (b 1063 (b 1049 (g 120 2 1042 1790 m9 .none ["self"])<|b 1056 (g 120 3 1049 1797 m9 .none ["self","across","down","h","v"])<|(JR P).1)<|b 1077 (b 1070 ((Pr P).2)<|g 121 0 1070 1838 m9 .none ["self","units","comment"])<|b 1084 ((Pr P).1)<|f 122 1084 1862 m9 .none ["stream","found"])<|b 1110 (b 1096 (f 123 1091 1870 m9 .none [])<|b 1103 (f 124 1096 1876 m9 .none ["opcode"])<|f 125 1103 1883 m9 .none ["stream","which","first","second"])<|b 1124 (b 1117 (f 126 1110 1893 m9 .none ["state","code","fonts","moves","font"])<|f 127 1117 1904 m9 .none ["stream","state","moves","height","width"])<|b 1131 (f 128 1124 1915 m9 .none ["state","number","known"])<|f 129 1131 1924 m9 .none ["stream","opcode","known","fonts","number","row"])<|b 1217 (b 1170 (b 1157 (b 1145 (f 130 1138 1936 m9 .none ["stream","state","opcode","known","fonts","size","many"])<|b 1150 (f 131 1145 1949 m9 .none [])<|f 132 1150 1955 m9 .none ["stream","known","fonts","told","opcode","number","row"])<|b 1162 (f 133 1157 1968 m9 .none [])<|b 1169 (f 134 1162 1974 m9 .none ["octets","fonts","stream","units","many","device","last","opcode","begin","counts","state"])<|s 1169 [tu<|ub 1993 [0,1,2,3,5,6,7,11]])<|b 1189 (b 1177 (f 138 1170 2004 pY .none ["font","left","right","place","program","going","skip","following","op","rest"])<|b 1184 ((KU P).2)<|g 139 0 1184 2032 pY .none [])<|b 1203 (b 1196 ((KU P).1)<|f 140 1196 2054 pY .none ["word","code","parts","is_made"])<|b 1210 (f 141 1203 2064 pY .none ["word"])<|f 142 1210 2071 pY .none ["word","op","code","now","keeps_left","keeps_right","parts","taken","made","turn"])<|b 1254 (b 1232 (b 1224 (f 143 1217 2087 pY .none ["font","codes","left_edge","edge","word","steps","left","right","told"])<|b 1225 (s 1224 [tu [(.bool aa),(.bool aa)]])<|f 144 1225 2102 pY (r 1224) ["font","codes","left_edge","right_edge","code","found","piece","has_left"])<|b 1240 (b 1233 (s 1232 [tu<|ub 2118 [667883746520804040339592396131,1000000000055096219,1000000000000658403]])<|f 147 1233 2122 jf .none ["script","k"])<|b 1247 (f 148 1240 2130 jf .none ["cell"])<|f 149 1247 2137 jf .none ["bag","many","digit","mixed"])<|b 1273 (b 1261 (f 150 1254 2147 jf .none ["bag","letters","turn","width","height","rows","behind","is_kern","check","design"])<|b 1266 (f 151 1261 2163 jf .none [])<|f 152 1266 2169 jf .none ["words","found","word"])<|b 1285 (b 1280 (f 153 1273 2178 jf .none ["word","size","bits"])<|f 154 1280 2187 jf .none [])<|b 1292 (f 155 1285 2193 jf .none ["octets","which","size","scale"])<|f 156 1292 2203 jf .none [])
def mk(g:Nat->Obj)(n:Nat):Nat->Nat->BT:=
 Gv (motive:=λ_=>Nat->Nat->BT) (λ_ _=>Z) (λ_ h i k=>cond (eY i 1296) (N (g i) (h (i+k)<|2*k)<|h (i+2*k)<|2*k) Z) n
abbrev mt(P:cO)(n i k:Nat):BT:=mk (lo P) n i k
def tr(P:cO)(a b c:Obj):BT:=N (lo P 0) (N (lo P 1) (N a (N (lo P 7) (mt P 7 15 16)<|N (lo P 23) (N c (mt P 5 71 64)<|mt P 5 103 64)<|mt P 6 55 32)<|mt P 8 11 8)<|mt P 9 5 4) (N (lo P 2) (N (lo P 4) (mt P 8 8 8)<|N b (mt P 7 20 16)<|mt P 7 28 16)<|mt P 9 6 4)
def Qb(P:cO):List jg:=[E P "__doc__" 166 .none,E P "__package__" 167 .none,E P "__loader__" 168<|.builtin "__main__.__loader__#opaque",E P "__spec__" 169 .none,E P "__annotations__" 170<|r 6,E P "__builtins__" 171<|r 4,E P "__file__" 173<|st "/claim/cut.py" 172,E P "__cached__" 174 .none,E P "_wall" 193<|r 21,E P "PageError" 223<|r 39,E P "BadArgument" 239<|r 52,E P "Overflow" 255<|r 64,E P "BadFont" 271<|r 76,E P "BadDevice" 287<|r 88,E P "TooDeep" 303<|r 100,E P "TooMuch" 319<|r 112,E P "UNITY" 323<|iv 65536 322,E P "MAX_DIMEN" 329<|iv 1073741823 328,E P "MAX_NUMBER" 335<|iv 2147483647 334,E P "INF_BAD" 337<|iv 10000 336,E P "NORMAL" 342<|iv 0 338,E P "FIL" 343<|iv 1 339,E P "FILL" 344<|iv 2 340,E P "FILLL" 345<|iv 3 341,E P "is_whole" 354<|r 125,E P "check_whole" 361<|r 132,E P "check_number" 368<|r 139,E P "check_dimen" 375<|r 146,E P "rounded" 383<|r 153,E P "badness" 392<|r 160,E P "top_order" 400<|r 167,E P "Totals" 467<|r 219,E P "EDGE" 471<|iv 256 470,E P "MOST_FONTS" 473<|iv 255 472,E P "MOST_PARAMS" 475<|iv 64 474,E P "MOST_SIZE" 481<|iv 134217727 480,E P "PLAIN_SORT" 486<|iv 0 482,E P "PROGRAM_SORT" 487<|iv 1 483,E P "LARGER_SORT" 488<|iv 2 484,E P "PIECES_SORT" 489<|iv 3 485,E P "STOP_SKIP" 493<|iv 128 490,E P "KERN_OP" 494<|iv 128 491,E P "LEAD" 495<|iv 255 492,E P "NO_CHARACTER" 502<|r 232,E P "is_size" 509<|r 239,E P "check_sizes" 517<|r 246,E P "check_pieces" 527<|r 253,E P "check_chars" 539<|r 260,E P "check_larger" 549<|r 267,E P "check_program" 567<|r 274,E P "left_start" 578<|r 281,E P "Font" 710<|r 371,E P "LONGEST" 714<|iv 32767 713,E P "size_parts" 723<|r 382,E P "scaled_product" 737<|r 389,E P "read_counts" 743<|r 394,E P "read_sizes" 749<|r 399,E P "read_rows" 755<|r 404,E P "read_slots" 772<|r 411,E P "read_chars" 786<|r 418,E P "read_params" 801<|r 425,E P "read_design" 810<|r 432,E P "read_tfm" 833<|r 440,E P "read_scaled" 844<|r 447,E P "load_metrics" 855<|r 454,E P "right_code" 862<|r 461,E P "CHAR" 873<|iv 0 865,E P "LIGATURE" 874<|iv 1 866,E P "HBOX" 875<|iv 2 867,E P "VBOX" 876<|iv 3 868,E P "RULE" 877<|iv 4 869,E P "KERN" 878<|iv 5 870,E P "GLUE" 879<|iv 6 871,E P "PENALTY" 880<|iv 7 872,E P "DISC" 888<|iv 8 881,E P "MARK" 889<|iv 9 882,E P "INSERT" 890<|iv 10 883,E P "ADJUST" 891<|iv 11 884,E P "MATH" 892<|iv 12 885,E P "SPECIAL" 893<|iv 13 886,E P "UNSET" 894<|iv 14 887,E P "NATURAL" 898<|iv 0 895,E P "STRETCHED" 899<|iv 1 896,E P "SHRUNK" 900<|iv 2 897,E P "FONT_KERN" 905<|iv 0 901,E P "EXPLICIT" 906<|iv 1 902,E P "ACCENT_KERN" 907<|iv 2 903,E P "MU_KERN" 908<|iv 3 904,E P "PLAIN" 916<|iv 0 909,E P "ALEADERS" 917<|iv 1 910,E P "CLEADERS" 918<|iv 2 911,E P "XLEADERS" 919<|iv 3 912,E P "MU_SKIP" 920<|iv 4 913,E P "NONSCRIPT" 921<|iv 5 914,E P "NAMED" 922<|iv 100 915,E P "FOR_DEVICE" 927<|iv 0 923,E P "WRITING" 928<|iv 1 924,E P "OPENING" 929<|iv 2 925,E P "CLOSING" 930<|iv 3 926,E P "check_code" 937<|r 492,E P "Char" 969<|r 509,E P "Ligature" 1001<|r 529,E P "Box" 1042<|r 550,E P "Kern" 1074<|r 571,E P "width_of" 1080<|r 580,E P "height_of" 1086<|r 585,E P "depth_of" 1092<|r 590,E P "line_height" 1099<|r 597,E P "line_depth" 1106<|r 604,E P "MOST_COPIES" 1110<|iv 2000 1109,E P "leader_places" 1116<|r 609,E P "with_rule_sizes" 1126<|r 616,E P "EXACTLY" 1131<|iv 0 1129,E P "SPREAD" 1132<|iv 1 1130,E P "FINE" 1137<|iv 0 1133,E P "LOOSE" 1138<|iv 1 1134,E P "TIGHT" 1139<|iv 2 1135,E P "OVERFULL" 1140<|iv 3 1136,E P "natural_line" 1151<|r 631,E P "check_column" 1159<|r 638,E P "quotient" 1167<|r 645,E P "set_glue" 1178<|r 652,E P "flex" 1186<|r 659,E P "set_part" 1194<|r 666,E P "part_size" 1202<|r 673,E P "places" 1213<|r 680,E P "moved" 1223<|r 687,E P "goal_size" 1232<|r 694,E P "set_box" 1242<|r 701,E P "hpack" 1260<|r 709,E P "SET_1" 1272<|iv 128 1263,E P "SET_RULE" 1273<|iv 132 1264,E P "PUT_1" 1274<|iv 133 1265,E P "PUT_RULE" 1275<|iv 137 1266,E P "NO_OPERATION" 1276<|iv 138 1267,E P "PAGE_BEGIN" 1277<|iv 139 1268,E P "PAGE_END" 1278<|iv 140 1269,E P "PUSH" 1279<|iv 141 1270,E P "POP" 1280<|iv 142 1271,E P "RIGHT_1" 1290<|iv 143 1281,E P "DOWN_1" 1291<|iv 157 1282,E P "FONT_0" 1292<|iv 171 1283,E P "FONT_1" 1293<|iv 235 1284,E P "SPECIAL_1" 1294<|iv 239 1285,E P "FONT_DEF_1" 1295<|iv 243 1286,E P "PREAMBLE" 1296<|iv 247 1287,E P "POSTAMBLE" 1297<|iv 248 1288,E P "POST_POST" 1298<|iv 249 1289,E P "FILLING" 1301<|iv 223 1299,E P "IDENTITY" 1302<|iv 2 1300,E P "NUMERATOR" 1306<|iv 25400000 1303,E P "DENOMINATOR" 1307<|iv 473628672 1304,E P "MAGNIFICATION" 1308<|iv 1000 1305,E P "COMMENT_TEXT" 1310<|st "gluepage" 1309,E P "DEEPEST_BOXES" 1312<|iv 60 1311,E P "FIRST_SET" 1317<|iv 5 1313,E P "SECOND_SET" 1318<|iv 10 1314,E P "FIRST_AGAIN" 1319<|iv 4 1315,E P "SECOND_AGAIN" 1320<|iv 9 1316,E P "FREE" 1327<|iv 0 1321,E P "FIRST_FREE" 1328<|iv 1 1322,E P "SECOND_FREE" 1329<|iv 2 1323,E P "FIXED" 1330<|iv 3 1324,E P "IS_FIRST" 1331<|iv 4 1325,E P "IS_SECOND" 1332<|iv 5 1326,E P "NONE_SEEN" 1336<|iv 0 1333,E P "FIRST_SEEN" 1337<|iv 1 1334,E P "SECOND_SEEN" 1338<|iv 2 1335,E P "SILENT_ACROSS" 1339<|r 738,E P "SILENT_DOWN" 1340<|r 739,E P "put_number" 1350<|r 746,E P "put_signed" 1360<|r 753,E P "put_counted" 1370<|r 760,E P "put_units" 1377<|r 767,E P "define_font" 1383<|r 772,E P "check_place" 1390<|r 779,E P "Moves" 1454<|r 817,E P "barred" 1462<|r 828,E P "PageWriter" 1575<|r 901,E P "parts_of" 1589<|r 912,E P "across_part" 1595<|r 917,E P "down_part" 1601<|r 922,E P "out_box" 1622<|r 929,E P "check_page" 1631<|r 936,E P "DviWriter" 1694<|r 970,E P "CHAR_ROW" 1700<|iv 0 1697,E P "RULE_ROW" 1701<|iv 1 1698,E P "SPECIAL_ROW" 1702<|iv 2 1699,E P "OctetStream" 1763<|r 1016,E P "PageState" 1825<|r 1058,E P "Device" 1861<|r 1079,E P "read_units" 1869<|r 1090,E P "read_font" 1875<|r 1095,E P "is_font_definition" 1882<|r 1102,E P "read_move" 1892<|r 1109,E P "read_letter" 1903<|r 1116,E P "read_rule" 1914<|r 1123,E P "choose_font" 1923<|r 1130,E P "add_font" 1935<|r 1137,E P "page_step" 1948<|r 1144,E P "read_page" 1954<|r 1149,E P "read_post_fonts" 1967<|r 1156,E P "read_postamble" 1973<|r 1161,E P "read_file" 1990<|r 1168,E P "KNOWN_OPS" 2001<|r 1169,E P "STEPS" 2003<|iv 20 2002,E P "look" 2019<|r 1176,E P "Word" 2053<|r 1191,E P "leave" 2063<|r 1202,E P "pass_on" 2070<|r 1209,E P "put_between" 2086<|r 1216,E P "word_nodes" 2101<|r 1223,E P "run" 2115<|r 1231,E P "_law_chosen" 2121<|r 1232,E P "_law_cell" 2129<|r 1239,E P "_law_bag" 2136<|r 1246,E P "_law_draw" 2146<|r 1253,E P "_law_metrics" 2162<|r 1260,E P "_law_words" 2168<|r 1265,E P "_law_octets" 2177<|r 1272,E P "_law_at" 2186<|r 1279,E P "_law_joined" 2192<|r 1284,E P "_law_loaded" 2202<|r 1291,E P "law" 2208<|r 1296]
def gl(P:cO)(nm:au)(k:Nat):Obj:=⟨.type "dict",Y,.dict (E P "__name__" 165 nm::(Qb P).take (k -1)).toArray k,#[]⟩
def sT(nm:au)(k m c n t:Nat)(P:cO)(os:ml):QX:=⟨tr P (gl P nm k) (yf m)<|yp c,n,{},lC [],{},t,os⟩
def env:Env:={scope:=pw.main.scope,locals:=mainNs,globals:=mainNs,cells:=[],code:= .ref 13,frame:=U 14}
noncomputable abbrev q0:Pos:=⟨0,0,0,0⟩
noncomputable abbrev ann:Option au:=U (.ref 6)
def fP(i k:Nat):List cr:=(pw.main.body.drop i).take k
abbrev St:=cO->ml->QX
abbrev v6:=Nat×St×Pos×List cr
def cC:List v6:=[(898,sT m0 9 0 0 15 187,⟨0,0,0,0⟩,fP 0 6),
 (709,sT m1 14 15 3 79 272,⟨13,0,14,8⟩,fP 6 8),
 (102,sT m2 21 24 6 115 338,⟨25,0,25,7⟩,fP 14 1),
 (647,sT m2 25 24 6 119 346,⟨26,19,26,24⟩,fP 15 13),
 (185,sT m3 37 48 6 224 482,⟨95,0,95,9⟩,fP 28 2),
 (870,sT m3 44 48 6 232 496,⟨97,20,97,24⟩,fP 30 12),
 (408,sT m4 55 75 6 383 724,⟨217,0,222,28⟩,fP 42 13),
 (412,sT m5 67 111 6 462 865,⟨324,0,324,8⟩,fP 55 3),
 (358,sT m5 85 111 6 474 901,⟨327,20,327,26⟩,fP 58 3),
 (737,sT m5 100 111 6 486 931,⟨330,30,330,37⟩,fP 61 4),
 (459,sT m5 104 123 6 555 1043,⟨350,0,363,27⟩,fP 65 11),
 (167,sT m7 113 147 6 617 1129,⟨446,0,446,8⟩,fP 76 2),
 (397,sT m7 119 147 6 625 1141,⟨448,20,448,28⟩,fP 78 13),
 (448,sT m8 131 183 6 710 1263,⟨532,0,532,8⟩,fP 91 3),
 (84,sT m8 151 183 6 722 1303,⟨535,9,535,17⟩,fP 94 1),
 (19,sT m8 154 183 6 726 1309,⟨536,24,536,37⟩,fP 95 2),
 (322,sT m8 156 183 6 726 1313,⟨538,0,538,13⟩,fP 97 3),
 (584,sT m8 169 183 6 738 1339,⟨541,23,541,34⟩,fP 100 10),
 (661,sT m8 179 207 6 829 1463,⟨624,0,627,84⟩,fP 110 6),
 (318,sT m8 185 225 6 937 1632,⟨783,0,789,50⟩,fP 116 2),
 (84,sT m9 186 228 6 975 1697,⟨844,0,844,8⟩,fP 118 1),
 (883,sT m9 189 228 6 979 1703,⟨845,20,845,31⟩,fP 119 3),
 (891,sT m9 192 237 6 1084 1862,⟨907,0,916,24⟩,fP 122 24),
 (315,sT jf 214 297 6 1232 2118,⟨1176,0,1176,8⟩,fP 146 11)]
def sF:St:=sT jf 225 327 6 1297 2209
noncomputable def pF:Pos:=⟨1252,0,1291,15⟩
noncomputable def uy:List v6->St×Pos
 |[]=>(sF,pF)
 |r::_=>(r.2.1,r.2.2.1)
noncomputable def DU:List v6->Nat
 |[]=>2
 |r::l=>r.1+DU l
noncomputable def FY:List v6->List cr
 |[]=>[]
 |r::l=>r.2.2.2++FY l
abbrev R:=Option (sQ×QX×Code×Pos)
noncomputable def lh(w:kJ)(k:Nat):qN->List cr->ml->R:=match cC.drop k with
 |r::_=>λp b os=>Fast.tw10110043849684766642 AJ p w 11 ann 1 r.1 (r.2.1 w.params os) (piecesOf r.2.2.2 env (AK b env) r.2.2.1 [uK q0])
 |[]=>λ_ _ _=>Y
def rh(w:kJ)(k:Nat):qN->List cr->ml->R:=match cC.drop k with
 |_::l=>λ_ b os=>U (.next,(uy l).1 w.params os,AK b env,(uy l).2)
 |[]=>λ_ _ _=>Y
abbrev Pc(k:Nat)(w:kJ):Prop:=lh w k=rh w k
noncomputable abbrev Ew:String:="special-get-raises"
theorem dT k(f: ∀w:kJ,Pc k<|w.withFollow Ew ae)(t: ∀w:kJ,Pc k<|w.withFollow Ew aa) w:Pc k w:=byRow2 Ew (P:=Pc k) f t w
theorem pc0 w:Pc 0 w:=by kernel_rfl
theorem pc1 w:Pc 1 w:=by kernel_rfl
theorem pc2 w:Pc 2 w:=dT 2 (λ_=>by kernel_rfl) (λ_=>by kernel_rfl) w
theorem Vh w:Pc 3 w:=by kernel_rfl
theorem pc4 w:Pc 4 w:=dT 4 (λ_=>by kernel_rfl) (λ_=>by kernel_rfl) w
theorem Wp w:Pc 5 w:=by kernel_rfl
theorem pc6 w:Pc 6 w:=by kernel_rfl
theorem pc7 w:Pc 7 w:=dT 7 (λ_=>by kernel_rfl) (λ_=>by kernel_rfl) w
theorem T3 w:Pc 8 w:=dT 8 (λ_=>by kernel_rfl) (λ_=>by kernel_rfl) w
theorem pc9 w:Pc 9 w:=by kernel_rfl
theorem ad4 w:Pc 10 w:=by kernel_rfl
theorem ZR w:Pc 11 w:=dT 11 (λ_=>by kernel_rfl) (λ_=>by kernel_rfl) w
theorem az0 w:Pc 12 w:=by kernel_rfl
theorem XA w:Pc 13 w:=dT 13 (λ_=>by kernel_rfl) (λ_=>by kernel_rfl) w
theorem ac3 w:Pc 14 w:=dT 14 (λ_=>by kernel_rfl) (λ_=>by kernel_rfl) w
theorem aG7 w:Pc 15 w:=by kernel_rfl
theorem ax6 w:Pc 16 w:=dT 16 (λ_=>by kernel_rfl) (λ_=>by kernel_rfl) w
theorem Xw w:Pc 17 w:=by kernel_rfl
theorem UA w:Pc 18 w:=by kernel_rfl
theorem ar7 w:Pc 19 w:=by kernel_rfl
theorem Y7 w:Pc 20 w:=dT 20 (λ_=>by kernel_rfl) (λ_=>by kernel_rfl) w
theorem Zn w:Pc 21 w:=by kernel_rfl
theorem aD5 w:Pc 22 w:=by kernel_rfl
theorem Ue w:Pc 23 w:=by kernel_rfl
def H1(P:cO):ct:=absHeap (tr P (gl P jf 225) (yf 327)<|yp 6) 1297 {}
section
variable(w:kJ)(p:qN)(b:List cr)(os:ml)
theorem gI:(λp b os=>Fast.tw14082659384304107361 AJ p w 11 ann 2 (sF w.params os).abs<|restOf [] env (AK b env) pF [uK q0])=λ_ _ os=>U (sF w.params os).abs:=by kernel_rfl
def Ch(l:List v6):Prop:=topRun AL p w 11 ann (DU l) ((uy l).1 w.params os).abs (restOf (FY l) env (AK b env) (uy l).2 [uK q0])=U (sF w.params os).abs
theorem Ch.nil:Ch w p b os []:=by
 have h:=congrFun (congrFun (congrFun (gI w) p) b) os
 rw[<-Fast.te14082659384304107361,<-Gw] at h
 exact h
theorem Ch.cons{r}(e:cC.drop k=r::l)(h:Pc k w)(c:Ch w p b os l):Ch w p b os<|r::l:=by
 have h:=congrFun (congrFun (congrFun h p) b) os
 unfold lh rh at h
 rw[e,<-Fast.te10110043849684766642,<-Gw] at h
 exact piece_app (segRun_of h) c
theorem yS:Ch w p b os cC:=
 Ch.cons (k:=0) w p b os rfl (pc0 w) (.cons (k:=1) w p b os rfl (pc1 w)<|.cons (k:=2) w p b os rfl (pc2 w)<|.cons (k:=3) w p b os rfl (Vh w)<|.cons (k:=4) w p b os rfl (pc4 w)<|.cons (k:=5) w p b os rfl (Wp w)<|.cons (k:=6) w p b os rfl (pc6 w)<|.cons (k:=7) w p b os rfl (pc7 w)<|.cons (k:=8) w p b os rfl (T3 w)<|.cons (k:=9) w p b os rfl (pc9 w)<|.cons (k:=10) w p b os rfl (ad4 w)<|.cons (k:=11) w p b os rfl (ZR w)<|.cons (k:=12) w p b os rfl (az0 w)<|.cons (k:=13) w p b os rfl (XA w)<|.cons (k:=14) w p b os rfl (ac3 w)<|.cons (k:=15) w p b os rfl (aG7 w)<|.cons (k:=16) w p b os rfl (ax6 w)<|.cons (k:=17) w p b os rfl (Xw w)<|.cons (k:=18) w p b os rfl (UA w)<|.cons (k:=19) w p b os rfl (ar7 w)<|.cons (k:=20) w p b os rfl (Y7 w)<|.cons (k:=21) w p b os rfl (Zn w)<|.cons (k:=22) w p b os rfl (aD5 w)<|.cons (k:=23) w p b os rfl (Ue w)<|Ch.nil w p b os)
end
theorem Y3:AM pw=FY cC:=by kernel_rfl
def Ha(P:cO):ct:=⟨lC [AH P,boot_o_1 P,AI P,boot_o_3 P,boot_o_4 P,boot_o_5 P,boot_o_6 P,boot_o_7 P,boot_o_8 P,boot_o_9 P,boot_o_10 P,T,yf 0,yg "<module>" "<module>" 182 1 0 0 ae 11 12 .none .none .none 185,fr 13 3 m0],{}⟩
abbrev cE:Code:=AK (AM pw) env
theorem pre w:(λos=>Fast.tw15667345088766844465 AJ pw w 11 ann 12 ⟨qO w.params,lC [],QY,QZ,os⟩<|Q0 pw)=λos=>U (⟨Ha w.params,lC [],{},187,os⟩,⟨Fast.tw11892475500146522536 AJ cE,cE,q0,[uK q0]⟩):=by kernel_rfl
theorem af4 w os:topGo AL pw w 11 ann 12 ⟨qO w.params,lC [],QY,QZ,os⟩ (Q0 pw)=U (⟨Ha w.params,lC [],{},187,os⟩,⟨denote AL cE,cE,q0,[uK q0]⟩):=by
 have h:=congrFun (pre w) os
 rw[<-Fast.te15667345088766844465,<-Fast.te11892475500146522536,<-Gw] at h
 exact h
theorem zu w:(λp os=>Fast.tw14374325043358763698 AJ p w 11 ann 1 1 ⟨Ha w.params,lC [],{},187,os⟩<|blockOf (AM pw) env cE q0 [uK q0])=λ_ os=>U (.next,((uy cC).1 w.params os).abs,cE,q0):=by kernel_rfl
theorem Wq w p os:segRun AL p w 11 ann 1 1 ⟨Ha w.params,lC [],{},187,os⟩ (blockOf (AM pw) env cE q0 [uK q0])=U (.next,((uy cC).1 w.params os).abs,cE,q0):=by
 have h:=congrFun (congrFun (zu w) p) os
 rw[<-Fast.te14374325043358763698,<-Gw] at h
 exact h
theorem XG w os:topRun AL pw w 11 ann (12+(1+DU cC)) ⟨qO w.params,lC [],QY,QZ,os⟩ (Q0 pw)=U ⟨H1 w.params,lC [],{},2209,os⟩:=by
 refine go_top (af4 w os) (piece_block (Wq w pw os) ?_)
 have h:=yS w pw (AM pw) os
 unfold Ch at h
 rw[<-Y3] at h
 exact h
def q:qN:={pw with main:={pw.main with body:=[sa 156]}}
noncomputable def names(l:List jg):List Str:=match l with
 |⟨_,.str s _,_⟩::r=>s::names r
 |_::r=>names r
 |[]=>[]
noncomputable def p0:cO:={strHash:=λ_=>0,shareClass:=λ_=>0,mergeTok:=id,idOf:=λ_=>0,idOfShared:=λ_ _=>0,followText:=λ_=>ae,idOfImm:=λ_=>0}
def loose:List Str:=((names<|Qb p0).drop 8).take 215
noncomputable abbrev Xt:bA->Bool:=λ_=>aa
def S1(w:kJ)(os:ml):bA:=⟨H1 w.params,lC [],{},2209,os⟩
theorem XI(w:kJ):(λos:ml=>(staticsOk (aQ0 pw.main.body) (qO w.params)<|H1 w.params,namesBound pw<|H1 w.params,gensDone ⟨H1 w.params,lC [],{},2209,os⟩,laidKept (qO w.params)<|H1 w.params))=λ_=>(aa,aa,aa,aa):=by kernel_rfl
theorem aP8(w:kJ):((qO w.params).isNs uL&&(lC []:Array Q1).size==0,(qO w.params).objs.size,(qO w.params).nsMap uL "__annotations__")=(aa,11,ann):=by kernel_rfl
theorem ZG w:(λos:ml=>Fast.tw4187177175401517315 q loose (aQ0 pw.main.body) Xt aa<|S1 w os)=λ_=>openGood q loose:=by kernel_rfl
open PyProof.Rows
def YP(w:kJ)(h:ct):Prop:= ∀a o,(H1 w.params).get? a=U o->h.get? a=U o
theorem at6:opening pw=plainProg pw.main.scope.names:=by kernel_rfl
theorem aN1 s:fenceModules? pw s=U s:=by kernel_rfl
theorem left:LeftO pw q loose Xt (λs=>s.heap) (λw=>H1 w.params) 30000 aa:=
 LeftO.of_pieces (H₀:=qO) (H₁:=H1) (m₀:=11) (ann:=ann) (boot_open at6 (by decide+kernel) aN1) aP8 XG (by decide+kernel) λw=>by
  funext os
  have l1:=congrFun (XI w) os
  simp only[Prod.mk.injEq] at l1
  obtain⟨a,b,c,d⟩:=l1
  have l2:=congrFun (ZG w) os
  rw[<-Fast.te4187177175401517315] at l2
  rw[a,b,c,d]
  exact aA (λx=>(aa,x,H1 w.params)) l2
abbrev jq:OpenLaw:=Q2
def ar6(s:cr):DefRec:=tX s ⟨"",⟨[],[],Y,[],[],Y,[]⟩,[],{kind:= .function,names:=[],isGenerator:=ae,isCoroutine:=ae,more:=[]},⟨0,0,0,0⟩⟩ (λn a b sc p=>⟨n,a,b,sc,p⟩) λ_ _ _=>⟨"",⟨[],[],Y,[],[],Y,[]⟩,[],{kind:= .function,names:=[],isGenerator:=ae,isCoroutine:=ae,more:=[]},⟨0,0,0,0⟩⟩
def dl:DefRec:=ar6 (sa 156)
theorem ah7:defOf q jq.row.name=U (dl,[]):=by kernel_rfl
theorem ar4:jq.row.prog.theDef jq.row.name=U (dl.params,dl.body,dl.scope):=by kernel_rfl
theorem an9:kwWritten? dl.params.kwonlyargs dl.params.kw_defaults=U []:=by kernel_rfl
theorem T4:(chainsOk q&&opensWell jq.row.prog&&(frees jq.row.toRowW&&jq.row.within.isEmpty))=aa:=by kernel_rfl
theorem av3:jq.row.prog.bare:=⟨rfl,rfl,rfl,rfl,rfl,by decide+kernel⟩
theorem Vc:jq.row.toRowW.promised:=by w_witness2
theorem av(i:jq.row.wellSaid=aa)
  (call:WalkO q loose (λ_ _=>True) YP jq.row.toRowW dl [] λf vs=>PySem.call f vs):jq.row.Holds:=by
 refine W.holds_open (q:=q) (loose:=loose) (Xt:=Xt) (XP:=λ_ _=>True) (Yf:=λs=>s.heap) (Ya:=λw=>H1 w.params) (YP:=YP) (N:=30000) left ?_ ?_ (λ_ _=>trivial) (λ_ _ _ _ _=>trivial) ah7 ar4 an9 (λ_ _=>recFacts_nil rfl) rfl i T4 av3 Vc call
 ·intro w s e a o h;rw[e];exact h
 ·intro w h h' y k a o e;exact k _ _ (y _ _ e)
end Hd
namespace c6
set_option maxHeartbeats 0
open PySem PySem.W
theorem w2:Q2.wellSaid=aa:=by
 rw[Fast.te9446332074065402090]
 unfold Fast.tw9446332074065402090
 repeat' (with_reducible refine look_both ?_ ?_)
 all_goals try(unfold Fast.tw17960256430627541270 Fast.tw2436336058641802641 Fast.tw12908688711261696721)
 all_goals repeat' (with_reducible refine look_both ?_ ?_)
 all_goals decide+kernel
end c6
namespace c6
open PySem
theorem tI:True:=trivial
theorem gJ{α:Type u}{a:α}{C:Prop}(h:U a=Y):C:=nomatch h
theorem bQ{α:Type u}{a:α}{C:Prop}(h:Y=U a):C:=nomatch h
theorem dz{α:Type u}{a:α}{C:Prop}(h:a∈[]):C:=nomatch h
theorem fy{C:Prop}(h:ae=aa):C:=nomatch h
theorem jK{C:Prop}(h:aa=ae):C:=nomatch h
theorem zk{α:Type u}{a:α}{l:List α}{C:Prop}(h:a::l=[]):C:=nomatch h
@[elab_as_elim] theorem p7{α:Type u}{P:α->Prop}{a b:α}(e:U a=U b)(k:P a):P b:=bM e▸k
@[elab_as_elim] theorem Bt{α:Type u}{β:Type v}{P:α->β->Prop}{a c:α}{b d:β}(e:(a,b)=(c,d))(k:P a b):P c d:=(c7 e).1▸(c7 e).2▸k
@[elab_as_elim] theorem XJ{α:Type u}{β:Type v}{P:α->β->Prop}{a c:α}{b d:β}(e:U (a,b)=U (c,d))(k:P a b):P c d:=Bt (bM e) k
theorem Ao{α:Type u}{β:Type v}{f:α->β}{b:Bool}{x y:α}:f (cond b x y)=cond b (f x) (f y):=by
 cases b <;>rfl
theorem Je{α:Type u}{o:Option α}{k:α->Prop}{X:Prop}(h:o.elim False k)(z: ∀a,o=U a->k a->X):X:=by
 cases o
 ·exact h.elim
 ·exact z _ rfl h
def Tb:Bool->Prop:=Bool.rec False True
theorem dd{p:Prop} [Decidable p] (h:Tb<|decide p:=by constructor):p:=if c:p then c else by
 rw[decide_eq_false c] at h
 exact h.elim
set_option genCtorIdx true in
inductive V where
 |none
 |bool (b:Bool)
 |int (i:Int)
 |str (s:Str)
 |a6 (l:List Int)
 |aj (l:List V)
 |fl (l:List V)
 |fz (a:ai) (c:Nat) (fs:List<|Nat×V)
 |fd (es:List<|Int×V)
 |ref (a:ai)
set_option genCtorIdx true in
inductive O where
 |list (l:List V)
 |dict (es:List<|Int×V)
 |aK (c:Nat) (fs:List<|Nat×V)
abbrev H:=ai->Option O
abbrev L:=List (Option V)
noncomputable def H.cq(h:H)(a:ai)(o:O):H:=λx=>if x=a then U o else h x
noncomputable def H.k_(h:H)(a:ai):H:=λx=>if x=a then .none else h x
def H.le(h k:H):Prop:= ∀a o,h a=U o->k a=U o
noncomputable def bc{α:Type}:List (Nat×α)->Nat->Option α
 |[],_=> .none
 |(k,v)::r,n=>cond (bE k n) (U v) (bc r n)
noncomputable def iw{α:Type}:List (Nat×α)->Nat->α->List (Nat×α)
 |[],n,v=>[(n,v)]
 |(k,w)::r,n,v=>cond (bE k n) ((k,v)::r) ((k,w)::iw r n v)
noncomputable def bu:List (Int×V)->Int->Option V
 |[],_=> .none
 |(k,v)::r,n=>if k=n then U v else bu r n
noncomputable def eX:List (Int×V)->Int->V->List (Int×V)
 |[],n,v=>[(n,v)]
 |(k,w)::r,n,v=>if k=n then(k,v)::r else(k,w)::eX r n v
noncomputable def ah{α:Type}:List α->Nat->Option α
 |[],_=> .none
 |x::_,0=>U x
 |_::r,n+1=>ah r n
noncomputable def gh(ρ:L)(i:Nat)(K:V->Prop):Prop:=match ah ρ i with
 |U (U v)=>K v
 |_=>False
noncomputable def cX:L->Nat->V->L
 |[],_,_=>[]
 |_::r,0,v=>U v::r
 |x::r,n+1,v=>x::cX r n v
set_option genCtorIdx true in
inductive jY where|add|sJ|sub|mul|nY|mG|o6|xb
set_option genCtorIdx true in
inductive nj where|eq|ne|lt|le|gt|ge|is|l6|pa|su
set_option genCtorIdx true in
inductive Ty where|int|bool|tuple|str|bytes
inductive Bi where|len|abs|max|min|sum|o5|tuple|list (fr:Bool)|dict (fr:Bool)|bytes|sorted|range|kE|gc (t:Ty)
mutual
inductive E where
 |c (v:V)
 |x (i:Nat)
 |g (k:Nat)
 |dY (o:jY) (a b:E)
 |neg (a:E)
 |nt (a:E)
 |an (a b:E)
 |or (a b:E)
 |eW (o:nj) (a b:E)
 |iz (o p:nj) (a b d:E)
 |ite (t a b:E)
 |tu (es:Es)
 |li (fr:Bool) (es:Es)
 |di (fr:Bool) (ks vs:Es)
 |at(a:E) (f:Nat)
 |ix (a i:E)
 |sl (a l u:E)
 |iK (a:E)
 |call (f:Nat) (es:Es)
 |new (k:Nat) (es:Es)
 |me (a:E) (m:Nat) (es:Es)
 |bi (b:Bi) (es:Es)
 |comp (fr:Bool) (iB:List Nat) (it cond elt:E)
 |gz (a:E)
inductive Es where
 |nil
 |cons (e:E) (r:Es)
end
mutual
inductive Tg where
 |x (i:Nat)
 |at(o:E) (f:Nat)
 |ix (o i:E)
 |aj (ts:ia)
inductive ia where
 |nil
 |cons (t:Tg) (r:ia)
end
mutual
inductive S where
 |expr (e:E)
 |af (t:Tg) (e:E)
 |Ap (i:Nat) (o:jY) (e:E)
 |zE (a:E) (f:Nat) (o:jY) (e:E)
 |Ag (a i:E) (o:jY) (e:E)
 |ite (t:E) (a b:Ss)
 |while (t:E) (b:Ss)
 |for (t:Tg) (it:E) (b:Ss)
 |ret (e:E)
 |bp
 |cont
 |Hv
 |tr (b:Ss)
 |wh (i f:Nat)
 |xH (i:Nat)
inductive Ss where
 |nil
 |cons (s:S) (r:Ss)
end
inductive Fl where|next|brk|cont|ret (v:V)
structure Fn where
 np:Nat
 gS:List V
 nl:Nat
 body:Ss
structure md where
 gw:Nat->Option V
 vE:Nat->Nat->Option V
 ms:Nat->Nat->Option Nat
 mf:Nat->Nat
 nP:Nat->Nat->Bool
 lu:Nat->Option Nat
 fn:Nat->Option Fn
noncomputable def fR:Nat->V->Bool
 |0,_=>ae
 |n+1,v=>match v with
  |.none=>aa
  |.int _=>aa
  |.str _=>aa
  |.a6 _=>aa
  |.aj l=>l.all (fR n)
  |.fl l=>l.all (fR n)
  |_=>ae
noncomputable def sK:V->Bool
 |.none=>aa
 |_=>ae
noncomputable abbrev vi(l:List Int):List V:=l.map V.int
inductive cB (h:H) (J:Prop->Prop):nj->V->V->Prop
 |Mr {i j:Int}:J (i=j)->cB h J .eq (.int i) (.int j)
 |Am {i j:Int}:J (¬i=j)->cB h J .ne (.int i) (.int j)
 |LV {i j:Bool}:J (¬i=j)->cB h J .ne (.bool i) (.bool j)
 |OB {i j:Int}:J (i <j)->cB h J .lt (.int i) (.int j)
 |D3 {i j:Int}:J (i<=j)->cB h J .le (.int i) (.int j)
 |qE {i j:Int}:J (j <i)->cB h J .gt (.int i) (.int j)
 |T0 {i j:Int}:J (j<=i)->cB h J .ge (.int i) (.int j)
 |ZH {s t:Str}:J (s=t)->cB h J .eq (.str s) (.str t)
 |Z4 {i:Int}:J False->cB h J .eq .none (.int i)
 |aM4 {l:List V}:J (l=[])->cB h J .eq (.fl l) (.fl [])
 |T2 {l:List V}:J (¬l=[])->cB h J .ne (.fl l) (.fl [])
 |XY {a:ai} {l:List V}:h a=U (.list l)->J (l=[])->cB h J .eq (.ref a) (.fl [])
 |MD {l:List V}:l.all (fR 7)=aa->J False->cB h J .ne (.aj l) (.aj l)
 |Ht {l:List V}:l.all (fR 7)=aa->J False->cB h J .ne (.fl l) (.fl l)
 |Tu:J True->cB h J .is .none .none
 |aM0 {v:V}:sK v=ae->J False->cB h J .is v .none
 |LA:J False->cB h J .l6 .none .none
 |J_ {v:V}:sK v=ae->J True->cB h J .l6 v .none
 |ab2 {a b c d:Nat} {fs gs:List<|Nat×V}:J (¬a=b)->cB h J .l6 (.fz a c fs) (.fz b d gs)
 |aA1 {es:List<|Int×V} {i:Int}:J ((bu es i).isSome=aa)->cB h J .pa (.int i) (.fd es)
 |U_ {a:ai} {es:List<|Int×V} {i:Int}:h a=U (.dict es)->J ((bu es i).isSome=aa)->cB h J .pa (.int i) (.ref a)
 |ab5 {es:List<|Int×V} {i:Int}:J (¬(bu es i).isSome=aa)->cB h J .su (.int i) (.fd es)
 |YR {a:ai} {es:List<|Int×V} {i:Int}:h a=U (.dict es)->J (¬(bu es i).isSome=aa)->cB h J .su (.int i) (.ref a)
 |LB {l:List Int} {i:Int}:J (i∈l)->cB h J .pa (.int i) (.fl<|vi l)
 |aC0 {l:List Int} {i:Int}:J (i∈l)->cB h J .pa (.int i) (.aj<|vi l)
 |ZE {l:List Int} {i:Int}:J (¬i∈l)->cB h J .su (.int i) (.aj<|vi l)
def a_(n:Nat):Prop:=n<=1000000
def sP(a:Int):Prop:= -9223372036854775808<=a/\a<=9223372036854775808
inductive g6 (h:H) (Q:V->H->Prop):jY->V->V->Prop
 |jb {i j:Int}:Q (.int<|i+j) h->g6 h Q .add (.int i) (.int j)
 |wZ {i j:Int}:Q (.int<|i -j) h->g6 h Q .sub (.int i) (.int j)
 |zR {i j:Int}:sP i->Q (.int<|i*j) h->g6 h Q .mul (.int i) (.int j)
 |at7 {i j:Int}:0 <j->j <1073741824->Q (.int<|i/j) h->g6 h Q .nY (.int i) (.int j)
 |Hi {i j:Int}:0 <j->Q (.int<|i% j) h->g6 h Q .mG (.int i) (.int j)
 |ae0 {i j:Int}:sP i->0<=j->j<=100->Q (.int<|i^j.toNat) h->g6 h Q .o6 (.int i) (.int j)
 |Wz {i j:Int}:0<=j->Q (.int<|i/2^j.toNat) h->g6 h Q .xb (.int i) (.int j)
 |PU {a b:List V}:a_ (a++b).length->Q (.aj<|a++b) h->g6 h Q .add (.aj a) (.aj b)
 |xa {a b:List V}:a_ (a++b).length->Q (.fl<|a++b) h->g6 h Q .add (.fl a) (.fl b)
 |aM2 {x:ai} {a b:List V}:h x=U (.list a)->a_ (a++b).length->Q (.fl<|a++b) h->g6 h Q .add (.ref x) (.fl b)
 |Tv {a b:List V}:a_ (a++b).length->(∀x,h x=Y->Q (.ref x) (h.cq x<|.list<|a++b))->g6 h Q .sJ (.fl a) (.fl b)
inductive mh (h:H) (Q:V->H->Prop):jY->V->V->Prop
 |al8 {i j:Int}:Q (.int<|i+j) h->mh h Q .add (.int i) (.int j)
inductive gj (h:H) (Q:V->H->Prop):V->V->Prop
 |nZ {l:List V} {i:Int} {v:V}:0<=i->i<=4611686018427387904->ah l i.toNat=U v->Q v h->gj h Q (.aj l) (.int i)
 |KY {l:List V} {i:Int} {v:V}:0<=i->i<=4611686018427387904->ah l i.toNat=U v->Q v h->gj h Q (.fl l) (.int i)
 |EA {l:List Int} {i:Int} {v:V}:0<=i->i<=4611686018427387904->ah (vi l) i.toNat=U v->Q v h->gj h Q (.a6 l) (.int i)
 |o_ {a:ai} {l:List V} {i:Int} {v:V}:h a=U (.list l)->0<=i->i<=4611686018427387904->ah l i.toNat=U v->Q v h->gj h Q (.ref a) (.int i)
 |Hg {l:List V} {v:V}:Q v h->gj h Q (.fl<|l++[v]) (.int (-1))
 |BQ {a:ai} {l:List V} {v:V}:h a=U (.list<|l++[v])->Q v h->gj h Q (.ref a) (.int (-1))
 |av6 {es:List<|Int×V} {i:Int} {v:V}:bu es i=U v->Q v h->gj h Q (.fd es) (.int i)
 |OW {a:ai} {es:List<|Int×V} {i:Int} {v:V}:h a=U (.dict es)->bu es i=U v->Q v h->gj h Q (.ref a) (.int i)
noncomputable def cu{α:Type}(l:List α)(a b:Nat):List α:=(l.take b).drop a
inductive ju (h:H) (Q:V->H->Prop):V->V->V->Prop
 |Jc {l:List Int} {i j:Int}:a_ l.length->0<=i->0<=j->Q (.a6<|cu l (min i.toNat l.length)<|min j.toNat l.length) h->ju h Q (.a6 l) (.int i) (.int j)
 |QK {l:List V} {i:Int}:a_ l.length->0<=i->Q (.fl<|cu l (min i.toNat l.length) l.length) h->ju h Q (.fl l) (.int i) .none
 |Zb {l:List V} {j:Int}:a_ l.length->0<=j->Q (.fl<|cu l 0<|min j.toNat l.length) h->ju h Q (.fl l) .none (.int j)
 |aj0 {l:List V} {i j:Int}:a_ l.length->0<=i->0<=j->Q (.fl<|cu l (min i.toNat l.length)<|min j.toNat l.length) h->ju h Q (.fl l) (.int i) (.int j)
 |K4 {a:ai} {l:List V} {i:Int}:h a=U (.list l)->a_ l.length->0<=i->Q (.fl<|cu l (min i.toNat l.length) l.length) h->ju h Q (.ref a) (.int i) .none
 |al6 {l:List Int} {i:Int}:a_ l.length->0<=i->Q (.a6<|cu l (min i.toNat l.length) l.length) h->ju h Q (.a6 l) (.int i) .none
 |aM9 {l:List V} {j:Int}:a_ l.length->0<=j->j <l.length->Q (.aj<|l.take j.toNat) h->ju h Q (.aj l) .none (.int j)
inductive oH (h:H) (Q:V->H->Prop):V->Prop
 |U4 {l:List V}:a_ l.length->Q (.fl l.reverse) h->oH h Q (.fl l)
 |aP0 {a:ai} {l:List V}:h a=U (.list l)->a_ l.length->Q (.fl l.reverse) h->oH h Q (.ref a)
noncomputable def jO(fr:Bool)(l:List V)(h:H)(Q:V->H->Prop):Prop:=match fr with
 |aa=>Q (.fl l) h
 |ae=> ∀a,h a=Y->Q (.ref a) (h.cq a<|.list l)
def v0(fr:Bool)(es:List<|Int×V)(h:H)(Q:V->H->Prop):Prop:=match fr with
 |aa=>Q (.fd es) h
 |ae=> ∀a,h a=Y->Q (.ref a) (h.cq a<|.dict es)
inductive nv (h:H) (Q:V->H->Prop):ai->Prop
 |YE {a:ai} {l:List V}:h a=U (.list l)->Q (.fl l) (h.k_ a)->nv h Q a
 |f_d {a:ai} {es:List (Int×V)}:h a=U (.dict es)->Q (.fd es) (h.k_ a)->nv h Q a
 |f_i {a:ai} {c:Nat} {fs:List (Nat×V)}:h a=U (.aK c fs)->Q (.fz a c fs) (h.k_ a)->nv h Q a
noncomputable def pQ:List V->H->(List V->H->Prop)->Prop
 |[],h,K=>K [] h
 |v::r,h,K=>match v with
  |.ref a=>nv h (λv h=>pQ r h λvs h=>K (v::vs) h) a
  |v=>pQ r h λvs h=>K (v::vs) h
inductive qk (h:H) (Q:V->H->Prop):V->Prop
 |Z3 {a:ai}:nv h Q a->qk h Q (.ref a)
 |at8 {l:List V}:pQ l h (λvs h=>Q (.aj vs) h)->qk h Q (.aj l)
inductive CK (h:H) (f:Nat) (K:H->Prop):V->Prop
 |mk {a b:ai} {c:Nat} {fs:List (Nat×V)}:h a=U (.aK c fs)->bc fs f=U (.ref b)->nv h (λw h=>h a=U (.aK c fs)/\K (h.cq a (.aK c (iw fs f w)))) b->CK h f K (.ref a)
inductive Fi (h:H) (K:V->H->Prop):V->Prop
 |mk {a:ai}:nv h K a->Fi h K (.ref a)
noncomputable def Cj:List V->List V->List (Int×V)->(List (Int×V)->Prop)->Prop
 |.int k::ks,v::vs,es,K=>Cj ks vs (eX es k v) K
 |[],[],es,K=>K es
 |_,_,_,_=>False
inductive j6 (T:md) (h:H) (Q:V->H->Prop):V->Nat->Prop
 |iA {a:ai} {c f:Nat} {fs:List<|Nat×V} {v:V}:bc fs f=U v->Q v h->j6 T h Q (.fz a c fs) f
 |eN {a:ai} {c f:Nat} {fs:List<|Nat×V} {v:V}:h a=U (.aK c fs)->bc fs f=U v->Q v h->j6 T h Q (.ref a) f
 |yA {a:ai} {c f:Nat} {fs:List<|Nat×V} {v:V}:bc fs f=Y->T.vE c f=U v->Q v h->j6 T h Q (.fz a c fs) f
abbrev cW:=Nat->List V->H->(V->H->Prop)->Prop
noncomputable abbrev Yc:Nat:=0
noncomputable abbrev ad6:Nat:=1
noncomputable abbrev xW:Nat:=2
noncomputable abbrev Bz:Nat:=3
noncomputable abbrev AG:Nat:=4
inductive mB (h:H) (Q:V->H->Prop) (a:ai):Nat->List V->Prop
 |vq {l:List V} {v:V}:h a=U (.list l)->a_ (l.length+1)->Q .none (h.cq a<|.list<|l++[v])->mB h Q a Yc [v]
 |E8 {l:List V} {v:V}:h a=U (.list<|l++[v])->a_ l.length->Q v (h.cq a<|.list l)->mB h Q a ad6 []
 |al9 {l k:List V}:h a=U (.list l)->a_ (l++k).length->Q .none (h.cq a<|.list<|l++k)->mB h Q a xW [.fl k]
 |Vr {b:ai} {l k:List V}:h a=U (.list l)->b≠a->h b=U (.list k)->a_ (l++k).length->Q .none (h.cq a (.list (l++k)))->mB h Q a xW [.ref b]
inductive oE (h:H) (Q:V->H->Prop) (es:List (Int×V)):List V->Prop
 |HB {i:Int}:Q ((bu es i).getD .none) h->oE h Q es [.int i]
 |PD {i:Int} {d:V}:Q ((bu es i).getD d) h->oE h Q es [.int i,d]
noncomputable def eh(a s:Int):Nat->List V
 |0=>[]
 |n+1=> .int a::eh (a+s) s n
noncomputable def rt(a b s:Int):Nat:=(if s>0 then(if a <b then(b -a -1)/s+1 else 0) else(if a>b then(a -b -1)/(-s)+1 else 0)).toNat
def ir(a:Int):Prop:= -1099511627776<=a/\a<=1099511627776
noncomputable def mc(n:Int):List V->List V
 |[]=>[]
 |v::r=> .aj [.int n,v]::mc (n+1) r
abbrev It:=List V->(H->Prop)->H->Prop
def bP:H->Prop:=λ_=>True
inductive hY (h:H) (K:It):V->Prop
 |tV {l:List V}:K l bP h->hY h K (.aj l)
 |fJ {l:List V}:K l bP h->hY h K (.fl l)
 |N8 {l:List Int}:K (vi l) bP h->hY h K (.a6 l)
 |xN {s:Str}:K (s.cps.toList.map λc=>V.str ⟨#[c]⟩) bP h->hY h K (.str s)
 |av8 {es:List<|Int×V}:a_ es.length->K (es.map λe=>V.int e.1) bP h->hY h K (.fd es)
 |PP {a:ai} {l:List V}:h a=U (.list l)->K l (λh=>h a=U (.list l)) h->hY h K (.ref a)
inductive jT (h:H) (K:It):List V->Prop
 |ma {b:Int}:ir b->K (eh 0 1 b.toNat) bP h->jT h K [.int b]
 |T5 {a b:Int}:ir a->ir b->K (eh a 1 (b -a).toNat) bP h->jT h K [.int a,.int b]
 |Ca {a b s:Int}:ir a->ir b-> -1000<=s/\s<=1000->s≠0->K (eh a s (rt a b s)) bP h->jT h K [.int a,.int b,.int s]
inductive kU (h:H) (K:It):List V->Prop
 |BJ {l:List V}:K (mc 0 l) bP h->kU h K [.fl l]
 |aG2 {l:List V} {n:Int}:ir n->K (mc n l) bP h->kU h K [.fl l,.int n]
inductive ux (h:H) (K:It):V->Prop
 |aL4 {es:List (Int×V)}:a_ es.length->K (es.map λe=>V.aj [.int e.1,e.2]) bP h->ux h K (.fd es)
noncomputable def dL(a:Int):List Int->Int
 |[]=>a
 |b::r=>dL (if a <b then b else a) r
noncomputable def zq(a:Int):List Int->Int
 |[]=>a
 |b::r=>zq (if b <a then b else a) r
def ef(l:List Int):Prop:= ∀i∈l,0<=i/\i<=255
inductive cj (h:H) (Q:V->H->Prop):Bi->List V->Prop
 |xQ {l:List V}:a_ l.length->Q (.int l.length) h->cj h Q .len [.fl l]
 |ab6 {l:List V}:a_ l.length->Q (.int l.length) h->cj h Q .len [.aj l]
 |Zc {l:List Int}:a_ l.length->Q (.int l.length) h->cj h Q .len [.a6 l]
 |ar1 {l:Str}:a_ l.length->Q (.int l.length) h->cj h Q .len [.str l]
 |aj8 {l:List<|Int×V}:a_ l.length->Q (.int l.length) h->cj h Q .len [.fd l]
 |wy {a:ai} {l:List V}:h a=U (.list l)->a_ l.length->Q (.int l.length) h->cj h Q .len [.ref a]
 |Wy {a:ai} {l:List<|Int×V}:h a=U (.dict l)->a_ l.length->Q (.int l.length) h->cj h Q .len [.ref a]
 |LX {i:Int}:Q (.int i.natAbs) h->cj h Q .abs [.int i]
 |ar3 {i j:Int}:Q (.int<|dL i [j]) h->cj h Q .max [.int i,.int j]
 |aM5 {i j m n:Int}:Q (.int<|dL i [j,m,n]) h->cj h Q .max [.int i,.int j,.int m,.int n]
 |aL3 {i:Int} {l:List Int}:Q (.int<|dL i l) h->cj h Q .max [.fl<|vi<|i::l]
 |IL {i:Int} {l:List Int}:Q (.int<|zq i l) h->cj h Q .min [.aj<|vi<|i::l]
 |Cy {l:List Int}:Q (.int l.sum) h->cj h Q .sum [.fl<|vi l]
 |vM {c:Nat}:Q (.int c) h->cj h Q .o5 [.str ⟨#[c]⟩]
 |Uj {l:List V}:a_ l.length->Q (.aj l) h->cj h Q .tuple [.aj l]
 |aC2 {l:List V}:a_ l.length->Q (.aj l) h->cj h Q .tuple [.fl l]
 |Py {l:List Int}:a_ l.length->Q (.aj<|vi l) h->cj h Q .tuple [.a6 l]
 |aa7 {a:ai} {l:List V}:h a=U (.list l)->a_ l.length->Q (.aj l) h->cj h Q .tuple [.ref a]
 |SK {l:List V}:a_ l.length->Q (.fl l) h->cj h Q (.list aa) [.fl l]
 |WK {l:List Int}:a_ l.length->Q (.fl<|vi l) h->cj h Q (.list aa) [.a6 l]
 |Z6 {a:ai} {l:List V}:h a=U (.list l)->a_ l.length->(∀x,h x=Y->Q (.ref x) (h.cq x<|.list l))->cj h Q (.list ae) [.ref a]
 |aN7 {l:List<|Int×V}:a_ l.length->Q (.fd l) h->cj h Q (.dict aa) [.fd l]
 |aD2 {a:ai} {l:List<|Int×V}:h a=U (.dict l)->a_ l.length->(∀x,h x=Y->Q (.ref x) (h.cq x<|.dict l))->cj h Q (.dict ae) [.ref a]
 |VH {l:List Int}:ef l->a_ l.length->Q (.a6 l) h->cj h Q .bytes [.fl<|vi l]
 |ay6 {a:ai} {l:List Int}:h a=U (.list<|vi l)->ef l->a_ l.length->Q (.a6 l) h->cj h Q .bytes [.ref a]
 |ay7 {a:ai} {es:List<|Int×V}:h a=U (.dict es)->es.length <64->(∀l:List Int,l.Perm (es.map (·.1))->l.Pairwise (· <= ·)->Q (.fl<|vi l) h)->cj h Q .sorted [.ref a]
 |Iu {i:Int}:Q (.bool aa) h->cj h Q (.gc .int) [.int i]
 |LL {i:Int}:Q (.bool ae) h->cj h Q (.gc .bool) [.int i]
 |SQ {l:List V}:Q (.bool aa) h->cj h Q (.gc .tuple) [.aj l]
 |U1 {s:Str}:Q (.bool aa) h->cj h Q (.gc .str) [.str s]
 |ap3 {l:List Int}:Q (.bool aa) h->cj h Q (.gc .bytes) [.a6 l]
noncomputable def dg(B:V->L->H->(Fl->L->H->Prop)->Prop)(g:H->Prop):List V->L->H->(Fl->L->H->Prop)->Prop
 |[],ρ,h,Q=>g h/\Q .next ρ h
 |v::r,ρ,h,Q=>g h/\B v ρ h λf ρ h=>match f with
  |.next=> ∃h',H.le h' h/\dg B g r ρ h' Q
  |.cont=> ∃h',H.le h' h/\dg B g r ρ h' Q
  |.brk=>Q .next ρ h
  |.ret v=>Q (.ret v) ρ h
noncomputable def hO(B:V->H->(Option V->H->Prop)->Prop)(g:H->Prop):List V->H->(List V->H->Prop)->Prop
 |[],h,K=>g h/\K [] h
 |v::r,h,K=>g h/\B v h λo h=>hO B g r h λws h=>match o with
  |U w=>K (w::ws) h
  |.none=>K ws h
noncomputable def iZ(t:L->H->(H->Prop)->(H->Prop)->Prop)(B:L->H->(Fl->L->H->Prop)->Prop):Nat->L->H->(Fl->L->H->Prop)->Prop
 |0,_,_,_=>False
 |n+1,ρ,h,Q=>t ρ h (λh=>B ρ h λf ρ h=>match f with
  |.next=> ∃h',H.le h' h/\iZ t B n ρ h' Q
  |.cont=> ∃h',H.le h' h/\iZ t B n ρ h' Q
  |.brk=>Q .next ρ h
  |.ret v=>Q (.ret v) ρ h) (λh=>Q .next ρ h)
structure Sm where
 v:H->(V->H->Prop)->Prop
 t:H->(H->Prop)->(H->Prop)->Prop
 i:H->It->Prop
inductive tv (h:H) (T F:H->Prop):V->Prop
 |DA {b:Bool}:(b=aa->T h)->(b=ae->F h)->tv h T F (.bool b)
inductive kX (A B:Prop):V->Prop
 |mk {b:Bool}:(b=aa->A)->(b=ae->B)->kX A B (.bool b)
inductive sC (h:H) (Q:V->H->Prop):V->Prop
 |sG {i:Int}:Q (.int (-i)) h->sC h Q (.int i)
inductive sO (h:H) (Q:V->H->Prop):V->Prop
 |JG {b:Bool}:Q (.bool (!b)) h->sO h Q (.bool b)
inductive rQ (A:Prop):V->Prop
 |MA:A->rQ A .none
noncomputable def mk(v:H->(V->H->Prop)->Prop):Sm:=⟨v,λh T F=>v h λv h=>tv h T F v,λh K=>v h λv h=>hY h K v⟩
open Classical in
noncomputable def fD(p:Prop):Bool:=decide p
noncomputable def iB(ρ:L):List Nat->(L->Prop)->Prop
 |[],K=>K []
 |i::r,K=>gh ρ i λv=>iB ρ r λl=>K (U v::l)
inductive lj (T:md) (C:cW) (h:H) (ve:H->(List V->H->Prop)->Prop) (Q:V->H->Prop):Nat->V->Prop
 |Zw {a:ai} {c m f:Nat} {fs:List<|Nat×V}:bc fs (T.mf m)=Y->T.ms c m=U f->ve h (λvs h=>C f (.fz a c fs::vs) h Q)->lj T C h ve Q m (.fz a c fs)
 |jn {a:ai} {c m f:Nat} {fs:List<|Nat×V}:h a=U (.aK c fs)->bc fs (T.mf m)=Y->T.ms c m=U f->ve h (λvs h=>C f (.ref a::vs) h Q)->lj T C h ve Q m (.ref a)
 |aC3 {es:List (Int×V)}:ve h (λvs h=>oE h Q es vs)->lj T C h ve Q Bz (.fd es)
 |as6 {a:ai} {es:List (Int×V)}:h a=U (.dict es)->ve h (λvs h=> ∃es',h a=U (.dict es')/\oE h Q es' vs)->lj T C h ve Q Bz (.ref a)
 |pL {a:ai} {l:List V} {m:Nat}:h a=U (.list l)->eY m xW=aa->ve h (λvs h=>mB h Q a m vs)->lj T C h ve Q m (.ref a)
mutual
noncomputable def ao(T:md)(C:cW):E->L->Sm
 |.c v,_=>mk λh Q=>Q v h
 |.x i,ρ=>mk λh Q=>gh ρ i λv=>Q v h
 |.g k,_=>mk λh Q=>(match T.gw k with|U v=>Q v h|.none=>False)
 |.dY o a b,ρ=>mk λh Q=>(ao T C a ρ).v h λj h=>(ao T C b ρ).v h λe h=>g6 h Q o j e
 |.neg a,ρ=>mk λh Q=>(ao T C a ρ).v h λv h=>sC h Q v
 |.nt a,ρ=>⟨λh Q=>(ao T C a ρ).v h λv h=>sO h Q v,λh c F=>(ao T C a ρ).t h F c,λ_ _=>False⟩
 |.an a b,ρ=>⟨λh Q=>(ao T C a ρ).v h λv h=>kX ((ao T C b ρ).v h Q) (Q (.bool ae) h) v,
   λh c F=>(ao T C a ρ).t h (λh=>(ao T C b ρ).t h c F) F,λ_ _=>False⟩
 |.or a b,ρ=>⟨λh Q=>(ao T C a ρ).v h λv h=>kX (Q (.bool aa) h) ((ao T C b ρ).v h Q) v,
   λh c F=>(ao T C a ρ).t h c λh=>(ao T C b ρ).t h c F,λ_ _=>False⟩
 |.eW o a b,ρ=>⟨λh Q=>(ao T C a ρ).v h λj h=>(ao T C b ρ).v h λe h=>cB h (λp=>Q (.bool<|fD p) h) o j e,
   λh c F=>(ao T C a ρ).v h λj h=>(ao T C b ρ).v h λe h=>cB h (λp=>(p->c h)/\(¬p->F h)) o j e,λ_ _=>False⟩
 |.iz o p a b d,ρ=>⟨λh Q=>(ao T C a ρ).v h λj h=>(ao T C b ρ).v h λe h=>cB h (λr=>(r->(ao T C d ρ).v h λq h=>cB h (λr=>Q (.bool<|fD r) h) p e q)/\(¬r->Q (.bool ae) h)) o j e,
   λh c F=>(ao T C a ρ).v h λj h=>(ao T C b ρ).v h λe h=>cB h (λr=>(r->(ao T C d ρ).v h λq h=>cB h (λr=>(r->c h)/\(¬r->F h)) p e q)/\(¬r->F h)) o j e,λ_ _=>False⟩
 |.ite t a b,ρ=>mk λh Q=>(ao T C t ρ).t h (λh=>(ao T C a ρ).v h Q) (λh=>(ao T C b ρ).v h Q)
 |.tu es,ρ=>mk λh Q=>cP T C es ρ h λvs h=>Q (.aj vs) h
 |.li fr es,ρ=>mk λh Q=>cP T C es ρ h λvs h=>jO fr vs h Q
 |.di fr ks vs,ρ=>mk λh Q=>cP T C ks ρ h λkv h=>cP T C vs ρ h λvv h=>Cj kv vv [] λes=>v0 fr es h Q
 |.at a f,ρ=>mk λh Q=>(ao T C a ρ).v h λv h=>j6 T h Q v f
 |.ix a i,ρ=>mk λh Q=>(ao T C a ρ).v h λv h=>(ao T C i ρ).v h λi h=>gj h Q v i
 |.sl a l u,ρ=>mk λh Q=>(ao T C a ρ).v h λv h=>(ao T C l ρ).v h λl h=>(ao T C u ρ).v h λu h=>ju h Q v l u
 |.iK a,ρ=>mk λh Q=>(ao T C a ρ).v h λv h=>oH h Q v
 |.call f es,ρ=>mk λh Q=>cP T C es ρ h λvs h=>C f vs h Q
 |.new k es,ρ=>mk λh Q=>cP T C es ρ h λvs h=>(match T.lu k with
   |U f=> ∀a,h a= .none->C f (.ref a::vs) (h.cq a<|.aK k []) λv h=>rQ (Q (.ref a) h) v
   |.none=>False)
 |.me a m es,ρ=>⟨λh Q=>(ao T C a ρ).v h λv h=>lj T C h (cP T C es ρ) Q m v,λh c F=>(ao T C a ρ).v h λv h=>lj T C h (cP T C es ρ) (λv h=>tv h c F v) m v,
   λh K=>(ao T C a ρ).v h λv h=>(match bE m AG with|aa=>ux h K v|ae=>False)⟩
 |.bi b es,ρ=>⟨λh Q=>cP T C es ρ h λvs h=>cj h Q b vs,
   λh c F=>cP T C es ρ h λvs h=>cj h (λv h=>tv h c F v) b vs,
   λh K=>cP T C es ρ h λvs h=>(match b with
    |.range=>jT h K vs
    |.kE=>kU h K vs
    |b=>cj h (λv h=>hY h K v) b vs)⟩
 |.comp fr cs it cond elt,ρ=>mk λh Q=>(ao T C it ρ).i h λxs g h=>a_ xs.length/\iB ρ cs λs=>
   hO (λv h K=>(ao T C cond<|U v::s).t h (λh=>(ao T C elt<|U v::s).v h λw h=>K (U w) h) λh=>K .none h) g xs h λws h=>jO fr ws h Q
 |.gz a,ρ=>mk λh Q=>(ao T C a ρ).v h λv h=>qk h Q v
noncomputable def cP(T:md)(C:cW):Es->L->H->(List V->H->Prop)->Prop
 |.nil,_,h,K=>K [] h
 |.cons e r,ρ,h,K=>(ao T C e ρ).v h λv h=>cP T C r ρ h λvs h=>K (v::vs) h
end
inductive oq (T:md) (h:H) (f:Nat) (w:V) (K:H->Prop):V->Prop
 |WN {a:ai} {c:Nat} {fs:List (Nat×V)}:h a=U (.aK c fs)->T.nP c f=aa->eY fs.length 100=aa->K (h.cq a (.aK c (iw fs f w)))->oq T h f w K (.ref a)
noncomputable def d_{α:Type}:List α->Nat->α->List α
 |[],_,_=>[]
 |_::r,0,v=>v::r
 |x::r,n+1,v=>x::d_ r n v
inductive nF (h:H) (w:V) (K:H->Prop):V->V->Prop
 |Eh {a:ai} {l:List V} {i:Int}:h a=U (.list l)->0<=i->i <l.length->a_ l.length->K (h.cq a (.list (d_ l i.toNat w)))->nF h w K (.ref a) (.int i)
 |L_ {a:ai} {es:List (Int×V)} {i:Int}:h a=U (.dict es)->a_ es.length->K (h.cq a (.dict (eX es i w)))->nF h w K (.ref a) (.int i)
noncomputable def o9:ia->Nat
 |.nil=>0
 |.cons _ r=>o9 r+1
inductive jp (h:H) (K:List V->Prop):V->Prop
 |BY {l:List V}:K l->jp h K (.aj l)
 |JA {l:List V}:K l->jp h K (.fl l)
 |aN8 {l:List Int}:K (vi l)->jp h K (.a6 l)
 |PX {a:ai} {l:List V}:h a=U (.list l)->K l->jp h K (.ref a)
mutual
noncomputable def af(T:md)(C:cW):Tg->V->L->H->(L->H->Prop)->Prop
 |.x i,v,ρ,h,K=>K (cX ρ i v) h
 |.at o f,v,ρ,h,K=>(ao T C o ρ).v h λw h=>oq T h f v (λh=>K ρ h) w
 |.ix o i,v,ρ,h,K=>(ao T C o ρ).v h λw h=>(ao T C i ρ).v h λj h=>nF h v (λh=>K ρ h) w j
 |.aj ts,v,ρ,h,K=>jp h (λl=>match bE l.length (o9 ts) with
  |aa=>lQ T C ts l ρ h K
  |ae=>False) v
noncomputable def lQ(T:md)(C:cW):ia->List V->L->H->(L->H->Prop)->Prop
 |.nil,[],ρ,h,K=>K ρ h
 |.cons t r,v::vs,ρ,h,K=>af T C t v ρ h λρ h=>lQ T C r vs ρ h K
 |_,_,_,_,_=>False
end
mutual
noncomputable def ex(T:md)(C:cW):S->L->H->(Fl->L->H->Prop)->Prop
 |.expr e,ρ,h,Q=>(ao T C e ρ).v h λ_ h=>Q .next ρ h
 |.af t e,ρ,h,Q=>(ao T C e ρ).v h λv h=>af T C t v ρ h λρ h=>Q .next ρ h
 |.Ap i o e,ρ,h,Q=>gh ρ i λa=>(ao T C e ρ).v h λb h=>mh h (λv h=>Q .next (cX ρ i v) h) o a b
 |.zE a f o e,ρ,h,Q=>(ao T C a ρ).v h λc h=>j6 T h (λx h=>(ao T C e ρ).v h λb h=>mh h (λv h=>oq T h f v (λh=>Q .next ρ h) c) o x b) c f
 |.Ag a i o e,ρ,h,Q=>(ao T C a ρ).v h λc h=>(ao T C i ρ).v h λvi h=>gj h (λx h=>(ao T C e ρ).v h λb h=>mh h (λv h=>nF h v (λh=>Q .next ρ h) c vi) o x b) c vi
 |.ite t a b,ρ,h,Q=>(ao T C t ρ).t h (λh=>aZ T C a ρ h Q) (λh=>aZ T C b ρ h Q)
 |.while t b,ρ,h,Q=> ∃n,iZ (λρ h j F=>(ao T C t ρ).t h j F) (λρ h Q=>aZ T C b ρ h Q) n ρ h Q
 |.for t it b,ρ,h,Q=>(ao T C it ρ).i h λxs g h=>dg (λv ρ h Q=>af T C t v ρ h λρ h=>aZ T C b ρ h Q) g xs ρ h Q
 |.ret e,ρ,h,Q=>(ao T C e ρ).v h λv h=>Q (.ret v) ρ h
 |.bp,_,_,_=>False
 |.cont,ρ,h,Q=>Q .cont ρ h
 |.Hv,ρ,h,Q=>Q .next ρ h
 |.tr b,ρ,h,Q=>aZ T C b ρ h Q
 |.wh i f,ρ,h,Q=>gh ρ i λv=>CK h f (λh=>Q .next ρ h) v
 |.xH i,ρ,h,Q=>gh ρ i λv=>Fi h (λw h=>Q .next (cX ρ i w) h) v
noncomputable def aZ(T:md)(C:cW):Ss->L->H->(Fl->L->H->Prop)->Prop
 |.nil,ρ,h,Q=>Q .next ρ h
 |.cons s r,ρ,h,Q=>ex T C s ρ h λf ρ h=>match f with
  |.next=>aZ T C r ρ h Q
  |f=>Q f ρ h
end
def oz(f:Fn)(vs:List V):Option L:=
 if vs.length<=f.np/\f.np<=vs.length+f.gS.length then
  U ((vs++f.gS.drop (f.gS.length -(f.np -vs.length))).map U++gn (f.nl -f.np) .none)
 else .none
noncomputable def vN:Fl->V
 |.ret v=>v
 |_=> .none
noncomputable def al(T:md):Nat->cW
 |0,_,_,_,_=>False
 |d+1,f,vs,h,Q=>(T.fn f).elim False λfn=>(oz fn vs).elim False λρ=>aZ T (al T d) fn.body ρ h λfl _ h=> ∃h',H.le h' h/\Q (vN fl) h'
namespace P
noncomputable abbrev bb(o:jY)(a b:E):E:= .dY o a b
noncomputable abbrev cc(o:nj)(a b:E):E:= .eW o a b
noncomputable abbrev vx(n:Nat):E:= .x n
noncomputable abbrev vt(n:Nat):Tg:= .x n
noncomputable abbrev nE:Es:= .nil
noncomputable abbrev nT:ia:= .nil
noncomputable abbrev nS:Ss:= .nil
abbrev aJ(a b:E):=bb .add a b
abbrev JZ(a b:E):=bb .sJ a b
abbrev hQ(a b:E):=bb .nY a b
abbrev io(a b:E):=bb .mG a b
abbrev bY(a b:E):=bb .mul a b
abbrev mF(a b:E):=bb .o6 a b
abbrev CV(a b:E):=bb .xb a b
abbrev cL(a b:E):=bb .sub a b
abbrev aS(a b:E):=cc .eq a b
abbrev gW(a b:E):=cc .ge a b
abbrev dF(a b:E):=cc .gt a b
abbrev je(a b:E):=cc .is a b
abbrev r5(a b:E):=cc .pa a b
abbrev la(a b:E):=cc .l6 a b
abbrev CI(a b:E):=cc .le a b
abbrev fQ(a b:E):=cc .lt a b
abbrev cm(a b:E):=cc .ne a b
abbrev v3(a b:E):=cc .su a b
noncomputable abbrev i(n:Int):E:= .c (.int n)
abbrev x0:=vx 0
abbrev x1:=vx 1
abbrev x2:=vx 2
abbrev x3:=vx 3
abbrev x4:=vx 4
abbrev x5:=vx 5
abbrev x6:=vx 6
abbrev x7:=vx 7
abbrev x8:=vx 8
abbrev x9:=vx 9
abbrev x10:=vx 10
abbrev cA:=vx 11
abbrev kG:=vx 12
abbrev pV:=vx 13
abbrev l8:=vx 14
abbrev nA:=vx 15
abbrev mA:=vx 16
abbrev tJ:=vx 17
abbrev zo:=vx 18
abbrev xO:=vx 19
abbrev EW:=vx 20
abbrev lW:=vx 21
abbrev dW:=vx 22
abbrev k7:=vx 23
abbrev x24:=vx 24
abbrev y1:=vt 1
abbrev y2:=vt 2
abbrev y3:=vt 3
abbrev y4:=vt 4
abbrev y5:=vt 5
abbrev y6:=vt 6
abbrev y7:=vt 7
abbrev y8:=vt 8
abbrev y9:=vt 9
abbrev j7:=vt 10
abbrev rn:=vt 11
abbrev yR:=vt 12
abbrev Cr:=vt 13
abbrev DR:=vt 14
abbrev MH:=vt 15
abbrev Pn:=vt 16
abbrev y17:=vt 17
abbrev y18:=vt 18
abbrev ZM:=vt 19
abbrev Va:=vt 20
abbrev Kb:=vt 21
abbrev y22:=vt 22
abbrev Xu:=vt 23
abbrev ZX:=vt 24
noncomputable abbrev Qq(a:E)(r:Es):Es:= .cons a r
abbrev L4(a b:E)(r:Es):Es:= .cons a (Qq b r)
abbrev Qo(b c a:E)(r:Es):Es:= .cons b (L4 c a r)
abbrev NU(b c e a:E)(r:Es):Es:= .cons b (Qo c e a r)
abbrev KN(b c e a a4:E)(r:Es):Es:= .cons b (NU c e a a4 r)
abbrev w5(b c f a a4 e:E)(r:Es):Es:= .cons b (KN c f a a4 e r)
abbrev e1(a:E):=Qq a nE
abbrev e2(a b:E):=L4 a b nE
abbrev e3(b c a:E):=Qo b c a nE
abbrev e4(c e b a:E):=NU c e b a nE
abbrev e5(b c e a a4:E):=KN b c e a a4 nE
abbrev e6(b c f a a4 e:E):=w5 b c f a a4 e nE
noncomputable abbrev tc1(a:Tg)(r:ia):ia:= .cons a r
abbrev IZ(a b:Tg)(r:ia):ia:= .cons a (tc1 b r)
abbrev LH(b c a:Tg)(r:ia):ia:= .cons b (IZ c a r)
abbrev tc4(b c e a:Tg)(r:ia):ia:= .cons b (LH c e a r)
abbrev t2(a b:Tg):=IZ a b nT
abbrev t3(b c a:Tg):=LH b c a nT
abbrev t4(c e b a:Tg):=tc4 c e b a nT
noncomputable abbrev kB(a:S)(r:Ss):Ss:= .cons a r
abbrev mQ(a b:S)(r:Ss):Ss:= .cons a (kB b r)
abbrev t_(b c a:S)(r:Ss):Ss:= .cons b (mQ c a r)
abbrev tZ(b c e a:S)(r:Ss):Ss:= .cons b (t_ c e a r)
abbrev z7(b c e a a4:S)(r:Ss):Ss:= .cons b (tZ c e a a4 r)
abbrev dU(b c f a a4 e:S)(r:Ss):Ss:= .cons b (z7 c f a a4 e r)
abbrev s1(a:S):=kB a nS
abbrev s2(a b:S):=mQ a b nS
abbrev s3(b c a:S):=t_ b c a nS
abbrev s4(c e b a:S):=tZ c e b a nS
abbrev s5(b c e a a4:S):=z7 b c e a a4 nS
abbrev s6(b c f a a4 e:S):=dU b c f a a4 e nS
end P
section
open P
abbrev b0:Ss:=s1 (.ret<|.an (.bi (.gc .int)<|e1 x0)<|.an (.nt<|.bi (.gc .bool)<|e1 x0)<|.iz .le .le x1 x0 x2)
def f0:Fn:=⟨3,[],3,b0⟩
abbrev b1:Ss:=s2 (.ite (.or (.nt<|.bi (.gc .int)<|e1 x0)<|.bi (.gc .bool)<|e1 x0) (s1 .bp) .nil) (.ret x0)
def f1:Fn:=⟨1,[],1,b1⟩
abbrev b2:Ss:=s2 (.ite (.nt<|.iz .le .le (.neg<|.g 0) (.call 1<|e1 x0)<|.g 0) (s1 .bp) .nil) (.ret x0)
def f2:Fn:=⟨1,[],1,b2⟩
abbrev b3:Ss:=s2 (.ite (.nt<|.iz .le .le (.neg<|.g 1) (.call 1<|e1 x0)<|.g 1) (s1 .bp) .nil) (.ret x0)
def f3:Fn:=⟨1,[],1,b3⟩
abbrev b4:Ss:=s3 (.ite (CI x1<|i 0) (s1 .bp) .nil) (.ite (fQ x0<|i 0) (s1<|.ret<|.neg<|hQ (cL x1<|bY (i 2) x0)<|bY (i 2) x1) .nil) (.ret<|hQ (aJ (bY (i 2) x0) x1)<|bY (i 2) x1)
def f4:Fn:=⟨2,[],2,b4⟩
abbrev b5:Ss:=s3 (.af (.at x0 0)<|i 0) (.af (.at x0 1)<|.li aa<|e4 (i 0) (i 0) (i 0)<|i 0) (.af (.at x0 2)<|.li aa<|e4 (i 0) (i 0) (i 0)<|i 0)
def f5:Fn:=⟨1,[],1,b5⟩
abbrev b6:Ss:=s1 (.zE x0 0 .add x1)
def f6:Fn:=⟨2,[],2,b6⟩
abbrev b7:Ss:=s1 (.ret<|.call 0<|e3 x0 (.neg<|.g 1)<|.g 1)
def f7:Fn:=⟨1,[],1,b7⟩
def f8:Fn:=⟨1,[],2,s1<|.for y1 x0<|s1<|.ite (.nt<|.call 7<|e1 x1) (s1 .bp) .nil⟩
def f9:Fn:=⟨2,[],6,s1<|.for (.aj<|t2 y2 y3) (.me x0 4 .nil)<|s5 (.ite (.or (.nt<|.call 0<|e3 x2 (i 0)<|i 255)<|.or (.nt<|.bi (.gc .tuple)<|e1 x3)<|cm (.bi .len<|e1 x3)<|i 6) (s1 .bp) .nil) (.expr<|.call 8<|e1<|.sl x3 (.c .none)<|i 4) (.af (.aj<|t2 y4 y5)<|.tu<|e2 (.ix x3<|i 4)<|.ix x3<|i 5) (.ite (.nt<|.call 0<|e3 x4 (.g 2)<|.g 3) (s1 .bp) .nil)<|.ite (aS x4<|.g 3) (s1<|.expr<|.call 111<|e2 x5 x0)<|s1<|.ite (.or (.nt<|.call 0<|e3 x5 (i 0)<|i 255)<|.an (aS x4<|.g 4)<|gW x5 x1) (s1 .bp) .nil⟩
def f10:Fn:=⟨1,[],4,s1<|.for y1 x0<|s2 (.af (.aj<|t2 y2 y3)<|.tu<|e2 x1<|i 0)<|.while (.an (r5 x2 x0)<|aS (.ix (.ix x0 x2)<|i 4)<|.g 5)<|s3 (.af y2<|.ix (.ix x0 x2)<|i 5) (.af y3<|aJ x3<|i 1)<|.ite (dF x3<|.bi .len<|e1 x0) (s1 .bp) .nil⟩
abbrev Ct:Ss:=dU (.ite (.or (.nt<|.bi (.gc .tuple)<|e1 x6)<|cm (.bi .len<|e1 x6)<|i 4) (s1 .bp) .nil) (.for y7 x6<|s1<|.ite (.nt<|.call 0<|e3 x7 (i 0)<|i 255) (s1 .bp) .nil) (.af (.aj<|t4 y8 y9 j7 rn) x6) (.ite (dF x8<|.g 6) (s2 (.ite (gW (aJ (bY (i 256) x10) cA) x4) (s1 .bp) .nil) .cont) .nil) (.ite (.an (cm x9 x3)<|v3 x9 x2) (s1 .bp) .nil) (.ite (.or (.an (fQ x10<|.g 7)<|v3 cA x2)<|.an (gW x10<|.g 7)<|gW (aJ (bY (i 256)<|cL x10<|.g 7) cA)<|.bi .len<|e1 x1) (s1 .bp) .nil) (s1<|.ite (.an (fQ x8<|.g 6)<|gW (aJ (aJ x5 x8)<|i 1) x4) (s1 .bp) .nil)
def O2:Fn:=⟨4,[],12,s2 (.af y4<|.bi .len<|e1 x0)<|.for (.aj<|t2 y5 y6) (.bi .kE<|e1 x0) Ct⟩
def f12:Fn:=⟨1,[],5,s3 (.ite (aS (.bi .len<|e1 x0)<|i 0) (s1<|.ret<|.neg<|i 1) .nil) (.af (.aj<|t4 y1 y2 y3 y4)<|.ix x0<|.neg<|i 1)<|.ret<|.ite (aS x1<|.g 8) (aJ (bY (i 256) x3) x4)<|.neg<|i 1⟩
def Uw:Fn:=⟨9,[.aj [],.aj [],.int 256],9,dU (.ite (.or (.nt<|.call 0<|e3 x1 (i 1)<|.g 9)<|.or (.nt<|.bi (.gc .str)<|e1 x2)<|.or (aS x2<|.c<|.str<|eF "")<|.nt<|.call 0<|e3 x3 (i 1)<|.g 10) (s1 .bp) .nil) (.ite (.or (.nt<|.call 0<|e3 x8 (i 0)<|.g 11)<|dF (.bi .len<|e1 x4)<|.g 12) (s1 .bp) .nil) (.expr<|.call 8<|e1 x4) (.expr<|.call 8<|e1 x7) (.expr<|.call 9<|e2 x5<|.bi .len<|e1 x6) (.expr<|.call 10<|e1 x5)<|dU (.expr<|.call 11<|e4 x6 x7 x5 x8) (.af (.at x0 3) x1) (.af (.at x0 4) x2) (.af (.at x0 5) x3) (.af (.at x0 6) x3) (.af (.at x0 7)<|i 0)<|dU (.af (.at x0 8)<|.bi (.list aa)<|e1 x4) (.af (.at x0 9)<|.bi (.dict aa)<|e1 x5) (.af (.at x0 10)<|.bi .tuple<|e1 x6) (.af (.at x0 11)<|.bi .tuple<|e1 x7) (.af (.at x0 12) x8) (.af (.at x0 13)<|.call 12<|e1 x6)<|s2 (.af (.at x0 14)<|i 45)<|.af (.at x0 15)<|.neg<|i 1⟩
def f14:Fn:=⟨2,[],2,s1<|.ret<|r5 x1 (.at x0 9)⟩
def f15:Fn:=⟨2,[],2,s1<|.ret<|.ix (.me (.at x0 9) 3<|e2 x1<|.g 13)<|i 0⟩
def f16:Fn:=⟨2,[],2,s1<|.ret<|.ix (.me (.at x0 9) 3<|e2 x1<|.g 13)<|i 1⟩
def Xz:Fn:=⟨2,[],2,s1<|.ret<|.ix (.me (.at x0 9) 3<|e2 x1<|.g 13)<|i 2⟩
def f18:Fn:=⟨2,[],3,s3 (.ite (aS x1<|.g 11) (s1<|.ret (.at x0 13)) .nil) (.af y2<|.me (.at x0 9) 3<|e2 x1<|.g 13)<|.ret<|.ite (aS (.ix x2<|i 4)<|.g 4) (.ix x2<|i 5)<|.neg<|i 1⟩
def ZB:Fn:=⟨1,[],3,s3 (.af (.aj<|t2 y1 y2)<|.tu<|e2 x0<|i 16) (.while (gW x1<|i 8388608)<|s2 (.af y1<|hQ x1<|i 2)<|.af y2<|bY (i 2) x2)<|.ret<|.tu<|e2 x1 x2⟩
def f20:Fn:=⟨3,[],8,s6 (.af (.aj<|t4 y3 y4 y5 y6) x0) (.af y7<|aJ (hQ (aJ (hQ (bY x6 x1)<|i 256)<|bY x5 x1)<|i 256)<|bY x4 x1) (.af y7<|hQ x7<|hQ (i 256) x2) (.ite (aS x3<|i 0) (s1<|.ret x7) .nil) (.ite (aS x3<|i 255) (s1<|.ret<|cL x7<|bY x2 x1) .nil) .bp⟩
def Vj:Fn:=⟨1,[],7,dU (.ite (fQ (.bi .len<|e1 x0)<|i 24) (s1 .bp) .nil) (.af y1<|.comp aa [0] (.bi .range<|e1<|i 12) (.c<|.bool aa)<|aJ (bY (i 256)<|.ix x1<|bY (i 2) x0)<|.ix x1<|aJ (bY (i 2) x0)<|i 1) (.for y2 x1<|s1<|.ite (dF x2<|.g 14) (s1 .bp) .nil) (.af (.aj<|t4 y3 y4 y5 y6)<|.sl x1 (.c .none)<|i 4) (.ite (.or (fQ x4<|i 2)<|.or (dF x6<|i 255)<|.or (dF x5<|aJ x6<|i 1)<|r5 (i 0)<|.sl x1 (i 4)<|i 8) (s1 .bp) .nil) (.ite (.or (cm x3<|aJ (aJ (cL (aJ (aJ (i 6) x4) x6) x5)<|i 1)<|.bi .sum<|e1<|.sl x1 (i 4)<|.c .none)<|fQ (.bi .len<|e1 x0)<|bY (i 4) x3) (s1 .bp) .nil)<|s1<|.ret x1⟩
def XC:Fn:=⟨4,[],6,s2 (.af (.aj<|t2 y4 y5)<|.call 19<|e1 x3)<|.ret<|.comp aa [4,5,0] (.bi .range<|e3 x1 (aJ x1<|bY (i 4) x2)<|i 4) (.c<|.bool aa)<|.call 20<|e3 (.sl x3 x0<|aJ x0<|i 4) x1 x2⟩
def KJ:Fn:=⟨3,[],3,s1<|.ret<|.comp aa [0] (.bi .range<|e3 x1 (aJ x1<|bY (i 4) x2)<|i 4) (.c<|.bool aa)<|.bi .tuple<|e1<|.sl x1 x0<|aJ x0<|i 4⟩
def f24:Fn:=⟨3,[],11,s6 (.af y3<|.di ae .nil .nil) (.af (.aj<|t2 y4 y5)<|.tu<|e2 (.ix x2<|i 2)<|.ix x2<|i 3) (.for (.aj<|t2 y6 y7) (.bi .kE<|e2 (.call 23<|e3 x0 x1<|aJ (cL x5 x4)<|i 1) x4)<|s6 (.af y8<|.tu<|e6 (.ix x7<|i 0) (hQ (.ix x7<|i 1)<|i 16) (io (.ix x7<|i 1)<|i 16) (hQ (.ix x7<|i 2)<|i 4) (io (.ix x7<|i 2)<|i 4)<|.ix x7<|i 3) (.ite (.or (gW (.ix x8<|i 0)<|.ix x2<|i 4)<|.or (gW (.ix x8<|i 1)<|.ix x2<|i 5)<|.or (gW (.ix x8<|i 2)<|.ix x2<|i 6)<|gW (.ix x8<|i 3)<|.ix x2<|i 7) (s1 .bp) .nil) (.af (.aj<|t2 y9 j7)<|.tu<|e2 (.ix x8<|i 4)<|.ix x8<|i 5) (.ite (.or (.an (aS x9<|.g 4)<|gW x10<|.ix x2<|i 8)<|.an (aS x9<|.g 3)<|gW x10<|.ix x2<|i 10) (s1 .bp) .nil) (.ite (.an (aS x9<|.g 5)<|.nt<|.iz .le .le x4 x10 x5) (s1 .bp) .nil)<|.af (.ix x3 x6) x8) (.xH 3) (.expr<|.call 10<|e1 x3)<|.ret x3⟩
def X6:Fn:=⟨3,[],8,s4 (.af y3<|.di ae .nil .nil) (.for (.aj<|t2 y4 y5) (.me x0 4 .nil)<|s1<|.ite (dF (.ix x5<|i 0)<|i 0) (s2 (.af y6<|.ite (aS (.ix x5<|i 4)<|.g 3) (.ix x2<|.ix x5<|i 5)<|.ix x5<|i 5)<|.af (.ix x3 x4)<|.tu<|e6 (.ix (.ix x1<|i 0)<|.ix x5<|i 0) (.ix (.ix x1<|i 1)<|.ix x5<|i 1) (.ix (.ix x1<|i 2)<|.ix x5<|i 2) (.ix (.ix x1<|i 3)<|.ix x5<|i 3) (.ix x5<|i 4) x6) .nil) (.for y7 x2<|s1<|.expr<|.call 111<|e2 x7 x3)<|.ret<|.gz x3⟩
def VQ:Fn:=⟨4,[],9,s4 (.ite (aS x2<|i 0) (s1<|.ret<|.li aa .nil) .nil) (.af (.aj<|t4 y4 y5 y6 y7)<|.sl x0 x1<|aJ x1<|i 4) (.af y8<|aJ (bY (aJ (bY (aJ (bY (.ite (dF x4<|i 127) (cL x4<|i 256) x4)<|i 256) x5)<|i 256) x6)<|i 16)<|hQ x7<|i 16)<|.ret<|aJ (.li aa<|e1 x8)<|.call 22<|e4 x0 (aJ x1<|i 4) (cL x2<|i 1) x3⟩
def f27:Fn:=⟨1,[],3,s4 (.af y1<|.sl x0 (i 28)<|i 32) (.af y2<|hQ (aJ (aJ (aJ (bY (i 16777216)<|.ix x1<|i 0)<|bY (i 65536)<|.ix x1<|i 1)<|bY (i 256)<|.ix x1<|i 2)<|.ix x1<|i 3)<|i 16) (.ite (.or (dF (.ix x1<|i 0)<|i 127)<|fQ x2<|.g 15) (s1 .bp) .nil)<|.ret<|.tu<|e2 (aJ (aJ (aJ (bY (i 16777216)<|.ix x0<|i 24)<|bY (i 65536)<|.ix x0<|i 25)<|bY (i 256)<|.ix x0<|i 26)<|.ix x0<|i 27) x2⟩
def TZ:Fn:=⟨4,[.none],17,dU (.ite (.nt<|.bi (.gc .bytes)<|e1 x0) (s1 .bp) .nil) (.af y4<|.call 21<|e1 x0) (.af (.aj<|t2 y5 y6)<|.call 27<|e1 x0) (.af y7<|.ite (je x3<|.c .none) x6 x3) (.ite (.nt<|.call 0<|e3 x7 (i 1)<|.g 10) (s1 .bp) .nil) (.af y8<|aJ (i 24)<|bY (i 4)<|.ix x4<|i 1)<|dU (.af y9<|.call 24<|e3 x0 x8 x4) (.af y8<|aJ x8<|bY (i 4)<|aJ (cL (.ix x4<|i 3)<|.ix x4<|i 2)<|i 1) (.af j7<|.li ae .nil) (.for rn (.sl x4 (i 4)<|i 8)<|s3 (.expr<|.me x10 0<|e1<|.call 22<|e4 x0 x8 cA x7) (.ite (cm (.ix (.ix x10<|.neg<|i 1)<|i 0)<|i 0) (s1 .bp) .nil)<|.af y8<|aJ x8<|bY (i 4) cA) (.af yR<|.call 23<|e3 x0 x8<|.ix x4<|i 8) (.af y8<|aJ x8<|bY (i 4)<|.ix x4<|i 8)<|dU (.af Cr<|.call 22<|e4 x0 x8 (.ix x4<|i 9) x7) (.af y8<|aJ x8<|bY (i 4)<|.ix x4<|i 9) (.af DR<|.call 25<|e3 x9 x10<|.call 23<|e3 x0 x8<|.ix x4<|i 10) (.af MH<|.call 26<|e4 x0 (aJ x8<|bY (i 4)<|.ix x4<|i 10) (.ix x4<|i 11) x7) (.af Pn<|.new 1<|w5 x1 x2 x7 nA l8 kG<|e2 pV<|.call 31<|e1 kG) (.af (.at mA 7) x5)<|s2 (.af (.at mA 6) x6)<|.ret<|.gz mA⟩
def wG:Fn:=⟨4,[],5,s3 (.ite (.nt<|.call 0<|e3 x3 (i 1)<|i 32768) (s1 .bp) .nil) (.af y4 (.at (.call 28<|e3 x0 x1 x2) 6))<|.ret<|.call 28<|e4 x0 x1 x2<|hQ (bY x4 x3)<|i 1000⟩
abbrev Co:Ss:=s1 (.ret<|.call 28<|e4 x0 x1 x2 x3)
def vu:Fn:=⟨5,[],5,s2 (.ite (dF x3<|i 0) Co .nil)<|.ret<|.call 29<|e4 x0 x1 x2 x4⟩
def Z2:Fn:=⟨1,[],1,s1<|.ret<|.ite (.an (dF (.bi .len<|e1 x0)<|i 0)<|aS (.ix (.ix x0<|i 0)<|i 0)<|.g 8) (.ix (.ix x0<|i 0)<|i 1)<|.g 11⟩
def Uv:Fn:=⟨1,[],1,s2 (.ite (.nt<|.call 0<|e3 x0 (i 0)<|i 255) (s1 .bp) .nil)<|.ret x0⟩
def f33:Fn:=⟨3,[],3,s2 (.af (.at x0 16) x1)<|.af (.at x0 17)<|.call 32<|e1 x2⟩
def f34:Fn:=⟨6,[.bool ae,.bool ae],6,s5 (.af (.at x0 16) x1) (.af (.at x0 17)<|.call 32<|e1 x2) (.af (.at x0 18)<|.bi .tuple<|e1<|.comp aa [] x3 (.c<|.bool aa)<|.call 32<|e1 x0) (.af (.at x0 19) x4)<|.af (.at x0 20) x5⟩
def f35:Fn:=⟨6,[],6,dU (.ite (.nt<|.call 0<|e3 x1 (.g 16)<|.g 17) (s1 .bp) .nil) (.af (.at x0 21) x1) (.af (.at x0 22)<|.call 3<|e1 x2) (.af (.at x0 23)<|.call 3<|e1 x3) (.af (.at x0 24)<|.call 3<|e1 x4) (.af (.at x0 25) x5)<|s4 (.af (.at x0 26)<|i 0) (.af (.at x0 27)<|.g 18) (.af (.at x0 28)<|i 0)<|.af (.at x0 29)<|.tu<|e2 (i 0)<|i 1⟩
def f36:Fn:=⟨3,[],3,s3 (.ite (.nt<|.call 0<|e3 x2 (.g 19)<|.g 20) (s1 .bp) .nil) (.af (.at x0 22)<|.call 3<|e1 x1)<|.af (.at x0 30) x2⟩
def V0:Fn:=⟨1,[],2,dU (.af y1 (.at x0 21)) (.ite (.or (aS x1<|.g 21)<|aS x1<|.g 22) (s1<|.ret<|.me (.at x0 16) 5<|e1 (.at x0 17)) .nil) (.ite (.or (aS x1<|.g 16)<|.or (aS x1<|.g 17)<|.or (aS x1<|.g 23)<|.or (aS x1<|.g 24)<|aS x1<|.g 25) (s1<|.ret (.at x0 22)) .nil) (.ite (aS x1<|.g 26) (s1<|.ret<|.ite (je (.at x0 22)<|.c .none) (i 0) (.at x0 22)) .nil) (.ite (aS x1<|.g 27) (s1<|.ret (.at (.at x0 31) 22)) .nil) (.ite (aS x1<|.g 28) (s1<|.ret<|.bi .sum<|e1<|.comp aa [] (.at x0 32) (.c<|.bool aa)<|.call 37<|e1 x0) .nil)<|s1<|.ret<|i 0⟩
def VD:Fn:=⟨1,[],2,dU (.af y1 (.at x0 21)) (.ite (.or (aS x1<|.g 21)<|aS x1<|.g 22) (s1<|.ret<|.me (.at x0 16) 6<|e1 (.at x0 17)) .nil) (.ite (.or (aS x1<|.g 16)<|.or (aS x1<|.g 17)<|aS x1<|.g 25) (s1<|.ret (.at x0 23)) .nil) (.ite (aS x1<|.g 26) (s1<|.ret<|.ite (je (.at x0 23)<|.c .none) (i 0) (.at x0 23)) .nil) (.ite (.an (aS x1<|.g 27)<|la (.at x0 33)<|.c .none) (s1<|.ret<|.call 38<|e1 (.at x0 33)) .nil) (.ite (aS x1<|.g 28) (s1<|.ret<|.bi .max<|e1<|aJ (.li aa<|e1<|i 0)<|.comp aa [] (.at x0 32) (.c<|.bool aa)<|.call 40<|e1 x0) .nil)<|s1<|.ret<|i 0⟩
def VZ:Fn:=⟨1,[],2,dU (.af y1 (.at x0 21)) (.ite (.or (aS x1<|.g 21)<|aS x1<|.g 22) (s1<|.ret<|.me (.at x0 16) 7<|e1 (.at x0 17)) .nil) (.ite (.or (aS x1<|.g 16)<|.or (aS x1<|.g 17)<|aS x1<|.g 25) (s1<|.ret (.at x0 24)) .nil) (.ite (aS x1<|.g 26) (s1<|.ret<|.ite (je (.at x0 24)<|.c .none) (i 0) (.at x0 24)) .nil) (.ite (.an (aS x1<|.g 27)<|la (.at x0 33)<|.c .none) (s1<|.ret<|.call 39<|e1 (.at x0 33)) .nil) (.ite (aS x1<|.g 28) (s1<|.ret<|.bi .max<|e1<|aJ (.li aa<|e1<|i 0)<|.comp aa [] (.at x0 32) (.c<|.bool aa)<|.call 41<|e1 x0) .nil)<|s1<|.ret<|i 0⟩
def XK:Fn:=⟨1,[],1,s2 (.ite (.or (aS (.at x0 21)<|.g 16)<|aS (.at x0 21)<|.g 17) (s1<|.ret<|cL (.at x0 23) (.at x0 26)) .nil)<|.ret<|.call 38<|e1 x0⟩
def f41:Fn:=⟨1,[],1,s2 (.ite (.or (aS (.at x0 21)<|.g 16)<|aS (.at x0 21)<|.g 17) (s1<|.ret<|aJ (.at x0 24) (.at x0 26)) .nil)<|.ret<|.call 39<|e1 x0⟩
abbrev wV:Ss:=s3 (.ite (aS (.at x4 21)<|.g 27) (s1<|.expr<|.me x1 8<|e1 (.at x4 31))<|s1<|.expr<|.me x1 9<|e1<|.call 37<|e1 x4) (.af y2<|.bi .max<|e2 x2<|.call 40<|e1 x4) (.af y3<|.bi .max<|e2 x3<|.call 41<|e1 x4)
def f42:Fn:=⟨1,[],5,s4 (.af y1<|.new 0 .nil) (.af (.aj<|t2 y2 y3)<|.tu<|e2 (i 0)<|i 0) (.for y4 x0 wV)<|.ret<|.gz<|.tu<|e3 x1 x2 x3⟩
def We:Fn:=⟨2,[],5,dU (.ite (aS x1<|i 0) (s1<|.ret<|.tu<|e4 (.g 18) (.g 29) (.tu<|e2 (i 0)<|i 1)<|.tu<|e2 (.g 30)<|i 0) .nil) (.af y2<|.ite (dF x1<|i 0) (.me x0 10 .nil)<|.me x0 11 .nil) (.af y3<|.ite (dF x1<|i 0) (.ix (.at x0 1) x2)<|.ix (.at x0 2) x2) (.af y4<|.tu<|e2 (.g 30)<|i 0) (.ite (aS x2<|.g 29) (s1<|.af y4<|.tu<|e2 (.ite (dF x1<|i 0) (.g 31)<|.g 32)<|.call 112<|e2 (.bi .abs<|e1 x1) x3) .nil) (.ite (.an (aS x2<|.g 29)<|.an (fQ x1<|i 0)<|fQ x3<|.neg x1) (s1<|.af y4<|.tu<|e2 (.g 33)<|cL (.neg x1) x3) .nil)<|s3 (.ite (aS x3<|i 0) (s1<|.ret<|.tu<|e4 (.g 18) (.g 29) (.tu<|e2 (i 0)<|i 1) x4) .nil) (.ite (aS (.ix x4<|i 0)<|.g 33) (s1<|.ret<|.tu<|e4 (.g 34) x2 (.tu<|e2 (i 1)<|i 1) x4) .nil)<|.ret<|.tu<|e4 (.ite (dF x1<|i 0) (.g 35)<|.g 34) x2 (.call 113<|e2 (.bi .abs<|e1 x1) x3) x4⟩
def f44:Fn:=⟨2,[],2,s1<|.ret<|.call 4<|e2 (bY (.ix (.at x0 29)<|i 0) x1)<|.ix (.at x0 29)<|i 1⟩
def XV:Fn:=⟨2,[],2,s2 (.ite (aS (.at x0 21)<|.g 16) (s1<|.ret<|.call 37<|e1 x1) .nil)<|.ret<|.ite (aS (.at x1 21)<|.g 23) (.at x1 22)<|aJ (.call 38<|e1 x1)<|.call 39<|e1 x1⟩
abbrev zd:Ss:=s2 (.ite (aS (.at x4 21)<|.g 27) (s2 (.af y2<|aJ x2 (.at (.at x4 31) 22))<|.af y3<|aJ x3<|.call 115<|e2 x0 (.at x4 31))<|s1<|.af y2<|aJ x2<|.call 45<|e2 x0 x4) (.expr<|.me x1 0<|e1<|aJ x2<|.call 44<|e2 x0 x3)
def Vs:Fn:=⟨1,[],5,s5 (.ite (aS (.at x0 21)<|.g 17) (s1<|.expr<|.call 114<|e1 (.at x0 25)) .nil) (.af y1<|.li ae<|e1<|i 0) (.af (.aj<|t2 y2 y3)<|.tu<|e2 (i 0)<|i 0) (.for y4 (.at x0 25) zd)<|.ret<|.gz x1⟩
def Zz:Fn:=⟨3,[],3,s3 (.ite (.an (cm x1<|.g 36)<|cm x1<|.g 37) (s1 .bp) .nil) (.expr<|.call 3<|e1 x2)<|.ret<|.ite (aS x1<|.g 36) x2<|aJ x0 x2⟩
def f48:Fn:=⟨3,[],4,s2 (.af (.aj<|t4 (.at x0 27) (.at x0 28) (.at x0 29) y3)<|.call 43<|e2 x1 x2)<|.ret<|.ite (cm (.at x0 25)<|.li aa .nil) x3<|.tu<|e2 (.g 30)<|i 0⟩
def f49:Fn:=⟨4,[.int 1,.int 0,.none],11,s6 (.af (.aj<|t2 y4 y5)<|.ite (je x3<|.c .none) (.tu<|e2 x0<|.li aa .nil)<|.call 116<|e1 x0) (.af (.aj<|t3 y6 y7 y8)<|.call 42<|e1 x4) (.af y9<|.call 47<|e3 (.at x6 0) x1 x2) (.af j7<|.new 4<|e5 (.g 16) x9 x7 x8 x4) (.ite (la x3<|.c .none) (s1<|.expr<|.me x3 2<|e1 x5) .nil)<|.ret<|.gz<|.tu<|e2 x10<|.call 48<|e3 x10 x6<|cL x9 (.at x6 0)⟩
abbrev Oa:Ss:=s1 (.expr<|.me x0 0<|e1<|io (hQ x1<|mF (i 256) x3)<|i 256)
def f50:Fn:=⟨3,[],4,s1<|.for y3 (.bi .range<|e3 (cL x2<|i 1) (.neg<|i 1)<|.neg<|i 1) Oa⟩
def f51:Fn:=⟨3,[],4,s4 (.af y3<|i 1) (.while (.an (fQ x3<|i 4)<|gW (.bi .abs<|e1 x2)<|bY (i 128)<|mF (i 256)<|cL x3<|i 1)<|s1<|.Ap 3 .add<|i 1) (.expr<|.me x0 0<|e1<|cL (aJ x1 x3)<|i 1)<|.expr<|.call 50<|e3 x0 x2 x3⟩
def Uf:Fn:=⟨3,[],4,s4 (.af y3<|i 1) (.while (.an (fQ x3<|i 4)<|gW x2<|mF (i 256) x3)<|s1<|.Ap 3 .add<|i 1) (.expr<|.me x0 0<|e1<|cL (aJ x1 x3)<|i 1)<|.expr<|.call 50<|e3 x0 x2 x3⟩
def f53:Fn:=⟨1,[],1,s3 (.expr<|.call 50<|e3 x0 (.g 38)<|i 4) (.expr<|.call 50<|e3 x0 (.g 39)<|i 4)<|.expr<|.call 50<|e3 x0 (.g 40)<|i 4⟩
abbrev Ps:Ss:=s1 (.expr<|.me x0 0<|e1<|.bi .o5<|e1 x2)
def f54:Fn:=⟨2,[],3,dU (.ite (.or (dF (.bi .len<|e1 (.at x1 4))<|i 255)<|cm (.comp aa [] (.at x1 4) (dF (.bi .o5<|e1 x0)<|i 255) x0)<|.li aa .nil) (s1 .bp) .nil) (.expr<|.call 52<|e3 x0 (.g 41) (.at x1 3)) (.expr<|.call 50<|e3 x0 (.at x1 7)<|i 4) (.expr<|.call 50<|e3 x0 (.at x1 5)<|i 4) (.expr<|.call 50<|e3 x0 (.at x1 6)<|i 4) (.expr<|.me x0 0<|e1<|i 0)<|s2 (.expr<|.me x0 0<|e1<|.bi .len<|e1 (.at x1 4))<|.for y2 (.at x1 4) Ps⟩
def ID:Fn:=⟨1,[],1,s2 (.ite (dF (.bi .abs<|e1 x0)<|.g 1) (s1 .bp) .nil)<|.ret x0⟩
def V6:Fn:=⟨2,[],2,s2 (.af (.at x0 34) x1)<|.af (.at x0 35)<|.li ae .nil⟩
abbrev L5:Ss:=s1 (.expr<|.me (.at x0 35) 1 .nil)
def JE:Fn:=⟨2,[],2,s1<|.while (.an (dF (.bi .len<|e1 (.at x0 35))<|i 0)<|gW (.ix (.ix (.at x0 35)<|.neg<|i 1)<|i 1) x1) L5⟩
abbrev C1:Ss:=s1 (.af (.ix x5<|i 2)<|.call 60<|e2 (.ix x5<|i 2) x4)
abbrev Qs:Ss:=s2 (.expr<|.me (.at x0 35) 0<|e1<|.li ae<|e3 x2 (.bi .len<|e1 x1) x4) (.expr<|.me x1 0<|e1<|aJ (.at x0 34)<|.ite (aS x4<|.g 43) (.g 44)<|.g 45)
abbrev Bm:Ss:=t_ (.ite (fQ x3<|i 0) (s3 (.expr<|.me (.at x0 35) 0<|e1<|.li ae<|e3 x2 (.bi .len<|e1 x1)<|.g 42) (.expr<|.call 51<|e3 x1 (.at x0 34) x2)<|.ret<|.c .none) .nil) (.af y4<|.ix (.ix (.at x0 35) x3)<|i 2) (.for y5 (.sl (.at x0 35) (aJ x3<|i 1)<|.c .none) C1) Qs
def Ow:Fn:=⟨3,[],6,kB (.af y3<|.me x0 12<|e2 x1 x2) Bm⟩
abbrev wg:Ss:=s2 (.af (.aj<|t3 y5 y6 y7)<|.ix (.at x0 35) x4) (.ite (aS x5 x2) (s3 (.ite (.or (.an (aS x7<|.g 43)<|cm x3<|.g 47)<|.an (aS x7<|.g 48)<|cm x3<|.g 49) (s1<|.ret x4) .nil) (.ite (.an (.or (aS x7<|.g 42)<|aS x7<|.g 50)<|cm x3<|.g 47) (s3 (.Ag x1 x6 .add<|.g 51) (.af (.ix (.ix (.at x0 35) x4)<|i 2)<|.g 43)<|.ret x4) .nil)<|.ite (.an (.or (aS x7<|.g 42)<|aS x7<|.g 52)<|cm x3<|.g 49) (s3 (.Ag x1 x6 .add<|.g 53) (.af (.ix (.ix (.at x0 35) x4)<|i 2)<|.g 48)<|.ret x4) .nil)<|s1<|.ite (aS x7<|.g 43) (s2 (.ite (aS x3<|.g 49) (s1<|.ret<|.neg<|i 1) .nil)<|.af y3<|.g 47)<|s1<|.ite (aS x7<|.g 48) (s2 (.ite (aS x3<|.g 47) (s1<|.ret<|.neg<|i 1) .nil)<|.af y3<|.g 49) .nil)
def B6:Fn:=⟨3,[],8,s3 (.af y3<|.g 46) (.for y4 (.bi .range<|e3 (cL (.bi .len<|e1 (.at x0 35))<|i 1) (.neg<|i 1)<|.neg<|i 1) wg)<|.ret<|.neg<|i 1⟩
def T8:Fn:=⟨2,[],2,s2 (.ite (aS x1<|.g 43) (s1<|.ret<|.ite (aS x0<|.g 42) (.g 52)<|.ite (aS x0<|.g 50) (.g 54) x0) .nil)<|.ret<|.ite (aS x0<|.g 42) (.g 50)<|.ite (aS x0<|.g 52) (.g 54) x0⟩
def f61:Fn:=⟨3,[],3,dU (.af (.at x0 36)<|.li ae .nil) (.af (.at x0 37)<|.bi (.dict ae)<|e1 x1) (.af (.at x0 24) x2) (.af (.at x0 38)<|i 0) (.af (.at x0 39)<|i 0) (.af (.at x0 16)<|.neg<|i 1)<|s3 (.af (.at x0 40)<|.new 6<|e1<|.g 55) (.af (.at x0 41)<|.new 6<|e1<|.g 56)<|.af (.at x0 42)<|i 0⟩
def Iy:Fn:=⟨2,[],2,s3 (.ite (dF x1 (.at x0 24)) (s1 .bp) .nil) (.ite (dF x1<|i 0) (s1<|.expr<|.me (.at x0 36) 0<|e1<|.g 57) .nil)<|.ret<|.bi .len<|e1 (.at x0 36)⟩
def Ok:Fn:=⟨3,[],3,s3 (.expr<|.me (.at x0 40) 13<|e1 x1) (.expr<|.me (.at x0 41) 13<|e1 x1)<|.ite (.an (dF x2<|i 0)<|aS (.bi .len<|e1 (.at x0 36)) x1) (s1<|.expr<|.me (.at x0 36) 1 .nil)<|s1<|.ite (dF x2<|i 0) (s2 (.expr<|.me (.at x0 36) 0<|e1<|.g 58)<|.af (.at x0 42)<|.bi .max<|e2 (.at x0 42) x2) .nil⟩
abbrev Nt:Ss:=s1 (.af (.at x0 38) x1)
def KQ:Fn:=⟨2,[],2,s2 (.expr<|.call 55<|e1 x1)<|.ite (cm x1 (.at x0 38)) (kB (.expr<|.me (.at x0 40) 14<|e2 (.at x0 36)<|cL x1 (.at x0 38)) Nt) .nil⟩
abbrev OX:Ss:=s1 (.af (.at x0 39) x1)
def PE:Fn:=⟨2,[],2,s2 (.expr<|.call 55<|e1 x1)<|.ite (cm x1 (.at x0 39)) (kB (.expr<|.me (.at x0 41) 14<|e2 (.at x0 36)<|cL x1 (.at x0 39)) OX) .nil⟩
def f66:Fn:=⟨2,[],3,s3 (.af y2<|.me (.at x0 37) 3<|e1 (.at x1 3)) (.ite (je x2<|.c .none) (s2 (.expr<|.call 54<|e2 (.at x0 36) x1)<|.af (.ix (.at x0 37) (.at x1 3)) x1)<|s1<|.ite (la x2 x1) (s1 .bp) .nil)<|.ite (cm (.at x1 3) (.at x0 16)) (s2 (.ite (fQ (.at x1 3)<|i 64) (s1<|.expr<|.me (.at x0 36) 0<|e1<|aJ (.g 59) (.at x1 3))<|s1<|.expr<|.call 52<|e3 (.at x0 36) (.g 60) (.at x1 3))<|.af (.at x0 16) (.at x1 3)) .nil⟩
abbrev NQ:Ss:=s1 .bp
abbrev NK:Ss:=s3 (.ite (gW x2<|i 128) (s1<|.expr<|.me (.at x0 36) 0<|e1<|.g 61) .nil) (.expr<|.me (.at x0 36) 0<|e1 x2) (.af (.at x0 38)<|.call 55<|e1<|aJ x3<|.me x1 5<|e1 x2)
def NF:Fn:=⟨5,[],5,tZ (.ite (.nt<|.me x1 15<|e1 x2) NQ .nil) (.expr<|.me x0 16<|e1 x3) (.expr<|.me x0 17<|e1 x4) (.expr<|.me x0 18<|e1 x1) NK⟩
abbrev zt:Ss:=s2 (.af (.aj<|t2 y4 y5)<|.tu<|e2 (.ix (.at x0 25) x3)<|.ix x1 x3) (.ite (.an (aS (.at x4 21)<|.g 28)<|aS (.at x0 21)<|.g 16) (s1<|.for y6 (.at x4 32)<|s3 (.af y7<|aJ x5<|.call 37<|e1 x6) (.expr<|.me x2 0<|e1<|.tu<|e3 x6 x5 x7)<|.af y5 x7)<|s1<|.expr<|.me x2 0<|e1<|.tu<|e3 x4 x5<|.ix x1<|aJ x3<|i 1)
def f68:Fn:=⟨1,[],8,s3 (.af (.aj<|t2 y1 y2)<|.tu<|e2 (.call 46<|e1 x0)<|.li ae .nil) (.for y3 (.bi .range<|e1<|.bi .len<|e1 (.at x0 25)) zt)<|.ret<|.gz x2⟩
abbrev O9:Ss:=s1 (.expr<|.me x0 19<|e4 (.at x5 16) (.at x5 17) x6 x4)
abbrev Mo:Ss:=s1 (.ite (.or (aS x7<|.g 16)<|aS x7<|.g 17) (s1<|.ite (cm (.at x5 25)<|.li aa .nil) (s1<|.ret<|.li aa<|e1<|.tu<|e4 x5 x6 (aJ x4 (.at x5 26))<|.c<|.bool ae) .nil)<|s1<|.ite (aS x7<|.g 62) (s1<|.ite (aS (.at x5 30)<|.g 63) (s1<|.expr<|.me x0 20<|e3 (.at x5 36) x6 x4) .nil)<|s1<|.ite (.or (aS x7<|.g 26)<|.an (aS x7<|.g 27)<|la (.at x5 33)<|.c .none) (s5 (.af y8<|.ite (aS x7<|.g 26) x5 (.at x5 33)) (.af y9<|cL (.ix x2<|i 2)<|.ix x2<|i 1) (.ite (cm (.at x8 21)<|.g 26) (s1<|.ret<|.comp aa [8,4] (.call 117<|e5 x5 x6 x9 x3<|.c<|.bool ae) (.c<|.bool aa)<|.tu<|e4 x1 x0 (aJ x2 (.at x1 26))<|.c<|.bool aa) .nil) (.af (.aj<|t3 j7 rn yR)<|.call 118<|e2 x8 x1)<|.expr<|.me x0 21<|e5 (aJ cA kG) (.ite (aS x7<|.g 26) x10 x9) x6 (aJ x4 kG)<|.c<|.bool aa)<|s1<|.ite (v3 x7<|.g 64) (s1 .bp) .nil)
abbrev Gu:Ss:=s1 (.ret<|.li aa .nil)
abbrev FI:Ss:=mQ (.af y7 (.at x5 21)) (.ite (.or (aS x7<|.g 21)<|aS x7<|.g 22) O9 Mo) Gu
def P8:Fn:=⟨5,[],13,kB (.af (.aj<|t2 y5 y6)<|.tu<|e2 (.ix x2<|i 0)<|aJ x3<|.ix x2<|i 1) FI⟩
abbrev Pv:Ss:=s2 (.ite x6 (s1<|.af y8<|.call 119<|e5 x0 x1 x7 x2<|cL x3 (.at x1 23))<|s1<|.af y8<|.call 69<|e5 x0 x1 x7 x2 x3) (.for (.aj<|t4 y9 j7 rn yR) x8<|s5 (.ite (.or kG x6) (s1<|.expr<|.me x0 17<|e1 cA) .nil) (.ite kG (s1<|.expr<|.me x0 16<|e1 x10) .nil) (.af (.aj<|t2 Cr DR)<|.tu<|e2 (.at x0 38) (.at x0 39)) (.expr<|.call 70<|e5 x0 x9 x10 cA<|aJ x4<|i 1)<|.af (.aj<|t2 (.at x0 38) (.at x0 39))<|.tu<|e2 pV l8)
def PZ:Fn:=⟨5,[],15,s4 (.af y5<|.me x0 22<|e1 x4) (.af y6<|aS (.at x1 21)<|.g 17) (.for y7 (.call 68<|e1 x1) Pv)<|.expr<|.me x0 23<|e2 x5 x4⟩
def W5:Fn:=⟨3,[],3,s4 (.ite (.or (je x0<|.c .none)<|.an (cm (.at x0 21)<|.g 16)<|cm (.at x0 21)<|.g 17) (s1 .bp) .nil) (.expr<|.call 3<|e1 x1) (.expr<|.call 3<|e1 x2)<|.ite (dF (.bi .max<|e4 (.at x0 23) (.at x0 24) (aJ (aJ (.at x0 23) (.at x0 24)) x2)<|aJ (.at x0 22) x1)<|.g 1) (s1 .bp) .nil⟩
abbrev NP:Ss:=s1 (.expr<|.me (.at x0 36) 0<|e1<|.bi .o5<|e1 x2)
def YC:Fn:=⟨2,[.int 40],3,dU (.ite (.nt<|.call 0<|e3 x1 (i 0)<|.g 65) (s1 .bp) .nil) (.af (.at x0 24) x1) (.af (.at x0 36)<|.li ae<|e2 (.g 66)<|.g 67) (.expr<|.call 53<|e1 (.at x0 36)) (.expr<|.me (.at x0 36) 0<|e1<|.bi .len<|e1<|.g 68) (.for y2 (.g 68) NP)<|s6 (.af (.at x0 37)<|.di ae .nil .nil) (.af (.at x0 43)<|i 0) (.af (.at x0 44)<|.neg<|i 1) (.af (.at x0 45)<|i 0) (.af (.at x0 46)<|i 0)<|.af (.at x0 42)<|i 0⟩
abbrev EH:Ss:=s1 (.expr<|.call 50<|e3 (.at x5 36) (.ite (fQ x6<|.bi .len<|e1 x2) (.call 2<|e1<|.ix x2 x6)<|i 0)<|i 4)
abbrev Hy:Ss:=dU (.expr<|.me (.at x5 36) 0<|e1<|.g 70) (.af (.at x0 44)<|.bi .len<|e1 (.at x0 36)) (.expr<|.me (.at x0 36) 2<|e1 (.at x5 36)) (.af (.at x0 37) (.at x5 37)) (.zE x0 43 .add<|i 1) (.af (.at x0 45)<|.bi .max<|e2 (.at x0 45)<|aJ (aJ (.at x1 23) (.at x1 24)) x4) (s2 (.af (.at x0 46)<|.bi .max<|e2 (.at x0 46)<|aJ (.at x1 22) x3)<|.af (.at x0 42)<|.bi .max<|e2 (.at x0 42) (.at x5 42))
abbrev LM:Ss:=kB (.expr<|.call 70<|e5 x5 x1 x3 (aJ x4 (.at x1 23))<|i 0) Hy
abbrev JC:Ss:=dU (.ite (dF (.bi .len<|e1 x2)<|i 10) (s1 .bp) .nil) (.expr<|.call 71<|e3 x1 x3 x4) (.af y5<|.new 7<|e2 (.at x0 37) (.at x0 24)) (.expr<|.me (.at x5 36) 0<|e1<|.g 69) (.for y6 (.bi .range<|e1<|i 10) EH) (.expr<|.call 50<|e3 (.at x5 36) (.at x0 44)<|i 4) LM
def Qi:Fn:=⟨5,[.aj [],.int 0,.int 0],7,JC⟩
abbrev Ou:Ss:=s1 (.expr<|.call 54<|e2 x1<|.ix (.at x0 37) x2)
abbrev QN:Ss:=s1 (.expr<|.me x1 0<|e1<|.g 73)
abbrev Ce:Ss:=s5 (.expr<|.me x1 0<|e1<|.g 72) (.expr<|.call 50<|e3 x1 (.bi .len<|e1 (.at x0 36))<|i 4) (.expr<|.me x1 0<|e1<|.g 67) (.for y3 (.bi .range<|e1<|aJ (i 4)<|io (.neg<|.bi .len<|e1 x1)<|i 4) QN) (.ret<|.bi .bytes<|e1 x1)
abbrev N1:Ss:=kB (.for y2 (.iK<|.bi .sorted<|e1 (.at x0 37)) Ou) Ce
abbrev Im:Ss:=dU (.af y1<|.bi (.list ae)<|e1 (.at x0 36)) (.expr<|.me x1 0<|e1<|.g 71) (.expr<|.call 50<|e3 x1 (.at x0 44)<|i 4) (.expr<|.call 53<|e1 x1) (.expr<|.call 50<|e3 x1 (.at x0 45)<|i 4) (.expr<|.call 50<|e3 x1 (.at x0 46)<|i 4) (mQ (.expr<|.call 50<|e3 x1 (.at x0 42)<|i 2) (.expr<|.call 50<|e3 x1 (.at x0 43)<|i 2) N1)
def IJ:Fn:=⟨1,[],4,Im⟩
def YX:Fn:=⟨2,[],2,s3 (.ite (.nt<|.bi (.gc .bytes)<|e1 x1) (s1 .bp) .nil) (.af (.at x0 36) x1)<|.af (.at x0 47)<|i 0⟩
abbrev Pw:Ss:=s1 (.af y3<|aJ (bY (i 256) x3)<|.ix (.at x0 36) x4)
def f76:Fn:=⟨2,[],5,s6 (.af y2<|aJ (.at x0 47) x1) (.ite (dF x2<|.bi .len<|e1 (.at x0 36)) (s1 .bp) .nil) (.af y3<|i 0) (.for y4 (.bi .range<|e2 (.at x0 47) x2) Pw) (.af (.at x0 47) x2)<|.ret x3⟩
def f77:Fn:=⟨2,[],4,s4 (.af y2<|.me x0 24<|e1 x1) (.af y3<|bY (i 128)<|mF (i 256)<|cL x1<|i 1) (.ite (gW x2 x3) (s1<|.ret<|cL x2<|bY (i 2) x3) .nil)<|.ret x2⟩
def TN:Fn:=⟨2,[],4,s5 (.af y2<|aJ (.at x0 47) x1) (.ite (dF x2<|.bi .len<|e1 (.at x0 36)) (s1 .bp) .nil) (.af y3<|.sl (.at x0 36) (.at x0 47) x2) (.af (.at x0 47) x2)<|.ret x3⟩
def f79:Fn:=⟨1,[],1,dU (.af (.at x0 38)<|i 0) (.af (.at x0 39)<|i 0) (.af (.at x0 48)<|i 0) (.af (.at x0 49)<|i 0) (.af (.at x0 50)<|i 0) (.af (.at x0 51)<|i 0)<|s4 (.af (.at x0 16)<|.neg<|i 1) (.af (.at x0 52)<|.li aa .nil) (.af (.at x0 42)<|i 0)<|.af (.at x0 35)<|.li ae .nil⟩
def f80:Fn:=⟨3,[],5,s4 (.af (.aj<|t2 y3 y4)<|.tu<|e2 (aJ (.at x0 38) x1)<|aJ (.at x0 39) x2) (.ite (.or (dF (.bi .abs<|e1 x3)<|.g 0)<|dF (.bi .abs<|e1 x4)<|.g 0) (s1 .bp) .nil) (.af (.at x0 38) x3)<|.af (.at x0 39) x4⟩
def To:Fn:=⟨3,[],3,dU (.af (.at x0 53) x1) (.af (.at x0 54) x2) (.af (.at x0 43)<|.li ae .nil) (.af (.at x0 37)<|.di ae .nil .nil) (.af (.at x0 45)<|i 0) (.af (.at x0 46)<|i 0)<|s1<|.af (.at x0 42)<|i 0⟩
def f82:Fn:=⟨1,[],2,s3 (.af y1<|.tu<|e3 (.me x0 25<|e1<|i 4) (.me x0 25<|e1<|i 4)<|.me x0 25<|e1<|i 4) (.ite (CI (.bi .min<|e1 x1)<|i 0) (s1 .bp) .nil)<|.ret x1⟩
abbrev Hh:Ss:=s1 (.ret<|.tu<|e2 x3<|.tu<|e5 x4 x5 x6 x7 x9)
abbrev J6:Ss:=kB (.ite (cm (.bi (.list aa)<|e1<|.sl x9 x7<|.c .none)<|.comp aa [] (.at x10 4) (.c<|.bool aa)<|.bi .o5<|e1 x0) (s1 .bp) .nil) Hh
def Mp:Fn:=⟨3,[],11,dU (.af y3<|.me x0 24<|e1<|aJ (cL x1<|.g 41)<|i 1) (.af y4<|.me x0 24<|e1<|i 4) (.af y5<|.me x0 24<|e1<|i 4) (.af y6<|.me x0 24<|e1<|i 4) (.af y7<|.me x0 24<|e1<|i 1) (.af y8<|.me x0 24<|e1<|i 1)<|tZ (.af y9<|.me x0 26<|e1<|aJ x7 x8) (.af j7<|.me x2 3<|e1 x3) (.ite (.or (je x10<|.c .none)<|.or (cm x5 (.at x10 5))<|.nt<|.iz .lt .le (i 0) x6<|.g 10) (s1 .bp) .nil) (.ite (.an (cm x4 (.at x10 7))<|.an (cm x4<|i 0)<|cm (.at x10 7)<|i 0) (s1 .bp) .nil) J6⟩
def f84:Fn:=⟨1,[],1,s1<|.ret<|.iz .le .lt (.g 41) x0<|aJ (.g 41)<|i 4⟩
def f85:Fn:=⟨4,[],4,s4 (.ite (fQ x1<|i 4) (s1<|.ret<|.tu<|e3 (.me x0 25<|e1<|aJ x1<|i 1) x2 x3) .nil) (.ite (fQ x1<|i 9) (s2 (.ite (dF x1<|i 4) (s1<|.af y2<|.me x0 25<|e1<|cL x1<|i 4) .nil)<|.ret<|.tu<|e3 x2 x2 x3) .nil) (.ite (dF x1<|i 9) (s1<|.af y3<|.me x0 25<|e1<|cL x1<|i 9) .nil)<|.ret<|.tu<|e3 x3 x2 x3⟩
def VC:Fn:=⟨4,[],5,s4 (.af y4<|.me x2 3<|e1 (.at x0 16)) (.ite (.or (je x4<|.c .none)<|.or (dF x1<|i 255)<|.nt<|.me x4 15<|e1 x1) (s1 .bp) .nil) (.expr<|.me (.at x0 35) 0<|e1<|.tu<|e5 (.g 74) (.at x0 38) (.at x0 39) (.at x0 16) x1)<|.ite x3 (s1<|.expr<|.me x0 27<|e2 (.me x4 5<|e1 x1)<|i 0) .nil⟩
def f87:Fn:=⟨3,[],3,s2 (.ite (v3 x1 x2) (s1 .bp) .nil)<|.af (.at x0 16) x1⟩
def f88:Fn:=⟨4,[],6,s3 (.af (.aj<|t2 y4 y5)<|.call 83<|e3 x0 x1 x3) (.ite (r5 x4 x2) (s1 .bp) .nil)<|.af (.ix x2 x4) x5⟩
def XO:Fn:=⟨5,[],7,s1<|.ite (fQ x2<|.g 61) (s1<|.expr<|.call 86<|e4 x1 x2 x4<|.c<|.bool aa)<|s1<|.ite (fQ x2<|.g 75) (s1<|.expr<|.call 86<|e4 x1 (.me x0 24<|e1<|aJ (cL x2<|.g 61)<|i 1) x4<|.c<|.bool aa)<|s1<|.ite (aS x2<|.g 75) (s1<|.expr<|.call 120<|e3 x0 x1<|.c<|.bool aa)<|s1<|.ite (fQ x2<|.g 76) (s1<|.expr<|.call 86<|e4 x1 (.me x0 24<|e1<|aJ (cL x2<|.g 77)<|i 1) x4<|.c<|.bool ae)<|s1<|.ite (aS x2<|.g 76) (s1<|.expr<|.call 120<|e3 x0 x1<|.c<|.bool ae)<|s1<|.ite (aS x2<|.g 78) (s1<|.ret<|.c .none)<|s1<|.ite (aS x2<|.g 57) (s1<|.expr<|.me x1 28 .nil)<|s1<|.ite (aS x2<|.g 58) (s1<|.expr<|.me x1 1 .nil)<|s1<|.ite (.iz .le .lt (.g 55) x2<|.g 56) (s2 (.af (.aj<|t3 y5 (.at x1 48) (.at x1 49))<|.call 85<|e4 x0 (cL x2<|.g 55) (.at x1 48) (.at x1 49))<|.expr<|.me x1 27<|e2 x5<|i 0)<|s1<|.ite (.iz .le .lt (.g 56) x2<|.g 59) (s2 (.af (.aj<|t3 y5 (.at x1 50) (.at x1 51))<|.call 85<|e4 x0 (cL x2<|.g 56) (.at x1 50) (.at x1 51))<|.expr<|.me x1 27<|e2 (i 0) x5)<|s1<|.ite (.iz .le .lt (.g 59) x2<|.g 60) (s1<|.expr<|.call 87<|e3 x1 (cL x2<|.g 59) x3)<|s1<|.ite (.iz .le .lt (.g 60) x2<|.g 79) (s1<|.expr<|.call 87<|e3 x1 (.me x0 24<|e1<|aJ (cL x2<|.g 60)<|i 1) x3)<|s1<|.ite (.iz .le .lt (.g 79) x2<|.g 41) (s2 (.af y6<|.me x0 24<|e1<|aJ (cL x2<|.g 79)<|i 1)<|.expr<|.me (.at x1 35) 0<|e1<|.tu<|e4 (.g 80) (.at x1 38) (.at x1 39)<|.me x0 26<|e1 x6)<|s1<|.ite (.call 84<|e1 x2) (s1<|.expr<|.call 88<|e4 x0 x2 x3 x4)<|s1 .bp⟩
abbrev K_:Ss:=s2 (.expr<|.call 89<|e5 x0 x5 x6 x2 x3) (.af y6<|.me x0 24<|e1<|i 1)
def ZO:Fn:=⟨4,[],7,dU (.af y4<|.bi .tuple<|e1<|.comp aa [0] (.bi .range<|e1<|i 10) (.c<|.bool aa)<|.me x1 25<|e1<|i 4) (.ite (cm (.me x0 25<|e1<|i 4) x1) (s1 .bp) .nil) (.af y5<|.new 10 .nil) (.af y6<|.me x0 24<|e1<|i 1) (.while (cm x6<|.g 70) K_) (.ite (dF (.bi .len<|e1 (.at x5 52))<|i 0) (s1 .bp) .nil)<|s1<|.ret<|.tu<|e2 x4 x5⟩
abbrev Jr:Ss:=s2 (.ite (.call 84<|e1 x4) (s3 (.af (.aj<|t2 y5 y6)<|.call 83<|e3 x0 x4 x2) (.ite (.or (r5 x5 x3)<|cm (.me x1 3<|e1 x5) x6) (s1 .bp) .nil)<|.af (.ix x3 x5) x6)<|s1<|.ite (cm x4<|.g 78) (s1 .bp) .nil) (.af y4<|.me x0 24<|e1<|i 1)
def Xe:Fn:=⟨3,[],7,s4 (.af y3<|.di ae .nil .nil) (.af y4<|.me x0 24<|e1<|i 1) (.while (cm x4<|.g 72) Jr)<|.ite (cm (.bi .len<|e1 x3)<|.bi .len<|e1 x1) (s1 .bp) .nil⟩
def ZW:Fn:=⟨4,[],6,dU (.af y4<|cL (.at x0 47)<|i 1) (.ite (cm (.me x0 25<|e1<|i 4) x2) (s1 .bp) .nil) (.ite (cm (.call 82<|e1 x0) (.at x1 53)) (s1 .bp) .nil) (.af (.at x1 45)<|.me x0 25<|e1<|i 4) (.af (.at x1 46)<|.me x0 25<|e1<|i 4) (.ite (fQ (.me x0 24<|e1<|i 2) (.at x1 42)) (s1 .bp) .nil)<|s5 (.ite (cm (.me x0 24<|e1<|i 2)<|io (.bi .len<|e1 (.at x1 43))<|i 65536) (s1 .bp) .nil) (.expr<|.call 91<|e3 x0 (.at x1 37) x3) (.ite (.or (cm (.me x0 24<|e1<|i 4) x4)<|cm (.me x0 24<|e1<|i 1)<|.g 67) (s1 .bp) .nil) (.af y5<|.me x0 26<|e1<|cL (.bi .len<|e1 (.at x0 36)) (.at x0 47))<|.ite (.or (fQ (.bi .len<|e1 x5)<|i 4)<|cm (.comp aa [] x5 (cm x0<|.g 73) x0)<|.li aa .nil) (s1 .bp) .nil⟩
abbrev ui:Ss:=dU (.af y2<|.new 9<|e1 x0) (.ite (.or (cm (.me x2 24<|e1<|i 1)<|.g 66)<|cm (.me x2 24<|e1<|i 1)<|.g 67) (s1 .bp) .nil) (.af y3<|.call 82<|e1 x2) (.af y4<|.me x2 24<|e1<|i 1) (.af y5<|.new 11<|e2 x3<|.me x2 26<|e1 x4) (.af y6<|.neg<|i 1) (s6 (.af y7<|.me x2 24<|e1<|i 1) (.while (cm x7<|.g 71)<|s3 (.af y8<|cL (.at x2 47)<|i 1) (.ite (aS x7<|.g 69) (s4 (.af (.aj<|t2 y9 j7)<|.call 90<|e4 x2 x6 (.at x5 37) x1) (.expr<|.me (.at x5 43) 0<|e1<|.tu<|e2 x9<|.bi .tuple<|e1 (.at x10 35)) (.af (.at x5 42)<|.bi .max<|e2 (.at x5 42) (.at x10 42))<|.af y6 x8)<|s1<|.ite (.call 84<|e1 x7) (s1<|.expr<|.call 88<|e4 x2 x7 (.at x5 37) x1)<|s1<|.ite (cm x7<|.g 78) (s1 .bp) .nil)<|.af y7<|.me x2 24<|e1<|i 1) (.expr<|.call 92<|e4 x2 x5 x6 x1) (.wh 5 43) (.wh 5 37)<|.ret<|.gz x5)
def IH:Fn:=⟨2,[],11,ui⟩
abbrev BB:Ss:=s4 (.af (.aj<|t4 y6 y7 y8 y9)<|.ix x4 x3) (.ite (.an (aS x7 x2)<|CI x6<|.g 6) (s2 (.ite (gW x8<|.g 7) (s1<|.ret<|.tu<|e2 (i 0)<|.ix (.at x0 11)<|aJ (bY (i 256)<|cL x8<|.g 7) x9) .nil)<|.ret<|.tu<|e2 (aJ (.ite (r5 x8<|.g 81) x8<|i 0)<|i 1) x9) .nil) (.af y5<|fQ x6<|.g 6) (.af y3<|aJ (aJ x3 x6)<|i 1)
def f94:Fn:=⟨3,[],10,dU (.af y3<|.me x0 29<|e1 x1) (.ite (.or (fQ x3<|i 0)<|aS x2<|.g 11) (s1<|.ret<|.c .none) .nil) (.af y4 (.at x0 10)) (.ite (.an (cm x1<|.g 11)<|dF (.ix (.ix x4 x3)<|i 0)<|.g 6) (s1<|.af y3<|aJ (bY (i 256)<|.ix (.ix x4 x3)<|i 2)<|.ix (.ix x4 x3)<|i 3) .nil) (.af y5<|.c<|.bool aa) (.while x5 BB)<|s1<|.ret<|.c .none⟩
def f95:Fn:=⟨5,[],5,dU (.af (.at x0 16) x1) (.af (.at x0 55)<|.comp ae [] (.iK x2) (.c<|.bool aa)<|.tu<|e3 x0 (.tu<|e1 x0)<|.c<|.bool ae) (.af (.at x0 56)<|.ite x3 (.c .none)<|.me (.at x0 55) 1 .nil) (.af (.at x0 57) x4) (.af (.at x0 58)<|.li ae .nil) (.af (.at x0 59)<|.c<|.bool ae)<|s2 (.af (.at x0 60)<|.c<|.bool ae)<|.af (.at x0 61)<|.c<|.bool aa⟩
def SW:Fn:=⟨1,[],4,s3 (.ite (je (.at x0 56)<|.c .none) (s1<|.ret<|.c .none) .nil) (.af (.aj<|t3 y1 y2 y3) (.at x0 56))<|.ite x3 (s2 (.expr<|.me (.at x0 58) 0<|e1<|.gz<|.new 3<|e5 (.at x0 16) x1 x2 (.at x0 59)<|.an (.at x0 60)<|aS (.at x0 55)<|.li aa .nil)<|.af (.at x0 59)<|.c<|.bool ae)<|s1<|.expr<|.me (.at x0 58) 0<|e1<|.gz<|.new 2<|e2 (.at x0 16) x1⟩
def Xr:Fn:=⟨1,[],1,s2 (.expr<|.call 96<|e1 x0)<|.ite (aS (.at x0 55)<|.li aa .nil) (s1<|.af (.at x0 61)<|.c<|.bool ae)<|s1<|.af (.at x0 56)<|.me (.at x0 55) 1 .nil⟩
def Zh:Fn:=⟨3,[],10,dU (.af y3 (.at x0 56)) (.ite (je x3<|.c .none) (s1<|.af (.at x0 59)<|.c<|.bool aa)<|s1<|.ite (aS (.at x0 55)<|.li aa .nil) (s1<|.af (.at x0 60)<|.c<|.bool aa) .nil) (.af (.aj<|t2 y4 y5)<|.tu<|e2 (aS (io (hQ x1<|i 2)<|i 2)<|i 1)<|aS (io x1<|i 2)<|i 1) (.af y6<|.ite (.an (la x3<|.c .none)<|.nt x4) (.ix x3<|i 1)<|.tu .nil) (.ite (.an (.nt x5)<|aS (.at x0 55)<|.li aa .nil) (s1<|.af (.at x0 57)<|.g 11)<|s1<|.ite (.nt x5) (s2 (.af y7<|.me (.at x0 55) 1 .nil)<|.af y6<|aJ x6<|.ix x7<|i 1) .nil) (.af y8<|.tu<|e3 x2 x6<|.c<|.bool aa)<|s2 (.ite x4 (s1<|.expr<|.me (.at x0 55) 0<|e1 x8)<|s1<|.af (.at x0 56) x8)<|.for y9 (.bi .range<|e1<|hQ x1<|i 4)<|s1<|.expr<|.call 97<|e1 x0⟩
abbrev KC:Ss:=s4 (.af y6<|.ite (je (.at x4 56)<|.c .none) (.g 11)<|.ix (.at x4 56)<|i 0) (.af y7<|.ite (aS (.at x4 55)<|.li aa .nil) (.at x4 57)<|.ix (.ix (.at x4 55)<|.neg<|i 1)<|i 0) (.af y8<|.call 94<|e3 x0 x6 x7) (.ite (je x8<|.c .none) (s1<|.expr<|.call 97<|e1 x4)<|s1<|.ite (aS (.ix x8<|i 0)<|i 0) (s2 (.expr<|.call 97<|e1 x4)<|.expr<|.me (.at x4 58) 0<|e1<|.gz<|.new 5<|e2 (.ix x8<|i 1)<|.g 19)<|s1<|.ite (aS x5<|i 0) (s1 .bp)<|s2 (.af y5<|cL x5<|i 1)<|.expr<|.call 98<|e3 x4 (cL (.ix x8<|i 0)<|i 1)<|.ix x8<|i 1)
def f99:Fn:=⟨4,[],9,s5 (.ite (aS x1<|.li aa .nil) (s1<|.ret<|.li aa .nil) .nil) (.af y4<|.new 12<|e4 x0 x1 (.an x2<|gW (.me x0 29<|e1<|.g 11)<|i 0) x3) (.af y5<|bY (.g 82)<|aJ (.bi .len<|e1 x1)<|i 1) (.while (.at x4 61) KC)<|.ret<|.gz (.at x4 58)⟩
abbrev Df:Ss:=s1 (.ite (.nt<|.call 0<|e3 x4 (i 0)<|i 255) (s1 .bp) .nil)
abbrev N5:Ss:=s4 (.ite (.me x0 15<|e1 x4) (s2 (.expr<|.me x6 0<|e1 x4) .cont) .nil) (.expr<|.me x5 2<|e1<|.call 99<|e4 x0 x6 x7<|.g 11) (.af y6<|.li ae .nil) (.af y7<|.c<|.bool aa)
def Vt:Fn:=⟨4,[.bool aa,.bool aa],8,dU (.for y4 x1 Df) (.af y5<|.li ae .nil) (.af y6<|.li ae .nil) (.af y7 x2) (.for y4 x1 N5) (.expr<|.me x5 2<|e1<|.call 99<|e4 x0 x6 x7<|.ite x3 (.at x0 12)<|.g 11)<|s1<|.ret<|.gz x5⟩
def ai0:Fn:=⟨2,[],2,s1<|.ret<|.ite (fQ x1<|.bi .len<|e1 x0) (.bi .abs<|e1<|.ix x0 x1)<|.ix (.g 83) x1⟩
def ae7:Fn:=⟨1,[],1,s1<|.ret<|.li ae<|e3 (io (.bi .max<|e2 (i 0)<|cL x0<|mF (i 10)<|i 18)<|mF (i 10)<|i 90) (io x0<|i 2147483629)<|i 0⟩
def ap2:Fn:=⟨2,[],4,s5 (.ite (dF (.ix x0<|i 0)<|i 0) (s3 (.af y2<|io (.ix x0<|i 0) x1) (.af (.ix x0<|i 0)<|hQ (.ix x0<|i 0) x1)<|.ret x2) .nil) (.af (.ix x0<|i 2)<|aJ (.ix x0<|i 2)<|i 1) (.af y3<|io (mF (aJ (aJ (.ix x0<|i 1)<|bY (i 40961)<|.ix x0<|i 2)<|i 577)<|i 5)<|i 2147483647) (.af y3<|io (mF (aJ x3<|bY (i 104729)<|.ix x0<|i 2)<|i 3)<|i 2147483587)<|.ret<|io (hQ x3<|i 16) x1⟩
abbrev DM:Ss:=s3 (.af y3<|aJ (.ix (.tu<|e6 (i 0) (i 524288) (i 349525) (i 1048576) (.neg<|i 70000)<|i 2000000)<|.call 103<|e2 x0<|i 6)<|.call 103<|e2 x0<|i 1000) (.af y4<|.ix (.tu<|e3 (i 0) (i 700001)<|.neg<|i 3)<|.call 103<|e2 x0<|i 3) (.expr<|.me x1 0<|e1<|.tu<|e3 x3 x4<|.ix (.tu<|e3 (i 0) (i 200003)<|.neg<|i 5)<|.call 103<|e2 x0<|i 3)
abbrev NA:Ss:=s1 (.expr<|.me x5 0<|e1<|.tu<|e3 (aJ (i 65) x6) x7<|.ite x7 (.call 103<|e2 x0<|i 2)<|aJ (i 65)<|.call 103<|e2 x0<|.bi .len<|e1 x1)
abbrev De:Ss:=mQ (.af y6<|.call 103<|e2 x0<|.bi .len<|e1 x1) (.af y7<|aS (.call 103<|e2 x0<|i 2)<|i 1) NA
abbrev Hw:Ss:=s3 (.af y8<|.call 103<|e2 x0<|i 65536) (.af y9<|bY (i 65536)<|aJ (i 5)<|.call 103<|e2 x0<|i 10) (.ret<|.gz<|.tu<|e4 x1 x5 x8<|aJ x9<|.call 103<|e2 x0<|i 16)
abbrev OF:Ss:=kB (.for y2 (.bi .range<|e1<|.call 103<|e2 x0<|i 4) De) Hw
def Od:Fn:=⟨1,[],10,t_ (.af y1<|.li ae .nil) (.for y2 (.bi .range<|e1<|aJ (i 2)<|.call 103<|e2 x0<|i 3) DM) (.af y5<|.li ae .nil) OF⟩
abbrev zQ:Ss:=s1 (.expr<|.me x7 0<|e1<|aJ (bY (aJ x8<|i 1)<|i 17891328)<|.ite (.an (aS x8<|i 0)<|cm x2<|.li aa .nil) (i 256)<|i 0)
abbrev Dj:Ss:=s1 (.af y7<|JZ (aJ x7<|.li aa<|e1<|i 0)<|.comp aa [9] x1 (.c<|.bool aa)<|.ix x0 x1)
abbrev F_:Ss:=s2 (.af rn<|.ite (aS (aJ x8<|i 1)<|.bi .len<|e1 x2) (i 128)<|i 0) (.expr<|.me x7 0<|e1<|aJ (aJ (aJ (bY cA<|i 16777216)<|bY (.ix x10<|i 0)<|i 65536)<|.ite (.ix x10<|i 1) (bY (i 128)<|i 256)<|i 0)<|.ix x10<|i 2)
abbrev Jm:Ss:=s1 (.ret<|aJ (aJ x7<|.li aa<|e2 (.neg<|i 30001)<|i 50002)<|.li aa<|e2 (i 1000)<|i 349525)
abbrev Hj:Ss:=tZ (.for y8 (.bi .range<|e1 x5) zQ) (.for y9 (.bi .range<|e1<|i 3) Dj) (.expr<|.me x7 0<|e1<|i 0) (.for (.aj<|t2 y8 j7) (.bi .kE<|e1 x2) F_) Jm
abbrev LQ:Ss:=z7 (.af (.aj<|t4 y1 y2 y3 y4) x0) (.af y5<|.bi .len<|e1 x1) (.af y6<|.li ae<|w5 (i 0) (i 2) (i 65) (aJ (i 64) x5) (aJ x5<|i 1) (aJ x5<|i 1)<|e6 (aJ x5<|i 1) (i 1) (.bi .len<|e1 x2) (i 2) (i 0)<|i 2) (.af (.ix x6<|i 0)<|aJ (aJ (i 8) x5)<|.bi .sum<|e1<|.sl x6 (i 4)<|.c .none) (.af y7<|JZ (.comp aa [6] (.bi .range<|e3 (i 0) (i 12)<|i 2) (.c<|.bool aa)<|aJ (bY (.ix x1 x0)<|i 65536)<|.ix x1<|aJ x0<|i 1)<|.li aa<|e2 x3<|bY (i 16) x4) Hj
def M1:Fn:=⟨1,[],12,LQ⟩
abbrev OA:Ss:=s1 (.af y1<|aJ x1<|.li aa<|e4 (io (CV x2<|i 24)<|i 256) (io (CV x2<|i 16)<|i 256) (io (CV x2<|i 8)<|i 256)<|io x2<|i 256)
def Lu:Fn:=⟨1,[],3,s3 (.af y1<|.li aa .nil) (.for y2 x0 OA)<|.ret<|.bi .bytes<|e1 x1⟩
def Zo:Fn:=⟨2,[],3,s3 (.af y2<|i 1) (.while (gW x1<|bY x2<|mF (i 2)<|i 23)<|s1<|.af y2<|bY (i 2) x2)<|.ret<|hQ (bY x0<|cL x1<|io x1 x2)<|mF (i 2)<|i 20⟩
abbrev Lp:Ss:=s1 (.ite (v3 (.ix x10<|i 0) x7) (s1<|.af (.ix x7<|.ix x10<|i 0) x10) .nil)
abbrev OS:Ss:=s1 (.expr<|.me x8 0<|e1<|aJ (.tu<|e1 x9)<|.bi .tuple<|e1<|.comp aa [2] (.ix x3<|cL x9<|i 65) (.c<|.bool aa)<|.call 107<|e2 x0 x1)
abbrev Ll:Ss:=s1 (.expr<|.me x8 0<|e1<|.tu<|e4 (.c .none) (.call 107<|e2 (.ix (.tu<|e2 (.neg<|i 30001)<|i 50002)<|.ix x10<|i 2) x2) (i 0)<|i 0)
abbrev JP:Ss:=s1 (.af y9<|.ite (.iz .le .lt (i 65) cA<|aJ (i 65)<|.bi .len<|e1 x3) cA<|.c .none)
abbrev O_:Ss:=mQ (.ite (la x9<|.c .none) OS .nil) (.ite (la x10<|.c .none) Ll .nil) JP
abbrev H5:Ss:=kB (.ite (.an (la x10<|.c .none)<|.nt<|.ix x10<|i 1) (s2 (.af y9<|.ix x10<|i 2) .cont) .nil) O_
abbrev Dm:Ss:=kB (.af j7<|.ite (aS x9<|i 65) (.me x7 3<|e1 cA)<|.c .none) H5
abbrev E6:Ss:=s1 (.ret<|.gz x8)
def Hn:Fn:=⟨3,[],12,tZ (.af (.aj<|t4 y3 y4 y5 y6) x0) (.af (.aj<|t3 y7 y8 y9)<|.tu<|e3 (.di ae .nil .nil) (.li ae .nil)<|.c .none) (.for j7 x4 Lp) (.for rn (aJ x1<|.li aa<|e1<|i 0) Dm) E6⟩
def wL:Fn:=⟨4,[],4,s1<|.tr<|s1<|.ret<|.call 30<|e5 x0 x1 (.ix (.tu<|e2 (.c<|.str<|eF "fa")<|.c<|.str<|eF "fb")<|cL x1<|i 1) x2 x3⟩
abbrev MK:Ss:=s1 (.expr<|.me cA 0<|e1<|.comp aa [3,1] (.bi .range<|e1<|.call 103<|e2 x3<|i 5) (.c<|.bool aa)<|aJ (i 65)<|.call 103<|e2 x1<|aJ (.bi .len<|e1<|.ix x2<|i 0)<|i 1)
abbrev Jl:Ss:=s1 (.ret<|.c<|.bool ae)
abbrev zz:Ss:=s2 (.ite (la (.ix dW<|i 1)<|.c .none) (s1<|.expr<|.me EW 0<|e1<|.tu<|e5 (i 0) lW (aJ x7 mA) (.ix dW<|i 0)<|.ix dW<|i 1) .nil) (.af Kb<|aJ lW<|.ix dW<|i 2)
abbrev HZ:Ss:=s1 (.ret<|.c<|.bool ae)
abbrev Cd:Ss:=s1 (.ite (.an (la x24<|.c .none)<|cm x24<|.tu<|e5 (.ix x1<|i 2) (.ix x8<|cL k7<|i 1) (.ix x1<|i 3) (i 0)<|.ix (.tu<|e2 (.c<|.a6 [102,97])<|.c<|.a6 [102,98])<|cL k7<|i 1) (s1<|.ret<|.c<|.bool ae) .nil)
abbrev KO:Ss:=mQ (.af ZX<|.me (.at xO 37) 3<|e1 k7) (.ite (cm (la x24<|.c .none)<|r5 k7<|.comp aa [] EW (.c<|.bool aa)<|.ix x0<|i 3) HZ .nil) Cd
abbrev Ge:Ss:=s2 (.for Xu (.tu<|e2 (i 1)<|i 2) KO) (.ret<|.c<|.bool aa)
abbrev zK:Ss:=kB (.ite (cm (.at xO 43)<|.li aa<|e1<|.tu<|e2 (.tu<|w5 (i 3) (i 0) (i 0) (i 0) (i 0) (i 0)<|e4 (i 0) (i 0) (i 0)<|i 0)<|.bi .tuple<|e1 EW) (s1<|.ret<|.c<|.bool ae) .nil) Ge
abbrev EJ:Ss:=mQ (.af (.aj<|t2 Va Kb)<|.tu<|e2 (.li ae .nil) x6) (.for y22 nA zz) zK
abbrev CM:Ss:=t_ (.af y18<|.new 8<|e1<|i 2) (.expr<|.me zo 30<|e4 l8 (.tu<|e1<|i 3) x6 x7) (.af ZM<|.call 93<|e2 (.me zo 31 .nil) pV) EJ
abbrev Oi:Ss:=z7 (.af Cr<|.di aa (e2 (i 1)<|i 2)<|e2 x9 x10) (.af DR<|.ix (.call 49<|e1<|aJ (.call 100<|e2 x9<|.ix cA<|i 0)<|.call 100<|e2 x10<|.ix cA<|i 1)<|i 0) (.af MH<|aJ (.comp aa [] (.call 108<|e3 x1 (.ix cA<|i 0)<|.ix x8<|i 0) (.c<|.bool aa)<|aJ (.tu<|e1<|i 1) x0)<|.comp aa [] (.call 108<|e3 x1 (.ix cA<|i 1)<|.ix x8<|i 1) (.c<|.bool aa)<|aJ (.tu<|e1<|i 2) x0) (.af (.aj<|t2 Pn y17)<|.tu<|e2 (.bi .max<|e1<|aJ (.li aa<|e1<|i 0)<|.comp aa [] nA (.c<|.bool aa)<|.ix x0<|i 3)<|.bi .max<|e1<|aJ (.li aa<|e1<|i 0)<|.comp aa [] nA (.c<|.bool aa)<|.ix x0<|i 4) (.ite (cm (.tu<|e3 (.at l8 22) (.at l8 23) (.at l8 24))<|.tu<|e3 (.bi .sum<|e1<|.comp aa [] nA (.c<|.bool aa)<|.ix x0<|i 2) mA tJ) Jl .nil) CM
abbrev vF:Ss:=t_ (.af y3<|.call 102<|e1<|.call 101<|e2 x0<|i 2) (.af rn<|.li ae .nil) (.for yR (.bi .range<|e1<|i 2) MK) Oi
abbrev q8:Ss:=mQ (.ite (.or (je x9<|.c .none)<|cm (je x10<|.c .none)<|.nt<|.iz .le .le (i 1) x5<|i 32768) (s1<|.ret<|.c<|.bool ae) .nil) (.ite (je x10<|.c .none) (s1<|.af (.aj<|t2 j7<|.ix x8<|i 1)<|.tu<|e2 (.call 109<|e4 x2 (i 2) x4<|i 0) x4) .nil) vF
def DZ:Fn:=⟨1,[],25,dU (.af y1<|.call 104<|e1<|.call 102<|e1<|.call 101<|e2 x0<|i 0) (.af y2<|.call 106<|e1<|.call 105<|e1 x1) (.af y3<|.call 102<|e1<|.call 101<|e2 x0<|i 1) (.af y4<|.ix (.tu<|e6 (i 655360) (i 786432) (i 1000003) (i 8388609) (i 70001)<|i 1)<|.call 103<|e2 x3<|i 6) (.af y5<|.ix (.tu<|w5 (i 1) (i 500) (i 1000) (i 1200) (i 2986) (i 32768)<|e3 (i 0) (i 32769)<|i 7)<|.call 103<|e2 x3<|i 9) (.af (.aj<|t2 y6 y7)<|.tu<|e2 (.call 103<|e2 x3<|i 1000)<|.call 103<|e2 x3<|i 1000)<|mQ (.af y8<|.li ae<|e2 x4<|hQ (bY (.ix x1<|i 3) x5)<|i 1000) (.af (.aj<|t2 y9 j7)<|.tu<|e2 (.call 109<|e4 x2 (i 1) x4<|i 0)<|.call 109<|e4 x2 (i 2) (i 0) x5) q8⟩
end
def J3:List<|Nat×Fn:=[(0,f0),(1,f1),(2,f2),(3,f3),(4,f4),(5,f5),(6,f6),(7,f7),(8,f8),(9,f9),(10,f10),(11,O2),(12,f12),(13,Uw),(14,f14),(15,f15),(16,f16),(17,Xz),(18,f18),(19,ZB),(20,f20),(21,Vj),(22,XC),(23,KJ),(24,f24),(25,X6),(26,VQ),(27,f27),(28,TZ),(29,wG),(30,vu),(31,Z2),(32,Uv),(33,f33),(34,f34),(35,f35),(36,f36),(37,V0),(38,VD),(39,VZ),(40,XK),(41,f41),(42,f42),(43,We),(44,f44),(45,XV),(46,Vs),(47,Zz),(48,f48),(49,f49),(50,f50),(51,f51),(52,Uf),(53,f53),(54,f54),(55,ID),(56,V6),(57,JE),(58,Ow),(59,B6),(60,T8),(61,f61),(62,Iy),(63,Ok),(64,KQ),(65,PE),(66,f66),(67,NF),(68,f68),(69,P8),(70,PZ),(71,W5),(72,YC),(73,Qi),(74,IJ),(75,YX),(76,f76),(77,f77),(78,TN),(79,f79),(80,f80),(81,To),(82,f82),(83,Mp),(84,f84),(85,f85),(86,VC),(87,f87),(88,f88),(89,XO),(90,ZO),(91,Xe),(92,ZW),(93,IH),(94,f94),(95,f95),(96,SW),(97,Xr),(98,Zh),(99,f99),(100,Vt),(101,ai0),(102,ae7),(103,ap2),(104,Od),(105,M1),(106,Lu),(107,Zo),(108,Hn),(109,wL),(110,DZ)]
noncomputable def K0:List<|Nat×V:=[(0,.int 2147483647),(1,.int 1073741823),(2,.int 0),(3,.int 3),(4,.int 1),(5,.int 2),(6,.int 128),(7,.int 128),(8,.int 255),(9,.int 255),(10,.int 134217727),(11,.int 256),(12,.int 64),(13,.aj [.int 0,.int 0,.int 0,.int 0,.int 0,.int 0]),(14,.int 32767),(15,.int 65536),(16,.int 2),(17,.int 3),(18,.int 0),(19,.int 0),(20,.int 3),(21,.int 0),(22,.int 1),(23,.int 5),(24,.int 12),(25,.int 14),(26,.int 4),(27,.int 6),(28,.int 8),(29,.int 0),(30,.int 0),(31,.int 1),(32,.int 2),(33,.int 3),(34,.int 2),(35,.int 1),(36,.int 0),(37,.int 1),(38,.int 25400000),(39,.int 473628672),(40,.int 1000),(41,.int 243),(42,.int 0),(43,.int 4),(44,.int 4),(45,.int 9),(46,.int 0),(47,.int 1),(48,.int 5),(49,.int 2),(50,.int 1),(51,.int 5),(52,.int 2),(53,.int 10),(54,.int 3),(55,.int 143),(56,.int 157),(57,.int 141),(58,.int 142),(59,.int 171),(60,.int 235),(61,.int 128),(62,.int 13),(63,.int 0),(64,.aj [.int 5,.int 6,.int 7,.int 9,.int 10,.int 11,.int 12]),(65,.int 60),(66,.int 247),(67,.int 2),(68,.str<|eF "gluepage"),(69,.int 139),(70,.int 140),(71,.int 248),(72,.int 249),(73,.int 223),(74,.int 0),(75,.int 132),(76,.int 137),(77,.int 133),(78,.int 138),(79,.int 239),(80,.int 2),(81,.aj [.int 0,.int 1,.int 2,.int 3,.int 5,.int 6,.int 7,.int 11]),(82,.int 20),(83,.aj [.int 667883746520804040339592396131,.int 1000000000055096219,.int 1000000000000658403])]
noncomputable def tN:List<|Nat×List Nat:=[(0,[0,1,2]),(1,[3,4,5,6,7,8,9,10,11,12,13,14,15]),(2,[16,17]),(3,[16,17,18,19,20]),(4,[21,22,23,24,25,26,27,28,29]),(5,[22,30]),(6,[34,35]),(7,[36,37,24,38,39,16,40,41,42]),(8,[24,36,37,43,44,45,46,42]),(9,[36,47]),(10,[38,39,48,49,50,51,16,52,42,35]),(11,[53,54,43,37,45,46,42]),(12,[16,55,56,57,58,59,60,61])]
noncomputable def VT:List Nat:=[9999,9999,9999,9999,25,22,23,24,9999,9999,9999,9999,9999,9999,9999,9999,9999,9999,9999,9999,9999,9999,9999,9999,3,9999,9999,9999,9999,9999,9999,9999]
noncomputable def vn:List<|Nat×Nat:=[(0,5),(1,13),(2,33),(3,34),(4,35),(5,36),(6,56),(7,61),(8,72),(9,75),(10,79),(11,81),(12,95)]
noncomputable def pO:List<|Nat×List (Nat×Nat):=[(0,[(9,6)]),(1,[(15,14),(5,15),(6,16),(7,17),(29,18)]),(6,[(13,57),(14,58),(12,59)]),(7,[(22,62),(23,63),(16,64),(17,65),(18,66),(19,67)]),(8,[(30,73),(31,74)]),(9,[(24,76),(25,77),(26,78)]),(10,[(27,80)])]
noncomputable def wA:List<|Nat×List (Nat×V):=[(2,[(21,.int 0)]),(3,[(21,.int 1)]),(5,[(21,.int 5)])]
noncomputable def I:md where
 gw:=bc K0
 vE c f:=match bc wA c with|U l=>bc l f|.none=> .none
 ms c m:=match bc pO c with|U l=>bc l m|.none=> .none
 mf m:=match ah VT m with|U f=>f|.none=>9999
 nP c f:=match bc tN c with|U l=>l.contains f|.none=>ae
 lu:=bc vn
 fn:=bc J3
noncomputable def gA:List Str:=(["natural","stretch","shrink","number","name","size","design","check","params","chars","program","kerns","boundary","edge_start","hyphen_char","skew_char","font","code","parts","left","right","kind","width","height","depth","items","shift","sign","order","ratio","sort","glue","middle","leader","plain","rows","octets","fonts","h","v","across","down","deepest","pages","last","tallest","widest","at","w","x","y","z","stack","units","comment","waiting","now","edge","found","hit_left","hit_right","is_going"]:List String).map eF
noncomputable def Hq:List Str:=(["append","pop","extend","get","items","width","height","depth","add","widen","stretch_top","shrink_top","hit","prune","move","has","go_across","go_down","choose","letter","special","rule","open","close","number","signed","taken","go","push","starts","ship","done"]:List String).map eF
noncomputable def Zk:List Str:=(["MAX_NUMBER","MAX_DIMEN","PLAIN_SORT","PIECES_SORT","PROGRAM_SORT","LARGER_SORT","STOP_SKIP","KERN_OP","LEAD","MOST_FONTS","MOST_SIZE","EDGE","MOST_PARAMS","NO_CHARACTER","LONGEST","UNITY","HBOX","VBOX","NATURAL","FONT_KERN","MU_KERN","CHAR","LIGATURE","KERN","MATH","UNSET","RULE","GLUE","DISC","NORMAL","FINE","LOOSE","TIGHT","OVERFULL","SHRUNK","STRETCHED","EXACTLY","SPREAD","NUMERATOR","DENOMINATOR","MAGNIFICATION","FONT_DEF_1","FREE","IS_FIRST","FIRST_AGAIN","SECOND_AGAIN","NONE_SEEN","FIRST_SEEN","IS_SECOND","SECOND_SEEN","FIRST_FREE","FIRST_SET","SECOND_FREE","SECOND_SET","FIXED","RIGHT_1","DOWN_1","PUSH","POP","FONT_0","FONT_1","SET_1","SPECIAL","FOR_DEVICE","SILENT_ACROSS","DEEPEST_BOXES","PREAMBLE","IDENTITY","COMMENT_TEXT","PAGE_BEGIN","PAGE_END","POSTAMBLE","POST_POST","FILLING","CHAR_ROW","SET_RULE","PUT_RULE","PUT_1","NO_OPERATION","SPECIAL_1","SPECIAL_ROW","KNOWN_OPS","STEPS","_law_chosen"]:List String).map eF
noncomputable def X7:List Str:=(["is_whole","check_whole","check_number","check_dimen","rounded","__init__","widen","is_size","check_sizes","check_chars","check_larger","check_program","left_start","__init__","has","width","height","depth","starts","size_parts","scaled_product","read_counts","read_sizes","read_rows","read_slots","read_chars","read_params","read_design","read_tfm","read_scaled","load_metrics","right_code","check_code","__init__","__init__","__init__","__init__","width_of","height_of","depth_of","line_height","line_depth","natural_line","set_glue","set_part","part_size","places","goal_size","set_box","hpack","put_number","put_signed","put_counted","put_units","define_font","check_place","__init__","prune","move","hit","barred","__init__","open","close","go_across","go_down","choose","letter","parts_of","across_part","out_box","check_page","__init__","ship","done","__init__","number","signed","taken","__init__","go","__init__","read_units","read_font","is_font_definition","read_move","read_letter","choose_font","add_font","page_step","read_page","read_post_fonts","read_postamble","read_file","look","__init__","leave","pass_on","put_between","word_nodes","run","_law_cell","_law_bag","_law_draw","_law_metrics","_law_words","_law_octets","_law_at","_law_joined","_law_loaded","law","check_pieces","badness","quotient","check_column","flex","moved","leader_places","with_rule_sizes","down_part","read_rule"]:List String).map eF
noncomputable def kZ:List Str:=(["Totals","Font","Char","Ligature","Box","Kern","Moves","PageWriter","DviWriter","OctetStream","PageState","Device","Word"]:List String).map eF
noncomputable def aJ6:List ai:=[219,371,509,529,550,571,817,901,970,1016,1058,1079,1191]
noncomputable def rK:List ai:=[125,132,139,146,153,181,195,239,246,260,267,274,281,298,305,312,319,326,340,382,389,394,399,404,411,418,425,432,440,447,454,461,492,506,526,547,568,580,585,590,597,604,631,652,666,673,680,694,701,709,746,753,760,767,772,779,793,800,807,814,828,842,849,856,863,870,877,884,912,917,929,936,951,960,967,992,999,1006,1013,1034,1055,1076,1090,1095,1102,1109,1116,1130,1137,1144,1149,1156,1161,1168,1176,1188,1202,1209,1216,1223,1231,1239,1246,1253,1260,1265,1272,1279,1284,1291,1296,253,160,645,638,659,687,609,616,922,1123]
noncomputable def nm(l:List Str)(k:Nat):Str:=match ah l k with|U s=>s|.none=>""
abbrev cM(k:Nat):Str:=nm gA k
abbrev kt(k:Nat):Str:=nm Hq k
abbrev si(k:Nat):Str:=nm Zk k
abbrev sd(k:Nat):Str:=nm X7 k
abbrev tY(k:Nat):Str:=nm kZ k
noncomputable def P7(l:List ai)(k:Nat):ai:=match ah l k with|U s=>s|.none=>0
abbrev dK(k:Nat):ai:=P7 aJ6 k
abbrev bR(k:Nat):ai:=P7 rK k
noncomputable def Th:List<|Nat×List Str:=[(21,["octets","counts","count","whole","header","first","last"]),(22,["octets","at","many","size","reduced","factor"]),(23,["octets","at","many"]),(34,["self","font","code","parts","left","right"]),(37,["node","kind"]),(38,["node","kind"]),(39,["node","kind"]),(54,["octets","font","mark"]),(69,["page","box","row","left","base","item","h","kind","shape","size","width","height","depth"]),(83,["stream","opcode","fonts","number","check","size","design","area","length","name","font"]),(90,["stream","last","known","fonts","counts","state","opcode"]),(92,["stream","device","last","fonts","begin","rest"]),(95,["self","font","codes","has_left","edge"]),(105,["font","letters","rows","check","design","many","counts","found","k","which","row","jump"]),(108,["font","codes","size","letters","rows","check","design","table","found","now","row","code"]),(110,["script","made","octets","bag","size","scale","left","top","sizes","one","other","texts","k","fonts","box","parts","tall","deep","writer","device","due","at","row","which","told"])]
end c6
namespace c6.La
open g6 mh cB gj ju oH qk j6 mB hY jT kU ux cj tv sC sO rQ lj oq nF
open PySem
theorem H.le_refl(h:H):H.le h h:=λ_ _ e=>e
theorem H.le_trans{h k l}(a:H.le h k)(b:H.le k l):H.le h l:=λx o e=>b x o (a x o e)
theorem H.kb(h:H)(a:ai)(o:O):(h.cq a o) a=U o:=aM rfl
theorem H.jZ{h:H}{a b}{o}(e:b≠a):(h.cq a o) b=h b:=aE e
theorem H.Wg{h k}{a}{o}(l:H.le h k)(f:h a=Y):H.le h<|k.cq a o:=λx p e=>by
 by_cases z:x=a
 ·subst z;rw[f] at e;cases e
 ·rw[H.jZ z];exact l _ _ e
theorem H.S3{h:H}{a b}{o}(x:h a=U o)(y:h b=Y):a≠b:=λe=>by subst e;rw[x] at y;cases y
theorem H.Z8{h:H}{a b}{o}(y:(h.cq a o) b=Y):b≠a/\h b=Y:=by
 by_cases z:b=a
 ·subst z;rw[H.kb] at y;cases y
 ·rw[H.jZ z] at y;exact⟨z,y⟩
abbrev ie(Q:V->H->Prop):Fl->L->H->Prop:=λfl _ h=> ∃h',H.le h' h/\Q (vN fl) h'
theorem e_{d f}{fn}{vs}{ρ}{h}{Q}(hf:I.fn f=U fn)(hb:oz fn vs=U ρ)
  (x:aZ I (al I d) fn.body ρ h<|ie Q):al I (d+1) f vs h Q:=by
 show(I.fn f).elim False _
 rw[hf]
 show(oz fn vs).elim False _
 rw[hb]
 exact x
open Classical in
theorem XT{p}(h:p):fD p=aa:=decide_eq_true h
open Classical in
theorem Qj{p}(h: ¬p):fD p=ae:=decide_eq_false h
noncomputable abbrev og(C:cW)(r:Ss)(P:Fl->L->H->Prop):Fl->L->H->Prop:=λf ρ h=>match f with|.next=>aZ I C r ρ h P|f=>P f ρ h
abbrev kkn(P:Fl->L->H->Prop)(ρ:L):V->H->Prop:=λ_ h=>P .next ρ h
abbrev kka(C:cW)(t:Tg)(ρ:L)(J:L->H->Prop):V->H->Prop:=λv h=>af I C t v ρ h J
abbrev zS(C:cW)(a:Ss)(ρ:L)(P:Fl->L->H->Prop):H->Prop:=λh=>aZ I C a ρ h P
abbrev cn(C:cW)(t:Tg)(b:Ss):V->L->H->(Fl->L->H->Prop)->Prop:=λv ρ h Q=>af I C t v ρ h λρ h=>aZ I C b ρ h Q
abbrev Sv(B:V->L->H->(Fl->L->H->Prop)->Prop)(ρ:L)(P:Fl->L->H->Prop):It:=λxs g h=>dg B g xs ρ h P
abbrev N6(P:Fl->L->H->Prop)(ρ:L):V->H->Prop:=λv h=>P (.ret v) ρ h
abbrev WH(C:cW)(r:ia)(vs:List V)(J:L->H->Prop):L->H->Prop:=λρ h=>lQ I C r vs ρ h J
abbrev kkb(o:jY)(b:V)(Q:V->H->Prop):V->H->Prop:=λa h=>g6 h Q o b a
abbrev aa3(C:cW)(o:jY)(b:E)(ρ:L)(Q:V->H->Prop):V->H->Prop:=λa h=>(ao I C b ρ).v h (kkb o a Q)
abbrev WQ(Q:V->H->Prop):V->H->Prop:=λv h=>sC h Q v
abbrev kkw(Q:V->H->Prop):V->H->Prop:=λv h=>sO h Q v
abbrev aC7(C:cW)(b:E)(ρ:L)(Q:V->H->Prop):V->H->Prop:=λv h=>kX ((ao I C b ρ).v h Q) (Q (.bool ae) h) v
abbrev kkp(Q:V->H->Prop)(h:H):Prop->Prop:=λp=>Q (.bool<|fD p) h
abbrev kkc(o:nj)(b:V)(Q:V->H->Prop):V->H->Prop:=λa h=>cB h (kkp Q h) o b a
abbrev at9(C:cW)(o:nj)(b:E)(ρ:L)(Q:V->H->Prop):V->H->Prop:=λa h=>(ao I C b ρ).v h (kkc o a Q)
abbrev az8(Q:V->H->Prop):List V->H->Prop:=λvs h=>Q (.aj vs) h
abbrev aE8(Q:V->H->Prop):List V->H->Prop:=λvs h=>Q (.fl vs) h
abbrev ai7(Q:V->H->Prop):List V->H->Prop:=λvs h=> ∀a,h a= .none->Q (.ref a) (h.cq a<|.list vs)
abbrev ah8(f:Nat)(Q:V->H->Prop):V->H->Prop:=λv h=>j6 I h Q v f
abbrev Z0(v:V)(Q:V->H->Prop):V->H->Prop:=λi h=>gj h Q v i
abbrev as2(C:cW)(i:E)(ρ:L)(Q:V->H->Prop):V->H->Prop:=λv h=>(ao I C i ρ).v h (Z0 v Q)
abbrev aC8(v l:V)(Q:V->H->Prop):V->H->Prop:=λu h=>ju h Q v l u
abbrev UE(C:cW)(u:E)(ρ:L)(v:V)(Q:V->H->Prop):V->H->Prop:=λl h=>(ao I C u ρ).v h (aC8 v l Q)
abbrev XQ(C:cW)(l u:E)(ρ:L)(Q:V->H->Prop):V->H->Prop:=λv h=>(ao I C l ρ).v h (UE C u ρ v Q)
abbrev aH5(Q:V->H->Prop):V->H->Prop:=λv h=>oH h Q v
abbrev V7(C:cW)(f:Nat)(Q:V->H->Prop):List V->H->Prop:=λvs h=>C f vs h Q
abbrev XX(Q:V->H->Prop)(a:ai):V->H->Prop:=λv h=>rQ (Q (.ref a) h) v
abbrev Vy(C:cW)(c f:Nat)(Q:V->H->Prop):List V->H->Prop:=λvs h=> ∀a,h a= .none->C f (.ref a::vs) (h.cq a<|.aK c []) (XX Q a)
abbrev am9(b:Bi)(Q:V->H->Prop):List V->H->Prop:=λvs h=>cj h Q b vs
abbrev WU(v:V)(K:List V->H->Prop):List V->H->Prop:=λvs h=>K (v::vs) h
abbrev aO2(C:cW)(r:Es)(ρ:L)(K:List V->H->Prop):V->H->Prop:=λv h=>cP I C r ρ h (WU v K)
abbrev yc(T F:H->Prop):V->H->Prop:=λv h=>tv h T F v
abbrev Oh(C:cW)(b:E)(ρ:L)(T F:H->Prop):H->Prop:=λh=>(ao I C b ρ).t h T F
abbrev kkj(T F:H->Prop)(h:H):Prop->Prop:=λp=>(p->T h)/\(¬p->F h)
abbrev aM8(o:nj)(b:V)(T F:H->Prop):V->H->Prop:=λa h=>cB h (kkj T F h) o b a
abbrev Ys(C:cW)(o:nj)(b:E)(ρ:L)(T F:H->Prop):V->H->Prop:=λa h=>(ao I C b ρ).v h (aM8 o a T F)
abbrev oA(K:It):V->H->Prop:=λv h=>hY h K v
abbrev S2(K:It):List V->H->Prop:=λvs h=>jT h K vs
abbrev aA6(K:It):List V->H->Prop:=λvs h=>kU h K vs
abbrev ab3(C:cW)(a:H->(List V->H->Prop)->Prop)(m:Nat)(Q:V->H->Prop):V->H->Prop:=λv h=>lj I C h a Q m v
abbrev qD(C:cW)(cond a:E)(b:L):V->H->(Option V->H->Prop)->Prop:=λv h K=>(ao I C cond<|U v::b).t h (λh=>(ao I C a<|U v::b).v h λw h=>K (U w) h) λh=>K .none h
section rules
variable{C:cW}{ρ ρ':L}{h:H}{Q:V->H->Prop}{T F:H->Prop}{K:It}{P:Fl->L->H->Prop}
theorem f_(k:P .next ρ h):aZ I C .nil ρ h P:=k
theorem bz{s}{r}(k:ex I C s ρ h<|og C r P):aZ I C (.cons s r) ρ h P:=k
theorem ip{e}(k:(ao I C e ρ).v h<|kkn P ρ):ex I C (.expr e) ρ h P:=k
theorem nN{t}{e}(k:(ao I C e ρ).v h<|kka C t ρ<|P .next):ex I C (.af t e) ρ h P:=k
theorem Gg{t}{a b}(k:(ao I C t ρ).t h (zS C a ρ P)<|zS C b ρ P):ex I C (.ite t a b) ρ h P:=k
theorem iE{t}{a}{b}(k:(ao I C a ρ).i h<|Sv (cn C t b) ρ P):ex I C (.for t a b) ρ h P:=k
theorem mH{e}(k:(ao I C e ρ).v h<|N6 P ρ):ex I C (.ret e) ρ h P:=k
theorem eH{i}{v}{J}(k:J (cX ρ i v) h):af I C (.x i) v ρ h J:=k
theorem Xi{a}{l}{J}(hl:bE l.length (o9 a)=aa)(k:lQ I C a l ρ h J):match bE l.length (o9 a) with|aa=>lQ I C a l ρ h J|ae=>False:=by rw[hl];exact k
theorem Fw{a}{l}{J}(hl:bE l.length (o9 a)=aa)(k:lQ I C a l ρ h J):af I C (.aj a) (.aj l) ρ h J:= .BY (Xi hl k)
theorem CO{J}(k:J ρ h):lQ I C .nil [] ρ h J:=k
theorem ut{t}{r}{v}{vs}{J}(k:af I C t v ρ h<|WH C r vs J):lQ I C (.cons t r) (v::vs) ρ h J:=k
theorem bl{v}(k:Q v h):(ao I C (.c v) ρ).v h Q:=k
theorem ap{i}{v}(hv:ah ρ i=U (U v))(k:Q v h):(ao I C (.x i) ρ).v h Q:=by
 show gh _ _ _;unfold gh;rw[hv];exact k
theorem oa{i}{v}(hv:I.gw i=U v)(k:Q v h):(ao I C (.g i) ρ).v h Q:=by
 show(match I.gw i with|U v=>Q v h|.none=>False);rw[hv];exact k
theorem eE{o}{a b}(k:(ao I C a ρ).v h<|aa3 C o b ρ Q):(ao I C (.dY o a b) ρ).v h Q:=k
theorem v1{a}(k:(ao I C a ρ).v h<|WQ Q):(ao I C (.neg a) ρ).v h Q:=k
theorem af8{a}(k:(ao I C a ρ).v h<|kkw Q):(ao I C (.nt a) ρ).v h Q:=k
theorem N9{a b}(k:(ao I C a ρ).v h<|aC7 C b ρ Q):(ao I C (.an a b) ρ).v h Q:=k
theorem Mu{o}{a b}(k:(ao I C a ρ).v h<|at9 C o b ρ Q):(ao I C (.eW o a b) ρ).v h Q:=k
theorem WM{o p}{a b d}(k:(ao I C a ρ).v h λe h=>(ao I C b ρ).v h λc h=>cB h (λr=>(r->(ao I C d ρ).v h λf h=>cB h (λr=>Q (.bool<|fD r) h) p c f)/\(¬r->Q (.bool ae) h)) o e c):(ao I C (.iz o p a b d) ρ).v h Q:=k
theorem mU{a}(k:cP I C a ρ h<|az8 Q):(ao I C (.tu a) ρ).v h Q:=k
theorem wO{a}(k:cP I C a ρ h<|aE8 Q):(ao I C (.li aa a) ρ).v h Q:=k
theorem Up{a}(k:cP I C a ρ h<|ai7 Q):(ao I C (.li ae a) ρ).v h Q:=k
theorem Za{a vs}(k:cP I C a ρ h λyc h=>cP I C vs ρ h λvv h=>Cj yc vv [] λes=>Q (.fd es) h):(ao I C (.di aa a vs) ρ).v h Q:=k
theorem cJ{a}{f}(k:(ao I C a ρ).v h<|ah8 f Q):(ao I C (.at a f) ρ).v h Q:=k
theorem iC{a i}(k:(ao I C a ρ).v h<|as2 C i ρ Q):(ao I C (.ix a i) ρ).v h Q:=k
theorem qn{a l u}(k:(ao I C a ρ).v h<|XQ C l u ρ Q):(ao I C (.sl a l u) ρ).v h Q:=k
theorem OV{a}(k:(ao I C a ρ).v h<|aH5 Q):(ao I C (.iK a) ρ).v h Q:=k
theorem eI{f}{a}(k:cP I C a ρ h<|V7 C f Q):(ao I C (.call f a) ρ).v h Q:=k
theorem U7{c f}{j}(hf:I.lu c=U f)(k:cP I C j ρ h<|Vy C c f Q):(ao I C (.new c j) ρ).v h Q:=by
 show cP I C j ρ h λvs h=>(match I.lu c with|U f=> ∀a,h a= .none->C f (.ref a::vs) (h.cq a<|.aK c []) λv h=>rQ (Q (.ref a) h) v|.none=>False)
 rw[hf];exact k
theorem gv{a}{m}{j}(k:(ao I C a ρ).v h<|ab3 C (cP I C j ρ) m Q):(ao I C (.me a m j) ρ).v h Q:=k
theorem eJ{b}{a}(k:cP I C a ρ h<|am9 b Q):(ao I C (.bi b a) ρ).v h Q:=k
theorem kx{cs}{l a j}(k:(ao I C l ρ).i h λxs g h=>a_ xs.length/\iB ρ cs λb=>
   hO (qD C a j b) g xs h λws h=>Q (.fl ws) h):(ao I C (.comp aa cs l a j) ρ).v h Q:=k
theorem bh{K}(k:K [] h):cP I C .nil ρ h K:=k
theorem ay{e}{r}{K}(k:(ao I C e ρ).v h<|aO2 C r ρ K):cP I C (.cons e r) ρ h K:=k
theorem t_x{i}(k:(ao I C (.x i) ρ).v h<|yc T F):(ao I C (.x i) ρ).t h T F:=k
theorem aI9{f}{a}(k:(ao I C (.call f a) ρ).v h<|yc T F):(ao I C (.call f a) ρ).t h T F:=k
theorem ah5{a}(k:(ao I C a ρ).t h F T):(ao I C (.nt a) ρ).t h T F:=k
theorem Jq{a b}(k:(ao I C a ρ).t h (Oh C b ρ T F) F):(ao I C (.an a b) ρ).t h T F:=k
theorem vH{a b}(k:(ao I C a ρ).t h T<|Oh C b ρ T F):(ao I C (.or a b) ρ).t h T F:=k
theorem iS{o}{a b}(k:(ao I C a ρ).v h<|Ys C o b ρ T F):(ao I C (.eW o a b) ρ).t h T F:=k
theorem Fy{p}{A B}(hp:p)(k:A):(p->A)/\(¬p->B):=⟨λ_=>k,λn=>absurd hp n⟩
theorem gk{p}{A B}(hp: ¬p)(k:B):(p->A)/\(¬p->B):=⟨λn=>absurd n hp,λ_=>k⟩
theorem jr{K}(k:K []):iB ρ [] K:=k
theorem nX{i}{r}{v}{K:L->Prop}(hv:ah ρ i=U (U v))(k:iB ρ r λl=>K<|U v::l):iB ρ (i::r) K:=by
 show gh _ _ _;unfold gh;rw[hv];exact k
theorem jM{i}(k:(ao I C (.x i) ρ).v h<|oA K):(ao I C (.x i) ρ).i h K:=k
theorem aL2{a}(k:(ao I C (.tu a) ρ).v h<|oA K):(ao I C (.tu a) ρ).i h K:=k
theorem UF{i}(k:(ao I C (.g i) ρ).v h<|oA K):(ao I C (.g i) ρ).i h K:=k
theorem U2{o}{a b}(k:(ao I C (.dY o a b) ρ).v h<|oA K):(ao I C (.dY o a b) ρ).i h K:=k
theorem z2{a}{f}(k:(ao I C (.at a f) ρ).v h<|oA K):(ao I C (.at a f) ρ).i h K:=k
theorem YG{a l u}(k:(ao I C (.sl a l u) ρ).v h<|oA K):(ao I C (.sl a l u) ρ).i h K:=k
theorem VG{a}(k:(ao I C (.iK a) ρ).v h<|oA K):(ao I C (.iK a) ρ).i h K:=k
theorem Jw{f}{a}(k:(ao I C (.call f a) ρ).v h<|oA K):(ao I C (.call f a) ρ).i h K:=k
theorem iY{a}(k:cP I C a ρ h<|S2 K):(ao I C (.bi .range a) ρ).i h K:=k
theorem yU{a}(k:cP I C a ρ h<|aA6 K):(ao I C (.bi .kE a) ρ).i h K:=k
theorem M6(k:T h):tv h T F<|.bool aa:= .DA (λ_=>k) λn=>(jK n)
theorem Ed(k:F h):tv h T F<|.bool ae:= .DA (λn=>(fy n)) λ_=>k
theorem Fk{A B}(k:A):kX A B<|.bool aa:= .mk (λ_=>k) λn=>(jK n)
theorem an0{A B}(k:B):kX A B<|.bool ae:= .mk (λn=>(fy n)) λ_=>k
theorem ak8(k:Q (.bool aa) h):sO h Q<|.bool ae:= .JG k
end rules
theorem nG{C}{ρ}{h}{T F}(k:T h):(ao I C (.c<|.bool aa) ρ).t h T F:=M6 k
theorem qJ{α β}(f:α->β): ∀(l:List α) (i:Nat),ah (l.map f) i=(ah l i).map f
 |[],_=>rfl
 |_::_,0=>rfl
 |_::r,i+1=>qJ f r i
theorem DS{α}: ∀{l:List α} {i:Nat},i <l.length-> ∃x,ah l i=U x/\x∈l
 |[],_,h=>absurd h (Gx _)
 |a::_,0,_=>⟨a,rfl,xg⟩
 |_::r,i+1,h=>let⟨x,e,m⟩:=DS (xh h);⟨x,e,Gy _ m⟩
section
variable{C:cW}{ρ ρ':L}{h:H}{Q:V->H->Prop}{T F:H->Prop}{K:List V->H->Prop}{P:Fl->L->H->Prop}{e a b:E}{v:V}{r:Ss}{i:Nat}{n m:Int}
abbrev ay8(C:cW)(i:Nat)(r:Ss)(ρ:L)(P:Fl->L->H->Prop):V->H->Prop:=λv h=>aZ I C r (cX ρ i v) h P
theorem j1(k:(ao I C e ρ).v h<|ay8 C i r ρ P):aZ I C (.cons (.af (.x i) e) r) ρ h P:=k
theorem iM{s u}(k:(ao I C e ρ).t h (zS C s ρ<|og C r P)<|zS C u ρ<|og C r P):aZ I C (.cons (.ite e s u) r) ρ h P:=k
theorem aH4(k:(ao I C e ρ).v h<|N6 P ρ):aZ I C (.cons (.ret e) r) ρ h P:=k
end
inductive Bd where
 |no
 |b (lo hi:Int)
inductive SV where
 |op (v:V)
 |int (i:Int) (b:Bd)
 |ref (k:Nat) (a:ai)
 |aj (l:List SV)
 |fl (l:List SV)
inductive SO where
 |aK (c:Nat) (fs:List<|Nat×SV)
 |list (l:List V)
 |ls (l:List SV)
 |dict (es:List<|Int×V)
 |hM (p:O->Prop)
 |fW
abbrev G:=List (ai×SO)
abbrev SL:=List (Option SV)
inductive SF where
 |next
 |brk
 |cont
 |ret (v:SV)
inductive Tr where
 |aR
 |done (x:SF) (ρ:SL) (g:G)
 |br (p:Prop) (a b:Tr)
 |jV (p:Prop) (t:Tr)
 |all (k:ai->Tr)
 |QJ (T:V->Prop) (g:G) (k:SV->Tr)
 |ez (a b:Tr)
 |call (n f:Nat) (vs:List SV) (g:G) (k:SV->G->Tr)
 |ex (n:Nat) (e:E) (ρ:SL) (g:G) (k:SV->G->Tr)
 |st (n:Nat) (s:S) (ρ:SL) (g:G) (k:SF->SL->G->Tr)
noncomputable def den(a:SV):V:=SV.rec (λv=>v) (λi _=> .int i) (λ_ a=> .ref a) (λ_ l=> .aj l) (λ_ l=> .fl l) [] (λ_ _ v l=>v::l) a
noncomputable def bd(a:List SV):List V:=SV.rec_1 (λv=>v) (λi _=> .int i) (λ_ a=> .ref a) (λ_ l=> .aj l) (λ_ l=> .fl l) [] (λ_ _ v l=>v::l) a
noncomputable def Bd.ok(b:Bd)(i:Int):Prop:=match b with
 |.no=>True
 |.b lo hi=>lo<=i/\i<=hi
def aN(g:G)(a:SV):Prop:=SV.rec (λ_=>True) (λi b=>b.ok i) (λk a=> ∃o,ah g k=U (a,o)) (λ_ l=>l) (λ_ l=>l) True (λ_ _ v l=>v/\l) a
def bC(g:G)(a:List SV):Prop:=SV.rec_1 (λ_=>True) (λi b=>b.ok i) (λk a=> ∃o,ah g k=U (a,o)) (λ_ l=>l) (λ_ l=>l) True (λ_ _ v l=>v/\l) a
def bZ(fs:List<|Nat×SV):List<|Nat×V:=fs.map λp=>(p.1,den p.2)
def aq(ρ:SL):L:=ρ.map (uM den)
noncomputable def SO.at(o:SO)(x:Option O):Prop:=match o with
 |.aK c fs=>x=U (.aK c<|bZ fs)
 |.list l=>x=U (.list l)
 |.ls l=>x=U (.list<|bd l)
 |.dict es=>x=U (.dict es)
 |.hM p=> ∃o,x=U o/\p o
 |.fW=>True
noncomputable def SO.ok(g:G)(o:SO):Prop:=match o with
 |.aK _ fs=> ∀f v,bc fs f=U v->aN g v
 |.ls l=>bC g l
 |_=>True
noncomputable def SO.lv(o:SO):Prop:=match o with
 |.fW=>False
 |_=>True
def a8(g:G)(ρ:SL):Prop:= ∀i v,ah ρ i=U (U v)->aN g v
def G.le(g b:G):Prop:= ∀k a o,ah g k=U (a,o)-> ∃o',ah b k=U (a,o')
structure Hd(hb:H)(B:List ai)(g:G)(h:H):Prop where
 am: ∀k a o,ah g k=U (a,o)->o.at (h a)
 ok: ∀k a o,ah g k=U (a,o)->o.ok g
 inj: ∀i j a x y,ah g i=U (a,x)->ah g j=U (a,y)->x.lv->y.lv->i=j
 fr: ∀b o,hb b=U o->b∉B->h b=U o/\ ∀k x,ah g k≠U (b,x)
theorem fL{g h}(l:G.le g h)(v:SV):aN g v->aN h v:=
 SV.rec (λ_ _=>tI) (λ_ _ k=>k) (λk a x=>x.elim λo e=>l k a o e) (λ_ ih=>ih) (λ_ ih=>ih) (λ_=>tI) (λ_ _ i j k=>⟨i k.1,j k.2⟩) v
theorem rI{g h}(l:G.le g h)(v:List SV):bC g v->bC h v:=
 SV.rec_1 (motive_1:=λv=>aN g v->aN h v) (λ_ _=>tI) (λ_ _ k=>k) (λk a x=>x.elim λo e=>l k a o e) (λ_ ih=>ih) (λ_ ih=>ih) (λ_=>tI) (λ_ _ i j k=>⟨i k.1,j k.2⟩) v
theorem G.le_refl(g:G):G.le g g:=λ_ _ o e=>⟨o,e⟩
theorem G.le_trans{g k l}(a:G.le g k)(b:G.le k l):G.le g l:=λi x o e=>(a i x o e).elim λo e=>b i x o e
theorem dJ{g a}{ρ}(l:G.le g a)(k:a8 g ρ):a8 a ρ:=λi v e=>fL l v (k i v e)
theorem SO.zi{g a}(l:G.le g a){o:SO}(k:o.ok g):o.ok a:=SO.casesOn o (λ_ _ k f v e=>fL l v<|k f v e) (λ_ _=>tI) (λm k=>rI l m k) (λ_ _=>tI) (λ_ _=>tI) (λ_=>tI) k
noncomputable def gr{α R:Type}(no:R):List α->Nat->(α->R)->R
 |[],_,_=>no
 |x::_,0,k=>k x
 |_::r,n+1,k=>gr no r n k
noncomputable def km{α R:Type}(no:R):List α->Nat->α->(List α->R)->R
 |[],_,_,_=>no
 |_::r,0,v,k=>k (v::r)
 |x::r,n+1,v,k=>km no r n v λr=>k (x::r)
noncomputable def wu{α R:Type}(no:R):List (Nat×α)->Nat->(α->R)->R
 |[],_,_=>no
 |(m,v)::r,n,k=>cond (bE m n) (k v) (wu no r n k)
noncomputable def zp{α R:Type}:List (Nat×α)->Nat->α->(List (Nat×α)->R)->R
 |[],n,v,k=>k [(n,v)]
 |(m,w)::r,n,v,k=>cond (bE m n) (k<|(m,v)::r) (zp r n v λr=>k<|(m,w)::r)
noncomputable def ty{α R:Type}:List α->α->Nat->(Nat->List α->R)->R
 |[],x,i,k=>k i [x]
 |y::r,x,i,k=>ty r x (i+1) λn r=>k n (y::r)
theorem yY{α R}(no:R): ∀(l:List α) (i:Nat) (k:α->R),gr no l i k=match ah l i with|U x=>k x|Y=>no
 |[],_,_=>rfl
 |_::_,0,_=>rfl
 |_::r,n+1,k=>yY no r n k
theorem yr{α R}(no:R): ∀(l:List α) (i:Nat) (v:α) (k:List α->R),km no l i v k=match ah l i with|U _=>k (d_ l i v)|Y=>no
 |[],_,_,_=>rfl
 |_::_,0,_,_=>rfl
 |x::r,n+1,v,k=>yr no r n v λr=>k (x::r)
theorem SJ{α R}(no:R)(l:List<|Nat×α)(n:Nat)(k:α->R):wu no l n k=match bc l n with|U x=>k x|Y=>no:=by
 induction l with
 |nil=>rfl
 |cons p r ih=>exact(aA (cond _ _) ih).trans (Ao (f:=λo:Option α=>match o with|U x=>k x|Y=>no) (x:=U p.2) (y:=bc r n)).symm
theorem MI{α R}(l:List<|Nat×α)(n:Nat)(v:α)(k:List (Nat×α)->R):zp l n v k=k (iw l n v):=by
 induction l generalizing k with
 |nil=>rfl
 |cons p r ih=>exact(aA (cond _ _)<|ih _).trans (Ao (f:=k)).symm
theorem Lh{α R}: ∀(l:List α) (x:α) (i:Nat) (k:Nat->List α->R),ty l x i k=k (i+l.length) (l++[x])
 |[],_,_,_=>rfl
 |y::r,x,i,k=>(Lh r x (i+1) λn r=>k n<|y::r).trans (by rw[Q3];rfl)
theorem Ai{α}: ∀(l:List α) (i j:Nat) (v:α),ah (d_ l i v) j=if i=j then(ah l i).map (λ_=>v) else ah l j
 |[],i,j,v=>by show Y=_;split <;>rfl
 |_::_,0,0,_=>rfl
 |_::_,0,j+1,_=>rfl
 |_::_,i+1,0,_=>rfl
 |x::r,i+1,j+1,v=>(Ai r i j v).trans (by simp only[Nat.add_right_cancel_iff];rfl)
theorem rT{α}{x y}: ∀{l:List α} {i:Nat},ah (l++[x]) i=U y->ah l i=U y\/(i=l.length/\y=x)
 |[],0,e=> .inr ⟨rfl,(bM e).symm⟩
 |[],_+1,e=>bQ e
 |_::_,0,e=> .inl e
 |_::l,i+1,e=>(rT (i:=i) e).elim .inl λq=> .inr ⟨aA (· +1) q.1,q.2⟩
theorem Pu{α}{l:List<|Nat×α}{n m:Nat}{v w:α}(e:bc (iw l n v) m=U w):bc l m=U w\/w=v:=by
 have bq: ∀{b:Bool} {x:Option α},cond b (U v) x=U w->x=U w\/w=v:=λ{b x} e=>by
  cases b
  ·exact .inl e
  ·exact .inr (bM e).symm
 induction l with
 |nil=>exact(bq e).imp (λe=>bQ e) id
 |cons p r ih=>
  have e:bc (cond (bE p.1 n) ((p.1,v)::r)<|p::iw r n v) m=U w:=e
  show cond (bE p.1 m) (U p.2) (bc r m)=U w\/w=v
  cases h:bE p.1 n <;>rw[h] at e
  ·have e:cond (bE p.1 m) (U p.2) (bc (iw r n v) m)=U w:=e
   cases q:bE p.1 m <;>rw[q] at e
   ·exact ih e
   ·exact .inl e
  ·have e:cond (bE p.1 m) (U v) (bc r m)=U w:=e
   cases q:bE p.1 m <;>rw[q] at e
   ·exact .inl e
   ·exact .inr (bM e).symm
theorem O1(l:List<|Nat×SV)(n:Nat):bc (bZ l) n=(bc l n).map den:=by
 induction l with
 |nil=>rfl
 |cons p r ih=>exact(aA (cond _ _) ih).trans (Ao (f:=uM den) (x:=U p.2) (y:=bc r n)).symm
theorem IR{l}{n}{v}(e:bc l n=U v):bc (bZ l) n=U (den v):=(O1 l n).trans (e▸rfl)
theorem Nk(l:List<|Nat×SV)(n:Nat)(v:SV):bZ (iw l n v)=iw (bZ l) n (den v):=by
 induction l with
 |nil=>rfl
 |cons p r ih=>exact(Ao (f:=bZ)).trans (aA (cond _ _)<|congrArg (_:: ·) ih)
theorem zX: ∀(ρ:SL) (i:Nat) (v:SV),aq (d_ ρ i<|U v)=cX (aq ρ) i (den v)
 |[],_,_=>rfl
 |_::_,0,_=>rfl
 |x::r,n+1,v=>aA (x.map den:: ·) (zX r n v)
theorem re: ∀{ρ:SL} {i:Nat} {v:SV},ah ρ i=U (U v)->ah (aq ρ) i=U (U<|den v)
 |[],_,_,e=>bQ e
 |_::_,0,_,e=>by cases e;rfl
 |_::r,n+1,_,e=>re (i:=n) e
theorem Ft{g}{ρ}{i}{v}(k:a8 g ρ)(o:aN g v):a8 g<|d_ ρ i<|U v:=λj w e=>by
 rw[Ai] at e
 split at e
 ·cases q:ah ρ i with
  |none=>rw[q] at e;cases e
  |some x=>rw[q] at e;cases e;exact o
 ·exact k j w e
section
variable{hb:H}{B:List ai}{g:G}{h:H}{a:ai}{k:Nat}{o p:SO}{x:O}
theorem jd(e:ah g k=U (a,o)):G.le g<|d_ g k (a,p):=λj b q f=>by
 rw[Ai]
 by_cases z:k=j
 ·rw[aM z,e];subst z;rw[e] at f;cases f;exact⟨p,rfl⟩
 ·rw[aE z];exact⟨q,f⟩
theorem cN{j}{b}{q}(e:ah g k=U (a,o))(f:ah (d_ g k (a,p)) j=U (b,q)):(k=j/\b=a/\q=p)\/(k≠j/\ah g j=U (b,q)):=by
 rw[Ai] at f
 by_cases z:k=j
 ·rw[aM z,e] at f
  exact XJ (a:=a) (b:=p) (P:=λb' c=>(k=j/\b'=a/\c=p)\/(k≠j/\ah g j=U (b',c))) f (.inl ⟨z,rfl,rfl⟩)
 ·rw[aE z] at f;exact .inr ⟨z,f⟩
theorem SO.Gs: ∀{o:SO} {x:Option O},¬o.lv->o.at x
 |.fW,_,_=>trivial
 |.aK ..,_,n|.list _,_,n|.ls _,_,n|.dict _,_,n|.hM _,_,n=>absurd tI n
theorem SO.C3: ∀{o:SO},o.at Y-> ¬o.lv
 |.fW,_=>id
 |.aK ..,e|.list _,e|.ls _,e|.dict _,e=>bQ e
 |.hM _,⟨_,e,_⟩=>bQ e
theorem SO.Fp{o:SO}{x y:Option O}(f: ∀u,x=U u->y=U u):o.at x->o.at y:=SO.casesOn o (λ_ _=>f _) (λ_=>f _) (λ_=>f _) (λ_=>f _) (λ_ e=>e.imp λo e=>⟨f _ e.1,e.2⟩) id
theorem Hd.NB{h':H}(d:Hd hb B g h)(e:ah g k=U (a,o))(ol:o.lv)(hx:p.at<|h' a)(f: ∀b,b≠a-> ∀u,h b=U u->h' b=U u)(s:p.ok g):Hd hb B (d_ g k (a,p)) h' where
 am j b q m:=(cN e m).elim (λz=>by rw[z.2.1,z.2.2];exact hx) λz=>
  if c:b=a then SO.Gs λl=>z.1 (d.inj k j a o q e (c▸z.2) ol l) else SO.Fp (f b c) (d.am j b q z.2)
 ok j b q m:=SO.zi (jd e) ((cN e m).elim (λz=>z.2.2.symm▸s) λz=>d.ok j b q z.2)
 inj i j b x y m n lx ly:=(cN e m).elim (λz=>(cN e n).elim (λw=>z.1.symm.trans w.1) λw=>z.1.symm.trans<|d.inj k j a o y e (z.2.1▸w.2) ol ly)
  λz=>(cN e n).elim (λw=>(d.inj i k a x o (w.2.1▸z.2) e lx ol).trans w.1) λw=>d.inj i j b x y z.2 w.2 lx ly
 fr b u q n:=have z:=d.fr b u q n
  ⟨f b (λc=>z.2 k o<|c▸e) _ z.1,λj y m=>(cN e m).elim (λw=>z.2 k o<|w.2.1▸e) λw=>z.2 j y w.2⟩
theorem xZ:G.le g<|g++[(a,p)]:=λk b o e=>⟨o,by
 revert k
 induction g with
 |nil=>intro k e;cases e
 |cons x r ih=>intro k e;cases k with
  |zero=>exact e
  |succ k=>exact ih k e⟩
theorem EI{α}{x}: ∀(l:List α),ah (l++[x]) l.length=U x
 |[]=>rfl
 |_::l=>EI l
theorem Hd.new{h':H}(d:Hd hb B g h)(e:h a=Y)(hx:p.at<|h' a)(f: ∀b,b≠a->h' b=h b)(s:p.ok g):Hd hb B (g++[(a,p)]) h' where
 am j b q m:=(rT m).elim (λz=>if c:b=a then SO.Gs λl=>SO.C3 (by rw[<-e,<-c];exact d.am j b q z) l else(f b c).symm▸d.am j b q z) λz=>Bt (P:=λb (q:SO)=>q.at<|h' b) z.2.symm hx
 ok j b q m:=SO.zi xZ ((rT m).elim (λz=>d.ok j b q z) λz=>Bt (P:=λ_ (q:SO)=>q.ok g) z.2.symm s)
 inj i j b x y m n lx ly:=(rT m).elim (λz=>(rT n).elim (λw=>d.inj i j b x y z w lx ly) λw=>absurd lx<|SO.C3<|e▸((c7 w.2).1▸d.am i b x z:x.at<|h a))
  λz=>(rT n).elim (λw=>absurd ly<|SO.C3<|e▸((c7 z.2).1▸d.am j b y w:y.at<|h a)) λw=>z.1.trans w.1.symm
 fr b u q n:=have z:=d.fr b u q n
  have c:=λc=>H.S3 z.1 e c
  ⟨(f b c).trans z.1,λj y m=>(rT m).elim (z.2 j y) λw=>c (c7 w.2).1⟩
end
def d9(g:G)(u:List<|Nat×SO):G:=u.foldl (λg p=>gr g g p.1 λx=>km g g p.1 (x.1,p.2) id) g
section
variable(d:Nat)(hb:H)(B:List ai)(F:SF->SL->G->Prop)
def lR(n f:Nat)(vs:List SV)(g:G)(α:Type)(p:α->Prop)(r:α->SV×List (Nat×SO)):Prop:=
 (∀x,p x->aN g (r x).1)/\ ∀h Q,Hd hb B g h->(∀x h',p x->Hd hb B (d9 g (r x).2) h'->Q (den (r x).1) h')->al I (d+n) f (bd vs) h Q
def wF(n:Nat)(e:E)(ρ:SL)(g:G)(α:Type)(p:α->Prop)(r:α->SV×List (Nat×SO)):Prop:=
 (∀x,p x->aN g (r x).1)/\ ∀h Q,Hd hb B g h->(∀x h',p x->Hd hb B (d9 g (r x).2) h'->Q (den (r x).1) h')->(ao I (al I<|d+n) e<|aq ρ).v h Q
def il(n f:Nat)(vs:List SV)(g:G)(v:SV)(u:List<|Nat×SO):Prop:=
 aN g v/\ ∀h Q,Hd hb B g h->(∀h',Hd hb B (d9 g u) h'->Q (den v) h')->al I (d+n) f (bd vs) h Q
def vW(n:Nat)(e:E)(ρ:SL)(g:G)(v:SV)(u:List<|Nat×SO):Prop:=
 aN g v/\ ∀h Q,Hd hb B g h->(∀h',Hd hb B (d9 g u) h'->Q (den v) h')->(ao I (al I<|d+n) e<|aq ρ).v h Q
noncomputable def wN(f:SF):Fl:=match f with
 |.next=> .next
 |.brk=> .brk
 |.cont=> .cont
 |.ret v=> .ret (den v)
noncomputable def zv(g:G)(f:SF):Prop:=match f with
 |.ret v=>aN g v
 |_=>True
def tf(n:Nat)(s:S)(ρ:SL)(g:G)(α:Type)(p:α->Prop)(r:α->SF×SL×G):Prop:=
 (∀x,p x->zv (r x).2.2 (r x).1/\a8 (r x).2.2 (r x).2.1/\G.le g (r x).2.2)/\ ∀h P,Hd hb B g h->(∀x h',p x->Hd hb B (r x).2.2 h'->P (wN (r x).1) (aq (r x).2.1) h')->ex I (al I<|d+n) s (aq ρ) h P
def av(t:Tr):Prop:=Tr.rec False F (λp _ _ a b=>(p->a)/\(¬p->b)) (λp _ t=>p/\t) (λ_ k=> ∀a,k a) (λT g _ k=> ∃v,(T (den v)/\aN g v)/\k v) (λ_ _ a b=>a\/b)
 (λn f vs g _ k=> ∃(α:Type) (p:α->Prop) (r:α->SV×List (Nat×SO)),lR d hb B n f vs g α p r/\ ∀x,p x->k (r x).1 (d9 g (r x).2))
 (λn e ρ g _ k=> ∃(α:Type) (p:α->Prop) (r:α->SV×List (Nat×SO)),wF d hb B n e ρ g α p r/\ ∀x,p x->k (r x).1 (d9 g (r x).2))
 (λn s ρ g _ k=> ∃(α:Type) (p:α->Prop) (r:α->SF×SL×G),tf d hb B n s ρ g α p r/\ ∀x,p x->k (r x).1 (r x).2.1 (r x).2.2) t
end
section
theorem iF{a b}{X:Prop}(t:av d hb B F<|.ez a b)(x:av d hb B F a->X)(y:av d hb B F b->X):X:=Or.elim t x y
theorem uz{p a}(t:av d hb B F<|.jV p a):p/\av d hb B F a:=t
theorem BF{β:Type}{C:(α:Type)->(α->Prop)->(α->β)->Prop}{h:β->Prop}{X:Prop}(t: ∃(α:Type) (p:α->Prop) (r:α->β),C α p r/\ ∀x,p x->h (r x))(z: ∀α p r,C α p r->(∀x,p x->h (r x))->X):X:=t.elim λα t=>t.elim λp t=>t.elim λr t=>z α p r t.1 t.2
end
noncomputable def Bd.lt(p q:Bd):Bool:=match p,q with
 |.b _ u,.b l _=>decide (u <l)
 |_,_=>ae
noncomputable def Bd.le(p q:Bd):Bool:=match p,q with
 |.b _ u,.b l _=>decide (u<=l)
 |_,_=>ae
noncomputable def Bd.dT(p q:Bd)(f:Int->Int->Int->Int->Bd):Bd:=match p,q with
 |.b l u,.b m v=>f l u m v
 |_,_=> .no
def Bd.add(p q:Bd):Bd:=p.dT q λl u m v=> .b (l+m) (u+v)
def Bd.sub(p q:Bd):Bd:=p.dT q λl u m v=> .b (l -v) (u -m)
def Bd.neg(p:Bd):Bd:=p.dT p λl u _ _=> .b (-u) (-l)
def Bd.mul(p q:Bd):Bd:=p.dT q λl u m v=>if 0<=l/\0<=m then .b (l*m) (u*v) else if l=u/\m=v then .b (l*m) (l*m) else .no
def Bd.nY(p q:Bd):Bd:=p.dT q λl u m v=>if m=v/\0 <m then .b (l/m) (u/m) else .no
def Bd.Qa(q:Bd):Bd:=q.dT q λm v _ _=>if 0 <m then .b 0 (v -1) else .no
noncomputable def Bd.bq(p:Bd):Option Int:=match p with
 |.b l u=>if l=u then U l else Y
 |.no=>Y
noncomputable def Bd.mG(p q:Bd):Bd:=match p.bq,q.bq with
 |U x,U y=> .b (x% y) (x% y)
 |_,_=>q.Qa
def Bd.o6(p q:Bd):Bd:=p.dT q λl u m v=>if l=u/\m=v then .b (l^m.toNat) (l^m.toNat) else .no
def Bd.in(p:Bd)(l u:Int):Bool:=Bd.le (.b l l) p&&p.le (.b u u)
section
variable{p q:Bd}
theorem Bd.sh(a:p.ok i)(b:q.ok j)(e:p.lt q=aa):i <j:=by
 cases p
 ·exact fy e
 cases q
 ·exact fy e
 ·exact g7 a.2 (jB (of_decide_eq_true e) b.1)
theorem Bd.pb(a:p.ok i)(b:q.ok j)(e:p.le q=aa):i<=j:=by
 cases p
 ·exact fy e
 cases q
 ·exact fy e
 ·exact az a.2 (az (of_decide_eq_true e) b.1)
theorem Bd.qA{f}{k}(a:p.ok i)(b:q.ok j)(x: ∀l u m v,l<=i->i<=u->m<=j->j<=v->(f l u m v).ok k):(p.dT q f).ok k:=by
 cases p
 ·exact tI
 cases q
 ·exact tI
 ·exact x _ _ _ _ a.1 a.2 b.1 b.2
theorem Bd.vh{c} [Decidable c] {a b:Bd}(x:c->a.ok i)(y:b.ok i):(if c then a else b).ok i:=if h:c then by rw[aM h];exact x h else by rw[aE h];exact y
theorem Bd.Dq(a:p.ok i)(b:q.ok j):(p.add q).ok<|i+j:=qA a b λ_ _ _ _ a b c d=>⟨fS a c,fS b d⟩
theorem Bd.SN(a:p.ok i)(b:q.ok j):(p.sub q).ok<|i -j:=qA a b λ_ _ _ _ a b c d=>⟨xi a d,xi b c⟩
theorem Bd.UD(a:p.ok i):p.neg.ok (-i):=qA a a λ_ _ _ _ a b _ _=>⟨Gz b,Gz a⟩
theorem Bd.an8(a:p.ok i)(b:q.ok j):(p.mul q).ok<|i*j:=qA a b λ_ _ _ _ a b c d=>
 vh (λz=>⟨GA a c z.2<|az z.1 a,GA b d (az z.2 c)<|az z.1<|az a b⟩)
  (vh (λz=>by rw[qP a<|z.1▸b,qP c<|z.2▸d];exact⟨aU _,aU _⟩) tI)
theorem Bd.IE(a:p.ok i)(b:q.ok j):(p.nY q).ok<|i/j:=qA a b λ_ _ _ _ a b c d=>
 vh (λz=>by rw[<-qP c<|z.1▸d];exact⟨uN z.2 a,uN z.2 b⟩) tI
theorem Bd.NS(b:q.ok j):q.Qa.ok<|i% j:=qA b b λ_ _ _ _ c d _ _=>
 vh (λz=>have z:=jB z c;⟨pr i<|pu z,aQ1<|jB (qQ i z) d⟩) tI
theorem Bd.MR{a}(o:p.ok i)(e:p.bq=U a):i=a:=match p,o,e with
 |.b l u,o,e=>by
  have e:(if l=u then U l else Y)=U a:=e
  by_cases c:l=u
  ·rw[aM c] at e;cases e;exact qP (c▸o.2) o.1
  ·rw[aE c] at e;cases e
theorem Bd.ar0(o:p.ok i)(b:q.ok j):(p.mG q).ok<|i% j:=by
 unfold Bd.mG
 exact match e:p.bq,f:q.bq with
 |U x,U y=>by rw[MR o e,MR b f];exact⟨aU _,aU _⟩
 |Y,_=>NS b
 |U _,Y=>NS b
theorem Bd.HU(a:p.ok i)(b:q.ok j):(p.o6 q).ok<|i^j.toNat:=qA a b λ_ _ _ _ a b c d=>
 vh (λz=>by rw[qP a<|z.1▸b,qP c<|z.2▸d];exact⟨aU _,aU _⟩) tI
theorem Bd.r4{l u}(a:p.ok i)(e:p.in l u=aa):l<=i/\i<=u:=have e:=fT.mp e
 ⟨pb (p:= .b l l) ⟨aU _,aU _⟩ a e.1,pb (q:= .b u u) a ⟨aU _,aU _⟩ e.2⟩
end
noncomputable def v9(y n:Bool)(p:Prop)(a b:Tr):Tr:=match y with
 |aa=>a
 |ae=>match n with
  |aa=>b
  |ae=> .br p a b
noncomputable def nw(y:Bool)(p:Prop)(a:Tr):Tr:=match y with
 |aa=>a
 |ae=> .jV p a
section
theorem jI{y n}{p}{a b}(c:y=aa->p)(hn:n=aa-> ¬p)(k:av d hb B F<|v9 y n p a b):(p->av d hb B F a)/\(¬p->av d hb B F b):=by
 cases y
 ·cases n
  ·exact k
  ·exact⟨λp=>absurd p<|hn rfl,λ_=>k⟩
 ·exact⟨λ_=>k,λn=>absurd (c rfl) n⟩
theorem qe{y}{p}{a}(b:y=aa->p)(k:av d hb B F<|nw y p a):p/\av d hb B F a:=by
 cases y
 ·exact k
 ·exact⟨b rfl,k⟩
end
theorem bf{α:Type}{a:α}{X:Prop}(e:Y=U a):X:=bQ e
noncomputable def l_(v:V):Option<|Int:=if h:v.ctorIdx=2 then V.int.elim v h U else Y
theorem zr{v}{i}:l_ v=U i->v= .int i:=V.casesOn v bf (λ_=>bf) (λ_ e=>aA _<|bM e) (λ_=>bf) (λ_=>bf) (λ_=>bf) (λ_=>bf) (λ_ _ _=>bf) (λ_=>bf) λ_=>bf
noncomputable def Hr(v:V):Option<|Bool:=if h:v.ctorIdx=1 then V.bool.elim v h U else Y
theorem Zr{v}{i}:Hr v=U i->v= .bool i:=V.casesOn v bf (λ_ e=>aA _<|bM e) (λ_=>bf) (λ_=>bf) (λ_=>bf) (λ_=>bf) (λ_=>bf) (λ_ _ _=>bf) (λ_=>bf) λ_=>bf
noncomputable def y_(v:V):Option<|Str:=if h:v.ctorIdx=3 then V.str.elim v h U else Y
theorem Fb{v}{i}:y_ v=U i->v= .str i:=V.casesOn v bf (λ_=>bf) (λ_=>bf) (λ_ e=>aA _<|bM e) (λ_=>bf) (λ_=>bf) (λ_=>bf) (λ_ _ _=>bf) (λ_=>bf) λ_=>bf
noncomputable def wI(v:V):Option<|List Int:=if h:v.ctorIdx=4 then V.a6.elim v h U else Y
theorem yt{v}{i}:wI v=U i->v= .a6 i:=V.casesOn v bf (λ_=>bf) (λ_=>bf) (λ_=>bf) (λ_ e=>aA _<|bM e) (λ_=>bf) (λ_=>bf) (λ_ _ _=>bf) (λ_=>bf) λ_=>bf
noncomputable def ua(v:V):Option<|List V:=if h:v.ctorIdx=5 then V.aj.elim v h U else Y
theorem vR{v}{i}:ua v=U i->v= .aj i:=V.casesOn v bf (λ_=>bf) (λ_=>bf) (λ_=>bf) (λ_=>bf) (λ_ e=>aA _<|bM e) (λ_=>bf) (λ_ _ _=>bf) (λ_=>bf) λ_=>bf
noncomputable def p_(v:V):Option<|List V:=if h:v.ctorIdx=6 then V.fl.elim v h U else Y
theorem uu{v}{i}:p_ v=U i->v= .fl i:=V.casesOn v bf (λ_=>bf) (λ_=>bf) (λ_=>bf) (λ_=>bf) (λ_=>bf) (λ_ e=>aA _<|bM e) (λ_ _ _=>bf) (λ_=>bf) λ_=>bf
noncomputable def oF(v:V):Option<|List<|Int×V:=if h:v.ctorIdx=8 then V.fd.elim v h U else Y
theorem qb{v}{i}:oF v=U i->v= .fd i:=V.casesOn v bf (λ_=>bf) (λ_=>bf) (λ_=>bf) (λ_=>bf) (λ_=>bf) (λ_=>bf) (λ_ _ _=>bf) (λ_ e=>aA _<|bM e) λ_=>bf
noncomputable def wR(v:V):Option<|ai×Nat×List (Nat×V):=if h:v.ctorIdx=7 then V.fz.elim v h λa c f=>U (a,c,f) else Y
theorem vm{v}{i}:wR v=U i->v= .fz i.1 i.2.1 i.2.2:=V.casesOn v bf (λ_=>bf) (λ_=>bf) (λ_=>bf) (λ_=>bf) (λ_=>bf) (λ_=>bf) (λ_ _ _ e=>by cases e;rfl) (λ_=>bf) λ_=>bf
noncomputable def oK{α:Type}(o:Option α)(k:α->Tr):Tr:=match o with
 |U a=>k a
 |Y=> .aR
noncomputable def SV.v(a:SV)(k:V->Tr):Tr:=match a with
 |.op v=>k v
 |_=> .aR
noncomputable def SV.i(a:SV)(k:Int->Bd->Tr):Tr:=match a with
 |.int i p=>k i p
 |.op v=>oK (l_ v) λi=>k i .no
 |_=> .aR
noncomputable def SV.r(a:SV)(k:Nat->ai->Tr):Tr:=match a with
 |.ref i a=>k i a
 |_=> .aR
def SV.bo(a:SV)(k:Bool->Tr):Tr:=a.v λv=>oK (Hr v) k
noncomputable def SV.l(a:SV)(k:List V->Tr):Tr:=match a with
 |.fl l=>k (bd l)
 |.op v=>oK (p_ v) k
 |_=> .aR
noncomputable def SV.t(a:SV)(k:List V->Tr):Tr:=match a with
 |.aj l=>k (bd l)
 |.op v=>oK (ua v) k
 |_=> .aR
section
variable{X:Prop}
theorem ca{α}{o}{k:α->Tr}(h:av d hb B F<|oK o k)(x: ∀a,o=U a->av d hb B F (k a)->X):X:=by
 cases o
 ·exact h.elim
 ·exact x _ rfl h
theorem SV.iX{k}(h:av d hb B F<|a.v k)(x: ∀v,den a=v->av d hb B F (k v)->X):X:=by
 cases a
 ·exact x _ rfl h
 all_goals exact h.elim
theorem SV.fV{k}(h:av d hb B F<|a.i k)(o:aN g a)(x: ∀i p,den a= .int i->p.ok i->av d hb B F (k i p)->X):X:=by
 cases a
 ·exact ca h λi e h=>x i .no (zr e) tI h
 ·exact x _ _ rfl o h
 all_goals exact h.elim
theorem SV.iD{k}(h:av d hb B F<|a.r k)(o:aN g a)(x: ∀i b,den a= .ref b->(∃o,ah g i=U (b,o))->av d hb B F (k i b)->X):X:=by
 cases a
 case ref=>exact x _ _ rfl o h
 all_goals exact h.elim
theorem SV.v_{k}(h:av d hb B F<|a.bo k)(x: ∀b,den a= .bool b->av d hb B F (k b)->X):X:=SV.iX h λ_ e h=>ca h λb f h=>x b (e.trans<|Zr f) h
theorem SV.i9{k}(h:av d hb B F<|a.l k)(x: ∀l,den a= .fl l->av d hb B F (k l)->X):X:=by
 cases a
 ·exact ca h λi e h=>x i (uu e) h
 case fl=>exact x _ rfl h
 all_goals exact h.elim
theorem SV.rZ{k}(h:av d hb B F<|a.t k)(x: ∀l,den a= .aj l->av d hb B F (k l)->X):X:=by
 cases a
 ·exact ca h λi e h=>x i (vR e) h
 case aj=>exact x _ rfl h
 all_goals exact h.elim
theorem kY{α}{l}{i}{k:α->Tr}(h:av d hb B F<|gr .aR l i k)(x: ∀a,ah l i=U a->av d hb B F (k a)->X):X:=by
 rw[yY] at h
 cases e:ah l i <;>rw[e] at h
 ·exact h.elim
 ·exact x _ e h
theorem Qh{α}{l}{i}{k:α->Tr}(h:av d hb B F<|wu .aR l i k)(x: ∀a,bc l i=U a->av d hb B F (k a)->X):X:=by
 rw[SJ] at h
 cases e:bc l i <;>rw[e] at h
 ·exact h.elim
 ·exact x _ e h
theorem tR{α}{l}{i}{v}{k:List α->Tr}(h:av d hb B F<|km .aR l i v k)(x: ∀a,ah l i=U a->av d hb B F (k<|d_ l i v)->X):X:=by
 rw[yr] at h
 cases e:ah l i <;>rw[e] at h
 ·exact h.elim
 ·exact x _ e h
end
noncomputable def SO.in(o:SO)(a:Nat->List (Nat×SV)->Tr)(kl:List V->Tr)(kd:List (Int×V)->Tr):Tr:=match o with
 |.aK c fs=>a c fs
 |.list l=>kl l
 |.ls l=>kl (bd l)
 |.dict es=>kd es
 |_=> .aR
def gb(g:G)(k:Nat)(a:Nat->List (Nat×SV)->Tr)(kl:List V->Tr)(kd:List (Int×V)->Tr):Tr:=gr .aR g k λx=>x.2.in a kl kd
noncomputable def vQ(g:G)(k:Nat)(ks:List SV->Tr)(no:Tr):Tr:=gr .aR g k λx=>match x.2 with
 |.ls l=>ks l
 |_=>no
def bw(g:G)(k:Nat)(a:ai)(o:SO)(K:G->Tr):Tr:=km .aR g k (a,o) K
section
variable{X:Prop}
theorem gD{y}{p}{j}(D:Hd hb B g h)(e: ∃o,ah g k=U (a,o))(t:av d hb B F<|gb g k y p j)
  (i: ∀c fs,ah g k=U (a,.aK c fs)->h a=U (.aK c<|bZ fs)->(∀f v,bc fs f=U v->aN g v)->av d hb B F (y c fs)->X)
  (b: ∀o l,o.lv->ah g k=U (a,o)->h a=U (.list l)->av d hb B F (p l)->X)
  (q: ∀l,ah g k=U (a,.dict l)->h a=U (.dict l)->av d hb B F (j l)->X):X:=
 e.elim λo e=>kY t λx f t=>by
  have f:=bM (e.symm.trans f)
  subst f
  have w:=D.am k a o e
  have u:=D.ok k a o e
  cases o
  ·exact i _ _ e w u t
  ·exact b (.list _) _ tI e w t
  ·exact b (.ls _) _ tI e w t
  ·exact q _ e w t
  all_goals exact t.elim
theorem xI{p}{j}(D:Hd hb B g h)(e: ∃o,ah g k=U (a,o))(t:av d hb B F<|vQ g k p j)(x: ∀l,ah g k=U (a,.ls l)->h a=U (.list<|bd l)->bC g l->av d hb B F (p l)->X)(z:av d hb B F j->X):X:=
 e.elim λo e=>kY t λy f t=>by
  have f:=bM (e.symm.trans f)
  subst f
  have w:=D.am k a o e
  have u:=D.ok k a o e
  cases o
  case ls=>exact x _ e w u t
  all_goals exact z t
theorem tM{o p}{K}{x}(D:Hd hb B g h)(e:ah g k=U (a,o))(t:av d hb B F<|bw g k a p K)(ol:o.lv)(c:p.at<|U x)(f:p.ok g)
  (z: ∀b,G.le g b->Hd hb B b (h.cq a x)->av d hb B F (K b)->X):X:=
 tR t λ_ _ t=>z _ (jd e) (D.NB e ol (by rw[H.kb];exact c) (λ_ n _=>(H.jZ n).trans) f) t
end
noncomputable def SV.cls(a:SV):Nat:=match a with
 |.op v=>v.ctorIdx
 |.int .. =>2
 |.ref .. =>9
 |.aj _=>5
 |.fl _=>6
noncomputable def sw(n m:Nat)(a b:Tr):Tr:=match bE n m with
 |aa=>a
 |ae=>b
noncomputable def yd(o:jY)(i:Int)(p:Bd)(j:Int)(q:Bd)(K:Int->Bd->Tr):Tr:=match o with
 |.add=>K (i+j) (p.add q)
 |.sub=>K (i -j) (p.sub q)
 |.mul=>nw (p.in (-9223372036854775808) 9223372036854775808) (sP i) (K (i*j)<|p.mul q)
 |.nY=>nw (q.in 1 1073741823) (1<=j/\j<=1073741823) (K (i/j)<|p.nY q)
 |.mG=>nw (Bd.lt (.b 0 0) q) (0 <j) (K (i% j)<|p.mG q)
 |.o6=>nw (p.in (-9223372036854775808) 9223372036854775808) (sP i) (nw (q.in 0 100) (0<=j/\j<=100)<|K (i^j.toNat)<|p.o6 q)
 |.xb=>nw (Bd.le (.b 0 0) q) (0<=j) (K (i/2^j.toNat)<|p.nY<|Bd.o6 (.b 2 2) q)
 |.sJ=> .aR
noncomputable def bK(b:Bool)(t:Tr):Tr:=match b with
 |aa=>t
 |ae=> .aR
def lL(n:Nat)(t:Tr):Tr:= .ez (bK (eY n 1000000) t) (.jV (a_ n) t)
def F8(l:List V)(g:G)(K:SV->G->Tr):Tr:=lL l.length (K (.op<|.fl l) g)
def mO(o:SO)(g:G)(K:SV->G->Tr):Tr:= .all λa=>ty g (a,o) 0 λn g=>K (.ref n a) g
noncomputable def Qr(o:jY)(a b:SV)(g:G)(K:SV->G->Tr):Tr:=match o with
 |.add=>sw a.cls 6 (a.l λl=>b.l λm=>F8 (l++m) g K) (sw a.cls 5 (a.t λl=>b.t λm=>lL (l++m).length<|K (.op<|.aj<|l++m) g)
   (sw a.cls 9 (a.r λk _=>gb g k (λ_ _=> .aR) (λl=>b.l λm=>F8 (l++m) g K) λ_=> .aR)<|a.i λi p=>b.i λj q=>yd .add i p j q λi p=>K (.int i p) g))
 |.sJ=>a.l λl=>b.l λm=> .jV (a_ (l++m).length) (mO (.list<|l++m) g K)
 |o=>a.i λi p=>b.i λj q=>yd o i p j q λi p=>K (.int i p) g
noncomputable def xP:List V->(List Int->Tr)->Tr
 |[],k=>k []
 |v::r,k=>oK (l_ v) λi=>xP r λl=>k (i::l)
noncomputable def j8(o:nj)(a b:SV)(g:G)(T F:G->Tr):Tr:=
 let k:=λy n p=>v9 y n p (T g) (F g)
 let itz:=λf=>a.i λi p=>b.i λj q=>f i p j q
 match o with
 |.eq=>sw b.cls 6 (b.l λm=>oK (if m.isEmpty then U () else Y) λ_=>sw a.cls 9 (a.r λx _=>gb g x (λ_ _=> .aR) (λl=>k ae ae<|l=[]) λ_=> .aR)<|a.l λl=>k ae ae<|l=[])
   (sw b.cls 3 (b.v λw=>oK (y_ w) λt=>a.v λv=>oK (y_ v) λs=>k ae ae<|s=t)
   (sw a.cls 0 (b.i λ_ _=>k ae aa False)<|itz λi p j q=>k (p.le q&&q.le p) (p.lt q||q.lt p)<|i=j))
 |.ne=>sw b.cls 6 (b.l λm=>cond m.isEmpty (a.l λl=>k ae ae (¬l=[]))<|a.l λl=> .jV (l=m/\l.all (fR 7)=aa)<|F g)
   (sw b.cls 5 (b.t λm=>a.t λl=> .jV (l=m/\l.all (fR 7)=aa)<|F g)<|sw b.cls 1 (a.bo λx=>b.bo λy=>k (x !=y) (x==y) (¬x=y))<|itz λi p j q=>k (p.lt q||q.lt p) (p.le q&&q.le p) (¬i=j))
 |.lt=>itz λi p j q=>k (p.lt q) (q.le p) (i <j)
 |.le=>itz λi p j q=>k (p.le q) (q.lt p) (i<=j)
 |.gt=>itz λi p j q=>k (q.lt p) (p.le q) (j <i)
 |.ge=>itz λi p j q=>k (q.le p) (p.lt q) (j<=i)
 |.is=>sw b.cls 0 (sw a.cls 0 (k aa ae True)<|k ae aa False) .aR
 |.l6=>sw b.cls 0 (sw a.cls 0 (k ae aa False)<|k aa ae True) (a.v λv=>oK (wR v) λx=>b.v λw=>oK (wR w) λy=>k ae ae (¬x.1=y.1))
 |.pa=>a.i λi _=>sw b.cls 9 (b.r λx _=>gb g x (λ_ _=> .aR) (λ_=> .aR) λes=> .ez (k (bu es i).isSome (!(bu es i).isSome)<|(bu es i).isSome=aa)<|k ae ae<|(bu es i).isSome=aa)
   (sw b.cls 5 (b.t λl=>xP l λm=>k ae ae<|i∈m)<|sw b.cls 6 (b.l λl=>xP l λm=>k ae ae<|i∈m)<|b.v λw=>oK (oF w) λes=> .ez (k (bu es i).isSome (!(bu es i).isSome)<|(bu es i).isSome=aa)<|k ae ae<|(bu es i).isSome=aa)
 |.su=>a.i λi _=>sw b.cls 9 (b.r λx _=>gb g x (λ_ _=> .aR) (λ_=> .aR) λes=> .ez (k (!(bu es i).isSome) (bu es i).isSome (¬(bu es i).isSome=aa))<|k ae ae (¬(bu es i).isSome=aa)) (b.v λw=>oK (oF w) λes=> .ez (k (!(bu es i).isSome) (bu es i).isSome (¬(bu es i).isSome=aa))<|k ae ae (¬(bu es i).isSome=aa))
section
variable{g:G}{X:Prop}{a b:SV}
theorem eB{n m}{x y}(t:av d hb B F<|sw n m x y)(l:bE n m=aa->av d hb B F x->X)(r:av d hb B F y->X):X:=by
 unfold sw at t
 cases e:bE n m <;>rw[e] at t
 ·exact r t
 ·exact l e t
abbrev Kq(d:Nat)(hb:H)(B:List ai)(F:SF->SL->G->Prop)(g:G)(K:SV->G->Tr)(Q:V->H->Prop):Prop:= ∀c h' v,G.le g c->Hd hb B c h'->aN c v->av d hb B F (K v c)->Q (den v) h'
theorem aN3{o}{i j}{p q}{K}{Q}(t:av d hb B F<|yd o i p j q K)(a:p.ok i)(b:q.ok j)(z: ∀k r,r.ok k->av d hb B F (K k r)->Q (.int k) h):g6 h Q o (.int i)<|.int j:=match o,t with
 |.add,t=> .jb (z _ _ (Bd.Dq a b) t)
 |.sub,t=> .wZ (z _ _ (Bd.SN a b) t)
 |.mul,t=>have t:=qe (Bd.r4 a) t; .zR t.1 (z _ _ (Bd.an8 a b) t.2)
 |.nY,t=>have t:=qe (Bd.r4 b) t; .at7 (jB dd t.1.1) (g7 t.1.2 dd) (z _ _ (Bd.IE a b) t.2)
 |.mG,t=>have t:=qe (Bd.sh (p:= .b 0 0) ⟨aU 0,aU 0⟩ b) t; .Hi t.1 (z _ _ (Bd.ar0 a b) t.2)
 |.o6,t=>have t:=qe (Bd.r4 a) t;have s:=qe (Bd.r4 b) t.2; .ae0 t.1 s.1.1 s.1.2 (z _ _ (Bd.HU a b) s.2)
 |.xb,t=>have t:=qe (Bd.pb (p:= .b 0 0) ⟨aU 0,aU 0⟩ b) t; .Wz t.1 (z _ _ (Bd.IE a<|Bd.HU (p:= .b 2 2) ⟨dd,dd⟩ b) t.2)
 |.sJ,t=>t.elim
theorem PH{x}{k:Nat->G->Tr}(t:av d hb B F<|ty g x 0 k):av d hb B F<|k g.length<|g++[x]:=by
 rw[Lh,gK] at t;exact t
theorem MX{o}{K}{x}{c}(t:av d hb B F<|mO o g K)(D:Hd hb B g h)(e:h c=Y)(l:o.at<|U x)(ok:o.ok g)
  (z: ∀f v,G.le g f->Hd hb B f (h.cq c x)->aN f v->den v= .ref c->av d hb B F (K v f)->X):X:=
 z (g++[(c,o)]) (.ref g.length c) xZ (D.new e (by rw[H.kb];exact l) (λ_ n=>H.jZ n) ok) ⟨o,EI g⟩ rfl (PH<|t c)
theorem hR{c}{t}(h:av d hb B F<|bK c t):c=aa/\av d hb B F t:=by
 cases c
 ·exact h.elim
 ·exact⟨rfl,h⟩
theorem fi{n}{t}(h:av d hb B F<|lL n t):a_ n/\av d hb B F t:=iF h (λh=>have h:=hR h;⟨d5 h.1,h.2⟩) id
theorem UI{o}{K}{Q}(D:Hd hb B g h)(f:aN g a)(ob:aN g b)(t:av d hb B F<|Qr o a b g K)(z:Kq d hb B F g K Q):g6 h Q o (den a)<|den b:=by
 have itz: ∀o,av d hb B F (a.i λi p=>b.i λj q=>yd o i p j q λi p=>K (.int i p) g)->g6 h Q o (den a) (den b):=λo t=>
  SV.fV t f λi p ea u t=>SV.fV t ob λj q eb s t=>by rw[ea,eb];exact aN3 t u s λk r ok t=>z g h (.int k r) (G.le_refl g) D ok t
 cases o
 case add=>
  exact eB t (λ_ t=>SV.i9 t λl ea t=>SV.i9 t λm eb t=>by have t:=fi t;rw[ea,eb];exact .xa t.1<|z g h (.op<|.fl<|l++m) (G.le_refl g) D tI t.2) λt=>
   eB t (λ_ t=>SV.rZ t λl ea t=>SV.rZ t λm eb t=>by have t:=fi t;rw[ea,eb];exact .PU t.1<|z g h (.op<|.aj<|l++m) (G.le_refl g) D tI t.2) λt=>
   eB t (λ_ t=>SV.iD t f λk c ea oc t=>gD D oc t (λ_ _ _ _ _ t=>t.elim) (λ_ l _ _ hl t=>SV.i9 t λm eb t=>by have t:=fi t;rw[ea,eb];exact .aM2 hl t.1<|z g h (.op<|.fl<|l++m) (G.le_refl g) D tI t.2) λ_ _ _ t=>t.elim) (itz _)
 case sJ=>
  have t:av d hb B F<|a.l λl=>b.l λm=> .jV (a_ (l++m).length)<|mO (.list<|l++m) g K:=t
  exact SV.i9 t λl ea t=>SV.i9 t λm eb t=>by have t:=uz t;rw[ea,eb];exact .Tv t.1 λx e=>MX t.2 D e rfl tI λw v l D o e t=>e▸z _ _ v l D o t
 all_goals exact itz _ t
theorem FN: ∀{l:List V} {k:List Int->Tr},av d hb B F (xP l k)-> ∃m,l=vi m/\av d hb B F (k m)
 |[],_,t=>⟨[],rfl,t⟩
 |v::r,k,t=>ca t λi e t=>(FN t).elim λm w=>⟨i::m,by rw[zr e,w.1];rfl,w.2⟩
end
section
variable{X:Prop}
theorem oh:bE a.cls 0=aa->den a= .none:=SV.casesOn a
 (λv=>V.casesOn v (λ_=>rfl) (λ_ e=>nomatch e) (λ_ e=>nomatch e) (λ_ e=>nomatch e) (λ_ e=>nomatch e) (λ_ e=>nomatch e) (λ_ e=>nomatch e) (λ_ _ _ e=>nomatch e) (λ_ e=>nomatch e) λ_ e=>nomatch e)
 (λ_ _ e=>nomatch e) (λ_ _ e=>nomatch e) (λ_ e=>nomatch e) λ_ e=>nomatch e
theorem tY:bE a.cls 0=ae->sK (den a)=ae:=SV.casesOn a
 (λv=>V.casesOn v (λe=>nomatch e) (λ_ _=>rfl) (λ_ _=>rfl) (λ_ _=>rfl) (λ_ _=>rfl) (λ_ _=>rfl) (λ_ _=>rfl) (λ_ _ _ _=>rfl) (λ_ _=>rfl) λ_ _=>rfl)
 (λ_ _ _=>rfl) (λ_ _ _=>rfl) (λ_ _=>rfl) λ_ _=>rfl
theorem fN(t:av d hb B F<|sw n m x y)(l:bE n m=aa->av d hb B F x->X)(r:bE n m=ae->av d hb B F y->X):X:=by
 unfold sw at t
 cases e:bE n m <;>rw[e] at t
 ·exact r e t
 ·exact l e t
theorem Ak{b}(e:(!b)=aa): ¬b=aa:=λf=>by rw[f] at e;cases e
theorem rY{p:Prop}(e:ae=aa):p:=nomatch e
theorem emp{α:Type}{m:List α}(t:av d hb B F<|oK (if m.isEmpty then U () else Y) k)(x:m=[]->av d hb B F (k ())->X):X:=by
 cases m
 ·exact x rfl t
 ·exact t.elim
theorem tA{T E}{J:Prop->Prop}(D:Hd hb B g h)(N:aN g a)(ob:aN g b)(t:av d hb B F<|j8 o a b g T E)(z: ∀p,(p->av d hb B F (T g))/\(¬p->av d hb B F (E g))->J p):cB h J o (den a)<|den b:=by
 have itz: ∀{f:Int->Bd->Int->Bd->Tr} {X:Prop},av d hb B F (a.i λi p=>b.i λj q=>f i p j q)->(∀i p j q,den a= .int i->den b= .int j->p.ok i->q.ok j->av d hb B F (f i p j q)->X)->X:=λt x=>
  SV.fV t N λi p ea u t=>SV.fV t ob λj q eb A t=>x i p j q ea eb u A t
 have J0: ∀{p:Prop},av d hb B F (v9 ae ae p (T g)<|E g)->J p:=λt=>z _ (jI rY rY t)
 have JT:av d hb B F (v9 aa ae True (T g)<|E g)->J True:=λt=>z _ (jI (λ_=>tI) rY t)
 have JF:av d hb B F (v9 ae aa False (T g)<|E g)->J False:=λt=>z _ (jI rY (λ_=>id) t)
 have eqy: ∀{i j:Int} {p q:Bd},p.ok i->q.ok j->(p.le q&&q.le p)=aa->i=j:=λa b e=>have e:=fT.mp e;qP (Bd.pb a b e.1) (Bd.pb b a e.2)
 have eqn: ∀{i j:Int} {p q:Bd},p.ok i->q.ok j->(p.lt q||q.lt p)=aa-> ¬i=j:=λa b e=>(xj.mp e).elim (λe=>aQ2<|Bd.sh a b e) λe=>pu (Bd.sh b a e)
 cases o
 case eq=>
  exact fN t (λ_ t=>SV.i9 t λm eb t=>emp t λem t=>by
    rw[eb,em]
    exact fN t (λ_ t=>SV.iD t N λx c ea oc t=>gD D oc t (λ_ _ _ _ _ t=>t.elim) (λ_ l _ _ hl t=>by rw[ea];exact .XY hl<|J0 t) λ_ _ _ t=>t.elim) λ_ t=>SV.i9 t λl ea t=>by rw[ea];exact .aM4<|J0 t) λ_ t=>
   fN t (λ_ t=>SV.iX t λw eb t=>ca t λW es t=>SV.iX t λv ea t=>ca t λs Q t=>by rw[ea,eb,Fb es,Fb Q];exact .ZH<|J0 t) λ_ t=>
   fN t (λc t=>SV.fV t ob λi p eb _ t=>by rw[oh c,eb];exact .Z4<|JF t) λ_ t=>itz t λi p j q ea eb u A t=>by rw[ea,eb];exact .Mr (z _<|jI (eqy u A) (eqn u A) t)
 case ne=>
  have nd: ∀{l m:List V},av d hb B F (.jV (l=m/\l.all (fR 7)=aa)<|E g)->(l=m/\m.all (fR 7)=aa)/\J False:=λt=>
   have t:=uz t
   ⟨⟨t.1.1,t.1.1▸t.1.2⟩,z _ ⟨AN,λ_=>t.2⟩⟩
  exact fN t (λ_ t=>SV.i9 t λm eb t=>by
    rw[eb]
    cases m with
    |nil=>exact SV.i9 t λl ea t=>by rw[ea];exact .T2 (J0 t)
    |cons x m=>exact SV.i9 (k:=λl=> .jV (l=x::m/\l.all (fR 7)=aa)<|E g) t λl ea t=>by rw[ea,(nd t).1.1];exact .Ht (nd t).1.2 (nd t).2) λ_ t=>
   fN t (λ_ t=>SV.rZ t λm eb t=>SV.rZ t λl ea t=>by rw[ea,eb,(nd t).1.1];exact .MD (nd t).1.2 (nd t).2) λ_ t=>
   fN t (λ_ t=>SV.v_ t λx ea t=>SV.v_ t λy eb t=>by
    rw[ea,eb]
    exact .LV<|z _<|jI (λe=>bne_iff_ne.mp e) (λe n=>n<|eq_of_beq e) t) λ_ t=>
   itz t λi p j q ea eb u A t=>by rw[ea,eb];exact .Am (z _<|jI (eqn u A) (λe n=>n<|eqy u A e) t)
 case lt=>exact itz t λi p j q ea eb u A t=>by rw[ea,eb];exact .OB (z _<|jI (Bd.sh u A) (λe=>fF.mpr<|Bd.pb A u e) t)
 case le=>exact itz t λi p j q ea eb u A t=>by rw[ea,eb];exact .D3 (z _<|jI (Bd.pb u A) (λe=>n3.mpr<|Bd.sh A u e) t)
 case gt=>exact itz t λi p j q ea eb u A t=>by rw[ea,eb];exact .qE (z _<|jI (Bd.sh A u) (λe=>fF.mpr<|Bd.pb u A e) t)
 case ge=>exact itz t λi p j q ea eb u A t=>by rw[ea,eb];exact .T0 (z _<|jI (Bd.pb A u) (λe=>n3.mpr<|Bd.sh u A e) t)
 case «is»=>exact fN t (λc t=>by rw[oh c];exact fN t (λc t=>by rw[oh c];exact .Tu<|JT t) λc t=> .aM0 (tY c)<|JF t) λ_ t=>t.elim
 case l6=>
  exact fN t (λc t=>by rw[oh c];exact fN t (λc t=>by rw[oh c];exact .LA<|JF t) λc t=> .J_ (tY c)<|JT t) λ_ t=>
   SV.iX t λv ea t=>ca t λx ex t=>SV.iX t λw eb t=>ca t λy K t=>by rw[ea,eb,vm ex,vm K];exact .ab2 (J0 t)
 case pa=>
  exact SV.fV t N λi p ea u t=>by
   rw[ea]
   exact fN t (λ_ t=>SV.iD t ob λx c eb oc t=>gD D oc t (λ_ _ _ _ _ t=>t.elim) (λ_ _ _ _ _ t=>t.elim) λl _ hl t=>by rw[eb];exact .U_ hl<|iF t (λt=>z _<|jI id Ak t) J0) λ_ t=>
    fN t (λ_ t=>SV.rZ t λl eb t=>(FN t).elim λm w=>by rw[eb,w.1];exact .aC0<|J0 w.2) λ_ t=>
    fN t (λ_ t=>SV.i9 t λl eb t=>(FN t).elim λm w=>by rw[eb,w.1];exact .LB<|J0 w.2) λ_ t=>
    SV.iX t λw eb t=>ca t λy K t=>by rw[eb,qb K];exact .aA1 (iF t (λt=>z _<|jI id Ak t) J0)
 case su=>
  exact SV.fV t N λi p ea u t=>by
   rw[ea]
   exact fN t (λ_ t=>SV.iD t ob λx c eb oc t=>gD D oc t (λ_ _ _ _ _ t=>t.elim) (λ_ _ _ _ _ t=>t.elim) λl _ hl t=>by rw[eb];exact .YR hl<|iF t (λt=>z _<|jI Ak (λe n=>n e) t) J0) λ_ t=>
    SV.iX t λw eb t=>ca t λy K t=>by rw[eb,qb K];exact .ab5 (iF t (λt=>z _<|jI Ak (λe n=>n e) t) J0)
end
noncomputable def dx(v:V):SV:=match l_ v with
 |U i=> .int i .no
 |Y=> .op v
def fj(v:V):SV:=match l_ v with
 |U i=> .int i (.b i i)
 |Y=> .op v
noncomputable def r8(a:SV)(g:G)(T F:G->Tr):Tr:=a.bo λb=>match b with
 |aa=>T g
 |ae=>F g
noncomputable def E9(a:SV)(f:Nat)(g:G)(K:SV->G->Tr):Tr:=sw a.cls 9 (a.r λk _=>gb g k (λ_ fs=>wu .aR fs f λv=>K v g) (λ_=> .aR) λ_=> .aR)
 (a.v λv=>oK (wR v) λx=>match bc x.2.2 f with
  |U v=>K (dx v) g
  |Y=>oK (I.vE x.2.1 f) λv=>K (fj v) g)
def FW(a:SV)(f:Nat)(w:SV)(g:G)(K:G->Tr):Tr:=a.r λk x=>gb g k (λc fs=>bK (I.nP c f&&eY fs.length 100)<|zp fs f w λfs=>bw g k x (.aK c fs) K) (λ_=> .aR) λ_=> .aR
noncomputable def Bd.lit(p:Bd):Option Nat:=match p with
 |.b (.ofNat n) (.ofNat m)=>match bE n m&&eY n 1000 with|aa=>U n|ae=>Y
 |_=>Y
noncomputable def p6(T:V->Prop)(g:G)(K:SV->G->Tr):Tr:= .QJ T g λw=>K w g
noncomputable def uC(l:List V)(i:Int)(p:Bd)(g:G)(K:SV->G->Tr):Tr:=match p.lit with
 |U n=>gr .aR l n λv=> .ez (K (fj v) g) (K (dx v) g)
 |Y=>nw (p.in 0 4611686018427387904) (0<=i/\i<=4611686018427387904) (p6 (λv=>ah l i.toNat=U v) g K)
def Gm(l:List<|Int×V)(i:Int)(g:G)(K:SV->G->Tr):Tr:= .ez (oK (bu l i) λv=>K (dx v) g) (p6 (λv=>bu l i=U v) g K)
noncomputable def tE{α:Type}:List α->(α->Tr)->Tr
 |[],_=> .aR
 |[x],k=>k x
 |_::y::r,k=>tE (y::r) k
noncomputable def Bd.m1(p:Bd):Bool:=match p with
 |.b (.negSucc n) (.negSucc m)=>bE n 0&&bE m 0
 |_=>ae
noncomputable def ML(a:SV)(g:G)(K:SV->G->Tr):Tr:=match a with
 |.fl l=>tE l λv=>K v g
 |.op v=>oK (p_ v) λl=>tE l λv=>K (dx v) g
 |.ref k _=>vQ g k (λl=>tE l λv=>K v g) (gb g k (λ_ _=> .aR) (λl=> .ez (tE l λv=>K (dx v) g)<|p6 (λv=> ∃m,l=m++[v]) g K) λ_=> .aR)
 |_=> .aR
def BI(l:List SV)(i:Int)(p:Bd)(g:G)(K:SV->G->Tr):Tr:=match p.lit with
 |U n=>gr .aR l n λv=>K v g
 |Y=>uC (bd l) i p g K
noncomputable def DV(a b:SV)(g:G)(K:SV->G->Tr):Tr:=b.i λi p=>match p.m1 with
 |aa=>ML a g K
 |ae=>match a with
 |.aj l=>BI l i p g K
 |.fl l=>oK p.lit λn=>gr .aR l n λv=>K v g
 |.op v=>sw v.ctorIdx 5 (oK (ua v) λl=>uC l i p g K) (sw v.ctorIdx 6 (oK (p_ v) λl=>uC l i p g K)
   (sw v.ctorIdx 4 (oK (wI v) λl=>match p.lit with|U n=>gr .aR l n λi=>K (.int i .no) g|Y=>nw (p.in 0 4611686018427387904) (0<=i/\i<=4611686018427387904)<|p6 (λv=>ah (vi l) i.toNat=U v) g K)<|oK (oF v) λl=>Gm l i g K))
 |.ref k _=>vQ g k (λl=>oK p.lit λn=>gr .aR l n λv=>K v g) (gb g k (λ_ _=> .aR) (λl=>uC l i p g K) λl=>Gm l i g K)
 |_=> .aR
def Dr(a b w:SV)(g:G)(K:G->Tr):Tr:=a.r λk x=>b.i λi p=>vQ g k (λl=>oK p.lit λn=>bK (eY l.length 1000000)<|km .aR l n w λm=>bw g k x (.ls m) K) (gb g k (λ_ _=> .aR) (λl=>match p.lit with
  |U n=>gr .aR l n λ_=>bK (eY l.length 1000000) (bw g k x (.list<|d_ l i.toNat<|den w) K)
  |Y=> .jV ((0<=i/\i <l.length)/\a_ l.length)<|bw g k x (.list<|d_ l i.toNat<|den w) K)
 λl=> .ez (bK (eY l.length 1000000)<|bw g k x (.dict<|eX l i<|den w) K)<|.jV (a_ l.length)<|bw g k x (.dict<|eX l i<|den w) K)
def sH(k:Nat)(x:ai)(g:G)(K:SV->G->Tr):Tr:=gb g k (λc fs=>bw g k x .fW λg=>K (.op<|.fz x c<|bZ fs) g) (λl=>bw g k x .fW λg=>K (.op<|.fl l) g) λl=>bw g k x .fW λg=>K (.op<|.fd l) g
noncomputable def yz:List SV->G->(List SV->G->Tr)->Tr
 |[],g,K=>K [] g
 |v::r,g,K=>sw v.cls 9 (v.r λk x=>sH k x g λw g=>yz r g λl g=>K (w::l) g) (yz r g λl g=>K (v::l) g)
noncomputable def Hl(a:SV)(g:G)(K:SV->G->Tr):Tr:=match a with
 |.ref k x=>sH k x g K
 |.aj l=>yz l g λl g=>K (.aj l) g
 |_=> .aR
def Hs(a:SV)(g:G)(K:SV->G->Tr):Tr:=a.i λi p=>K (.int (-i) p.neg) g
def Bd.abs(p:Bd):Bd:=p.dT p λl u _ _=> .b 0 (if -l<=u then u else -l)
def qG(n:Nat)(g:G)(K:SV->G->Tr):Tr:= .ez (bK (eY n 1000000)<|K (.int n<|.b n n) g) <|.jV (a_ n) (K (.int n<|.b 0 1000000) g)
def Lz(a:SV)(g:G)(K:SV->G->Tr):Tr:=sw a.cls 9 (a.r λk _=>gb g k (λ_ _=> .aR) (λl=>qG l.length g K) λl=>qG l.length g K)
 (sw a.cls 6 (a.l λl=>qG l.length g K)<|sw a.cls 5 (a.t λl=>qG l.length g K)<|sw a.cls 4 (a.v λv=>oK (wI v) λl=>qG l.length g K)<|sw a.cls 3 (a.v λv=>oK (y_ v) λl=>qG l.length g K)<|a.v λv=>oK (oF v) λl=>qG l.length g K)
noncomputable def Lq(t:Ty)(a:SV)(g:G)(K:SV->G->Tr):Tr:=match t with
 |.int=>sw a.cls 2 (K (.op<|.bool aa) g) .aR
 |.bool=>sw a.cls 2 (K (.op<|.bool ae) g) .aR
 |.tuple=>sw a.cls 5 (K (.op<|.bool aa) g) .aR
 |.str=>sw a.cls 3 (K (.op<|.bool aa) g) .aR
 |.bytes=>sw a.cls 4 (K (.op<|.bool aa) g) .aR
def DF(l:List V)(g:G)(K:SV->G->Tr):Tr:=lL l.length (K (.op<|.aj l) g)
noncomputable def Pz(b:Bi)(a:SV)(r:List SV)(g:G)(K:SV->G->Tr)(no:Tr):Tr:=match r with
 |[]=>match b with
  |.gc t=>Lq t a g K
  |.len=>Lz a g K
  |.abs=>a.i λi p=>K (.int i.natAbs p.abs) g
  |.tuple=>sw a.cls 5 (a.t λl=>DF l g K) (sw a.cls 6 (a.l λl=>DF l g K)<|sw a.cls 9 (a.r λk _=>gb g k (λ_ _=> .aR) (λl=>DF l g K) λ_=> .aR)<|a.v λv=>oK (wI v) λl=>lL l.length<|K (.op<|.aj<|vi l) g)
  |.list aa=>a.l λl=>F8 l g K
  |.list ae=>a.r λk _=>gb g k (λ_ _=> .aR) (λl=>lL l.length<|mO (.list l) g K) λ_=> .aR
  |.dict aa=>a.v λv=>oK (oF v) λl=>lL l.length (K (.op<|.fd l) g)
  |.dict ae=>a.r λk _=>gb g k (λ_ _=> .aR) (λ_=> .aR) λl=>lL l.length (mO (.dict l) g K)
  |_=>no
 |[c]=>match b with
  |.max=>a.i λi _=>c.i λj _=>K (.int (dL i [j]) .no) g
  |_=>no
 |_=>no
noncomputable def L3(k:Nat)(x:ai)(m:Nat)(vs:List SV)(g:G)(K:SV->G->Tr):Tr:=gb g k (λ_ _=> .aR) (λl=>match vs with
 |[v]=>sw m 0 (lL (l.length+1)<|bw g k x (.list<|l++[den v]) λg=>K (.op .none) g)
   (sw m 2 (sw v.cls 6 (v.l λe=>lL (l++e).length<|bw g k x (.list<|l++e) λg=>K (.op .none) g)<|v.r λj _=>bK (!bE j k)<|gb g j (λ_ _=> .aR) (λe=>lL (l++e).length<|bw g k x (.list<|l++e) λg=>K (.op .none) g) λ_=> .aR) .aR)
 |_=> .aR) λ_=> .aR
noncomputable def F9(es:List<|Int×V)(vs:List SV)(g:G)(K:SV->G->Tr):Tr:=match vs with
 |[v]=>v.i λi _=> .ez (K (dx<|(bu es i).getD .none) g) (p6 (λw=>(bu es i).getD .none=w) g K)
 |[v,u]=>v.i λi _=> .ez (K (dx<|(bu es i).getD<|den u) g) (p6 (λw=>(bu es i).getD (den u)=w) g K)
 |_=> .aR
abbrev qF:=Nat->List SV->G->(SV->G->Tr)->Tr
noncomputable def BR{α:Type}(o:Option α)(t:Tr):Tr:=match o with
 |Y=>t
 |U _=> .aR
def En(C:qF)(m:Nat)(a:SV)(es:G->(List SV->G->Tr)->Tr)(g:G)(K:SV->G->Tr):Tr:=
 sw a.cls 9 (a.r λk x=>gb g k (λc fs=>BR (bc fs<|I.mf m)<|oK (I.ms c m) λf=>es g λvs g=>C f (a::vs) g K)
   (λ_=>bK (eY m 2)<|es g λvs g=>L3 k x m vs g K) λ_=>sw m 3 (es g λvs g=>gb g k (λ_ _=> .aR) (λ_=> .aR) λl=>F9 l vs g K) .aR)
  (sw a.cls 7 (a.v λv=>oK (wR v) λx=>BR (bc x.2.2<|I.mf m)<|oK (I.ms x.2.1 m) λf=>es g λvs g=>C f (a::vs) g K)
   (a.v λv=>oK (oF v) λl=>sw m 3 (es g λvs g=>F9 l vs g K) .aR))
structure R where
 v:(SV->G->Tr)->Tr
 t:(G->Tr)->(G->Tr)->Tr
 i:(List SV->G->Tr)->Tr
noncomputable def te(e:Int×V):SV:= .int e.1 (.b e.1 e.1)
def Ea(a:SV)(g:G)(K:List SV->G->Tr):Tr:=a.v λv=>oK (oF v) λl=>bK (eY l.length 1000000) (K (l.map λe=> .aj [te e,dx e.2]) g)
noncomputable def SV.Di(a:SV)(k:List SV->Tr):Tr:=match a with
 |.fl l=>k l
 |.op v=>oK (p_ v) λl=>k (l.map dx)
 |_=> .aR
noncomputable def vG(n:Int)(p:Bd):List SV->List SV
 |[]=>[]
 |v::r=> .aj [.int n p,v]::vG (n+1) (p.add<|.b 1 1) r
def KI(l:List SV)(g:G)(K:List SV->G->Tr):Tr:=match l with
 |[a]=>a.Di λxs=>K (vG 0 (.b 0 0) xs) g
 |[a,c]=>a.Di λxs=>c.i λi p=>bK (p.in (-1099511627776) 1099511627776) (K (vG i p xs) g)
 |_=> .aR
noncomputable def KH(a:SV)(g:G)(K:List SV->G->Tr):Tr:=match a with
 |.aj l=>K l g
 |.fl l=>K l g
 |.op v=>sw v.ctorIdx 5 (oK (ua v) λl=> .ez (K (l.map fj) g)<|K (l.map dx) g) (sw v.ctorIdx 6 (oK (p_ v) λl=> .ez (K (l.map fj) g)<|K (l.map dx) g)<|oK (oF v) λl=>bK (eY l.length 1000000)<|K (l.map te) g)
 |_=> .aR
def dP(v:(SV->G->Tr)->Tr):R:=⟨v,λT F=>v λa g=>r8 a g T F,λK=>v λa g=>KH a g K⟩
noncomputable def z8(a:Int):Nat->List SV
 |0=>[]
 |n+1=> .int a (.b a a)::z8 (a+1) n
def MV(l:List SV)(g:G)(K:List SV->G->Tr):Tr:=match l with
 |[a]=>a.i λi p=>oK p.lit λn=>K (z8 0 n) g
 |_=> .aR
noncomputable def dT(es:Es):Bool:=match es with
 |.cons _ (.cons _ .nil)=>aa
 |_=>ae
noncomputable def MC(b:Bi)(es:Es):Bool:=match b with
 |.min|.sum|.o5|.bytes|.sorted=>aa
 |.max=> !dT es
 |_=>ae
noncomputable def B8(b:Bi)(l:List SV)(g:G)(K:SV->G->Tr):Tr:=match l with
 |a::r=>Pz b a r g K .aR
 |[]=> .aR
noncomputable def B4(b:Bi)(l:List SV)(g:G)(K:List SV->G->Tr):Tr:=match b with
 |.range=>MV l g K
 |.kE=>KI l g K
 |_=> .aR
def rL(fr:Bool)(v:SV)(o:SO)(g:G)(K:SV->G->Tr):Tr:=cond fr (K v g) (mO o g K)
noncomputable def zy(l:List SV)(t:Tr):Tr:=match l with
 |[]=>t
 |_=> .aR
noncomputable def JO(a l u:SV)(g:G)(K:SV->G->Tr):Tr:=match a with
 |.op v=>sw l.cls 0 (oK (ua v) λxs=>u.i λ_ q=>oK q.lit λm=>bK (eY (m+1) xs.length&&eY xs.length 1000000)<|K (.op<|.aj<|xs.take m) g) .aR
 |.fl xs=>bK (eY xs.length 1000000) (sw l.cls 0 (u.i λ_ q=>oK q.lit λm=>K (.fl<|cu xs 0<|min m xs.length) g)<|l.i λ_ p=>oK p.lit λn=>sw u.cls 0 (K (.fl<|cu xs (min n xs.length) xs.length) g)<|u.i λ_ q=>oK q.lit λm=>K (.fl<|cu xs (min n xs.length)<|min m xs.length) g)
 |_=> .aR
noncomputable def z6(ρ:SL):List Nat->(SL->Tr)->Tr
 |[],K=>K []
 |i::r,K=>gr .aR ρ i λx=>oK x λv=>z6 ρ r λl=>K (U v::l)
abbrev TE:=SL->G->R
abbrev Fg:=SL->G->(List SV->G->Tr)->Tr
def B_(c e:TE)(a:SL)(l:List SV):G->(List SV->G->Tr)->Tr:=QW (λg K=>K [] g)
 (λv _ ih g K=>(c (U v::a) g).t (λg=>(e (U v::a) g).v λw g=>ih g λws g=>K (w::ws) g) λg=>ih g K) l
def rE(C:qF)(n:Nat)(e:E):TE:=E.rec (motive_2:=λ_=>Fg)
 (λv _ g=>dP λK=>K (fj v) g)
 (λi ρ g=>dP λK=>gr .aR ρ i λo=>oK o λv=>K v g)
 (λk _ g=>dP λK=>oK (I.gw k) λv=>K (fj v) g)
 (λo _ _ a b ρ g=>dP λK=>(a ρ g).v λh g=>(b ρ g).v λj g=>Qr o h j g K)
 (λ_ a ρ g=>dP λK=>(a ρ g).v λh g=>Hs h g K)
 (λ_ a ρ g=>⟨λK=>(a ρ g).v λv g=>v.bo λb=>K (.op<|.bool (!b)) g,λT F=>(a ρ g).t F T,λ_=> .aR⟩)
 (λ_ _ a b ρ g=>⟨λK=>(a ρ g).v λv g=>r8 v g (λg=>(b ρ g).v K) λg=>K (.op<|.bool ae) g,λT F=>(a ρ g).t (λg=>(b ρ g).t T F) F,λ_=> .aR⟩)
 (λ_ _ a b ρ g=>⟨λK=>(a ρ g).v λv g=>r8 v g (λg=>K (.op<|.bool aa) g) λg=>(b ρ g).v K,λT F=>(a ρ g).t T λg=>(b ρ g).t T F,λ_=> .aR⟩)
 (λo _ _ a b ρ g=>⟨λK=>(a ρ g).v λh g=>(b ρ g).v λj g=>j8 o h j g (λg=>K (.op<|.bool aa) g) λg=>K (.op<|.bool ae) g,λT F=>(a ρ g).v λh g=>(b ρ g).v λj g=>j8 o h j g T F,λ_=> .aR⟩)
 (λo p _ _ _ a b c ρ g=>⟨λK=>(a ρ g).v λh g=>(b ρ g).v λj g=>j8 o h j g (λg=>(c ρ g).v λs g=>j8 p j s g (λg=>K (.op<|.bool aa) g) λg=>K (.op<|.bool ae) g) λg=>K (.op<|.bool ae) g,
  λT F=>(a ρ g).v λh g=>(b ρ g).v λj g=>j8 o h j g (λg=>(c ρ g).v λs g=>j8 p j s g T F) F,λ_=> .aR⟩)
 (λ_ _ _ t a b ρ g=>dP λK=>(t ρ g).t (λg=>(a ρ g).v K) λg=>(b ρ g).v K)
 (λ_ es ρ g=>dP λK=>es ρ g λl g=>K (.aj l) g)
 (λfr _ es ρ g=>dP λK=>es ρ g λl g=>rL fr (.fl l) (.list<|bd l) g K)
 (λfr _ _ ks vs ρ g=>dP λK=>ks ρ g λl g=>zy l<|vs ρ g λm g=>zy m<|rL fr (.op<|.fd []) (.dict []) g K)
 (λ_ f a ρ g=>dP λK=>(a ρ g).v λv g=>E9 v f g K)
 (λ_ _ a i ρ g=>dP λK=>(a ρ g).v λv g=>(i ρ g).v λi g=>DV v i g K)
 (λa l u z w N ρ g=>dP λK=> .ez ((z ρ g).v λh g=>(w ρ g).v λD g=>(N ρ g).v λW g=>JO h D W g K)<|.ex n (.sl a l u) ρ g K)
 (λa _ ρ g=>dP λK=> .ex n (.iK a) ρ g K)
 (λf _ es ρ g=>dP λK=>es ρ g λl g=>C f l g K)
 (λk _ es ρ g=>dP λK=>es ρ g λl g=>oK (I.lu k) λf=> .all λa=>ty g (a,.aK k []) 0 λn g=>C f (.ref n a::l) g λv g=>sw v.cls 0 (K (.ref n a) g) .aR)
 (λe m es a q ρ g=>let r:=dP λK=>sw m 1 (.ex n (.me e m es) ρ g K) ((a ρ g).v λv g=>En C m v (q ρ) g K);⟨r.v,r.t,λK=>bK (bE m 4)<|(a ρ g).v λv g=>Ea v g K⟩)
 (λb es q ρ g=>let r:=dP λK=>cond (MC b es) (.ex n (.bi b es) ρ g K) (q ρ g λl g=>B8 b l g K)
  ⟨r.v,r.t,λK=>q ρ g λl g=>B4 b l g K⟩)
 (λfr cs Q c t A X Z ρ g=>dP λK=> .ez ((A ρ g).i λl g=>bK (eY l.length 1000000)<|z6 ρ cs λy=>B_ X Z y l g λws g=>rL fr (.fl ws) (.list<|bd ws) g K)<|.ex n (.comp aa cs Q c t) ρ g λv g=>cond fr (K v g)<|v.l λl=>mO (.list l) g K)
 (λ_ a ρ g=>dP λK=>(a ρ g).v λv g=>Hl v g K)
 (λ_ g K=>K [] g)
 (λ_ _ a r ρ g K=>(a ρ g).v λv g=>r ρ g λl g=>K (v::l) g)
 e
section
variable{d:Nat}{hb:H}{B:List ai}{F:SF->SL->G->Prop}{g:G}{X:Prop}{a b:SV}{h:H}{Q:V->H->Prop}{K:SV->G->Tr}
abbrev Kh(d:Nat)(hb:H)(B:List ai)(F:SF->SL->G->Prop)(g:G)(K:G->Tr)(P:H->Prop):Prop:= ∀c h',G.le g c->Hd hb B c h'->av d hb B F (K c)->P h'
abbrev Ki(d:Nat)(hb:H)(B:List ai)(F:SF->SL->G->Prop)(g:G)(K:List SV->G->Tr)(P:It):Prop:= ∀c h' l,G.le g c->Hd hb B c h'->bC c l->av d hb B F (K l c)->P (bd l) bP h'
abbrev Kl(d:Nat)(hb:H)(B:List ai)(F:SF->SL->G->Prop)(g:G)(K:List SV->G->Tr)(P:List V->H->Prop):Prop:= ∀c h' l,G.le g c->Hd hb B c h'->bC c l->av d hb B F (K l c)->P (bd l) h'
theorem Kq.op{v}(z:Kq d hb B F g K Q)(D:Hd hb B g h)(t:av d hb B F<|K (.op v) g):Q v h:=z g h (.op v) (G.le_refl g) D tI t
theorem Kq.up{j}(z:Kq d hb B F g K Q)(l:G.le g j):Kq d hb B F j K Q:=λg2 h2 v m=>z g2 h2 v (G.le_trans l m)
theorem Kh.up{K P j}(z:Kh d hb B F g K P)(l:G.le g j):Kh d hb B F j K P:=λg2 h2 m=>z g2 h2 (G.le_trans l m)
theorem Ki.up{K P j}(z:Ki d hb B F g K P)(l:G.le g j):Ki d hb B F j K P:=λg2 h2 v m=>z g2 h2 v (G.le_trans l m)
theorem Kl.up{K P j}(z:Kl d hb B F g K P)(l:G.le g j):Kl d hb B F j K P:=λg2 h2 v m=>z g2 h2 v (G.le_trans l m)
theorem wY(v:V):den (dx v)=v/\aN g (dx v):=by
 unfold dx
 exact match e:l_ v with
 |U i=>⟨(zr e).symm,tI⟩
 |Y=>⟨rfl,tI⟩
theorem Ga(v:V):den (fj v)=v/\aN g (fj v):=by
 unfold fj
 exact match e:l_ v with
 |U i=>⟨(zr e).symm,aU i,aU i⟩
 |Y=>⟨rfl,tI⟩
theorem Kq.dx{v:V}(z:Kq d hb B F g K Q)(D:Hd hb B g h)(t:av d hb B F<|K (dx v) g):Q v h:=have w:=wY v;w.1▸z g h _ (G.le_refl g) D w.2 t
theorem Kq.fj{v:V}(z:Kq d hb B F g K Q)(D:Hd hb B g h)(t:av d hb B F<|K (fj v) g):Q v h:=have w:=Ga v;w.1▸z g h _ (G.le_refl g) D w.2 t
theorem Kq.pk{T}(z:Kq d hb B F g K Q)(D:Hd hb B g h)(t:av d hb B F<|p6 T g K)(x: ∀v,T v->Q v h->X):X:=t.elim λw t=>x _ t.1.1 (z g h w (G.le_refl g) D t.1.2 t.2)
theorem aI7{T E}{l j}(D:Hd hb B g h)(t:av d hb B F<|r8 a g T E)(x:Kh d hb B F g T l)(y:Kh d hb B F g E j):tv h l j<|den a:=SV.v_ t λb e t=>by
 rw[e]
 exact match b,t with
 |aa,t=>M6 (x g h (G.le_refl g) D t)
 |ae,t=>Ed (y g h (G.le_refl g) D t)
theorem Kc{f}(D:Hd hb B g h)(o:aN g a)(t:av d hb B F<|E9 a f g K)(z:Kq d hb B F g K Q):j6 I h Q (den a) f:=
 eB t (λ_ t=>SV.iD t o λk c e oc t=>gD D oc t (λc fs _ hx ok t=>Qh t λv ev t=>by rw[e];exact .eN hx (IR ev)<|z g h v (G.le_refl g) D (ok _ _ ev) t) (λ_ _ _ _ _ t=>t.elim) λ_ _ _ t=>t.elim)
  λt=>SV.iX t λv e t=>ca t λx ex t=>by
   rw[e,vm ex]
   exact match e:bc x.2.2 f with
   |U v=>by rw[e] at t;exact .iA e (z.dx D t)
   |Y=>by rw[e] at t;exact ca t λv ev t=> .yA e ev (z.fj D t)
theorem Ir{f}{w}{K}{P}(D:Hd hb B g h)(o:aN g a)(i:aN g w)(t:av d hb B F<|FW a f w g K)(z:Kh d hb B F g K P):oq I h f (den w) P<|den a:=
 SV.iD t o λk x e oc t=>gD D oc t (λc fs en hx ok t=>by
  have t:=hR t
  have c:=fT.mp t.1
  have t:=t.2
  rw[MI] at t
  rw[e]
  refine .WN hx c.1 (by have c:=c.2;unfold bZ;rw[bN];exact c) ?_
  rw[<-Nk]
  exact tM D en t tI rfl (λm v e=>(Pu e).elim (ok m v) λq=>q▸i) λj l D t=>z j _ l D t) (λ_ _ _ _ _ t=>t.elim) λ_ _ _ t=>t.elim
theorem Bd.kV{p:Bd}{n}{i}(e:p.lit=U n)(o:p.ok i):i=n/\0<=i/\i<=1000:=match p,e,o with
 |.b (.ofNat x) (.ofNat y),e,o=>by
  have e:(match bE x y&&eY x 1000 with|aa=>U x|ae=>Y)=U n:=e
  cases c:bE x y&&eY x 1000 <;>rw[c] at e
  ·cases e
  ·have c:=fT.mp c
   have q:=jh c.1
   cases e
   have q:=qP (q▸o.2) o.1
   exact⟨q,q▸du n,q▸bS.mpr (d5 c.2)⟩
 |.b (.ofNat _) (.negSucc _),e,_|.b (.negSucc _) _,e,_|.no,e,_=>bf e
theorem yF{l}{i}{p}(D:Hd hb B g h)(o:p.ok i)(t:av d hb B F<|uC l i p g K)(z:Kq d hb B F g K Q)(x: ∀v,0<=i->i<=4611686018427387904->ah l i.toNat=U v->Q v h->X):X:=by
 unfold uC at t
 exact match e:p.lit with
 |U n=>by
  rw[e] at t
  have q:=Bd.kV e o
  exact kY t λv ev t=>x v q.2.1 (az q.2.2 dd) (by rw[q.1];exact ev) (iF t (z.fj D)<|z.dx D)
 |Y=>by
  rw[e] at t
  have t:=qe (Bd.r4 o) t
  exact z.pk D t.2 λv T q=>x v t.1.1 t.1.2 T q
theorem yG: ∀{l:List SV} {n:Nat} {v:SV},ah l n=U v->bC g l->ah (bd l) n=U (den v)/\aN g v
 |_::_,0,_,e,o=>by cases e;exact⟨rfl,o.1⟩
 |_::r,n+1,_,e,o=>yG (n:=n) e o.2
theorem PM{l}{i}(D:Hd hb B g h)(t:av d hb B F<|Gm l i g K)(z:Kq d hb B F g K Q)(x: ∀v,bu l i=U v->Q v h->X):X:=
 iF t (λt=>ca t λv e t=>x v e<|z.dx D t) λt=>z.pk (T:=λv=>bu l i=U v) D t x
theorem LK: ∀{l:List Int} {n:Nat} {i:Int},ah l n=U i->ah (vi l) n=U (.int i)
 |_::_,0,_,e=>by cases e;rfl
 |_::r,n+1,_,e=>LK (n:=n) e
theorem YJ{l}{i}{p:Bd}(D:Hd hb B g h)(o:p.ok i)(t:av d hb B F (match p.lit with|U n=>gr .aR l n λi=>K (.int i .no) g|Y=>nw (p.in 0 4611686018427387904) (0<=i/\i<=4611686018427387904)<|p6 (λv=>ah (vi l) i.toNat=U v) g K))(z:Kq d hb B F g K Q):gj h Q (.a6 l)<|.int i:=match e:p.lit with
 |U n=>by
  rw[e] at t
  have q:=Bd.kV e o
  exact kY t λv ev t=> .EA q.2.1 (az q.2.2 dd) (by rw[q.1];exact LK ev) (z g h (.int v .no) (G.le_refl g) D tI t)
 |Y=>by
  rw[e] at t
  have t:=qe (Bd.r4 o) t
  exact z.pk D t.2 λv T q=> .EA t.1.1 t.1.2 T q
theorem vT{α}: ∀{l:List α} {k:α->Tr},av d hb B F (tE l k)-> ∃m v,l=m++[v]/\av d hb B F (k v)
 |[],_,t=>t.elim
 |[x],_,t=>⟨[],x,rfl,t⟩
 |x::y::r,k,t=>(vT (l:=y::r) t).elim λm w=>w.elim λv w=>⟨x::m,v,aA (x:: ·) w.1,w.2⟩
theorem Bv{v}: ∀{m:List SV},bd (m++[v])=bd m++[den v]/\(bC g (m++[v])->aN g v)
 |[]=>⟨rfl,And.left⟩
 |_::m=>have w:=Bv;⟨aA (_) w.1,λo=>w.2 o.2⟩
theorem Yz{p:Bd}{i}(e:p.m1=aa)(o:p.ok i):i= -1:=match p,e,o with
 |.b (.negSucc n) (.negSucc m),e,o=>by
  have e:=fT.mp e
  have a:=jh e.1
  have b:=jh e.2
  subst a;subst b
  exact qP o.2 o.1
theorem ay3(D:Hd hb B g h)(f:aN g a)(t:av d hb B F<|ML a g K)(z:Kq d hb B F g K Q):gj h Q (den a)<|.int (-1):=match a,f,t with
 |.fl l,f,t=>(vT t).elim λm w=>w.elim λv w=>by
  have q:=Bv (g:=g) (v:=v) (m:=m)
  show gj h Q (.fl<|bd l) _
  have f:=f
  rw[w.1] at f⊢
  rw[q.1]
  exact .Hg (z g h v (G.le_refl g) D (q.2 f) w.2)
 |.op v,_,t=>ca t λl e t=>(vT t).elim λm w=>w.elim λv w=>by
  rw[uu e,w.1];exact .Hg (z.dx D w.2)
 |.ref k c,f,t=>xI D f t (λl _ hx ol t=>(vT t).elim λm w=>w.elim λv w=>by
   have q:=Bv (g:=g) (v:=v) (m:=m)
   rw[w.1,q.1] at hx
   rw[w.1] at ol
   exact .BQ hx<|z g h v (G.le_refl g) D (q.2 ol) w.2) λt=>gD D f t (λ_ _ _ _ _ t=>t.elim) (λ_ l _ _ hx t=>Or.elim t (λt=>(vT t).elim λm w=>w.elim λv w=>by
   rw[w.1] at hx;exact .BQ hx<|z.dx D w.2) λt=>z.pk (T:=λv=> ∃m,l=m++[v]) D t λv T q=>T.elim λm e=>by
   rw[e] at hx;exact .BQ hx q) λ_ _ _ t=>t.elim
 |.aj _,_,t|.int ..,_,t=>t.elim
theorem aF1{l}{i}{p}(D:Hd hb B g h)(c:p.ok i)(f:aN g<|.aj l)(t:av d hb B F<|BI l i p g K)(z:Kq d hb B F g K Q):gj h Q (den<|.aj l)<|.int i:=by
 unfold BI at t
 exact match e:p.lit with
 |U n=>by
  rw[e] at t
  have q:=Bd.kV e c
  exact kY t λv ev t=>have w:=yG ev f; .nZ q.2.1 (az q.2.2 dd) (by rw[q.1];exact w.1) (z g h v (G.le_refl g) D w.2 t)
 |Y=>by
  rw[e] at t
  exact yF D c t z λv h0 h1 e q=> .nZ h0 h1 e q
theorem Mb(D:Hd hb B g h)(f:aN g a)(ob:aN g b)(t:av d hb B F<|DV a b g K)(z:Kq d hb B F g K Q):gj h Q (den a)<|den b:=
 SV.fV t ob λi p eb c t=>by
  rw[eb]
  cases em:p.m1 <;>rw[em] at t
  case true=>rw[Yz em c];exact ay3 D f t z
  cases a
  ·exact eB t (λ_ t=>ca t λl e t=>by rw[vR e];exact yF D c t z λv h0 h1 e q=> .nZ h0 h1 e q) λt=>
   eB t (λ_ t=>ca t λl e t=>by rw[uu e];exact yF D c t z λv h0 h1 e q=> .KY h0 h1 e q) λt=>
   eB t (λ_ t=>ca t λl e t=>by rw[yt e];exact YJ D c t z) λt=>
   ca t λl e t=>by rw[qb e];exact PM D t z λv T q=> .av6 T q
  ·exact t.elim
  ·exact xI D f t (λl _ hx ol t=>ca t λn e t=>kY t λv ev t=>have q:=Bd.kV e c;have w:=yG ev ol; .o_ hx q.2.1 (az q.2.2 dd) (by rw[q.1];exact w.1) (z g h v (G.le_refl g) D w.2 t)) λt=>gD D f t (λ_ _ _ _ _ t=>t.elim) (λ_ l _ _ hx t=>yF D c t z λv h0 h1 e q=> .o_ hx h0 h1 e q) λl _ hx t=>PM D t z λv T q=> .OW hx T q
  ·exact aF1 D c f t z
  ·exact ca t λn e t=>kY t λv ev t=>have q:=Bd.kV e c;have w:=yG ev f; .KY q.2.1 (az q.2.2 dd) (by rw[q.1];exact w.1) (z g h v (G.le_refl g) D w.2 t)
theorem Fs{α}: ∀{l:List α} {i:Nat} {a:α},ah l i=U a->i <l.length
 |_::_,0,_,_=>aQ3 _
 |_::l,i+1,_,e=>GB (Fs e)
theorem NG{g}{w}(c:aN g w): ∀{l:List SV} (n:Nat),bC g l->bd (d_ l n w)=d_ (bd l) n (den w)/\bC g (d_ l n w)/\(d_ l n w).length=l.length
 |[],_,_=>⟨rfl,tI,rfl⟩
 |_::_,0,o=>⟨rfl,⟨c,o.2⟩,rfl⟩
 |v::r,n+1,o=>have z:=NG c n o.2;⟨aA (_) z.1,⟨o.1,z.2.1⟩,aA (· +1) z.2.2⟩
theorem mM: ∀l:List SV,(bd l).length=l.length
 |[]=>rfl
 |_::r=>aA (· +1) (mM r)
theorem Kt{w}{K}{P}(D:Hd hb B g h)(u:aN g a)(ob:aN g b)(j:aN g w)(t:av d hb B F<|Dr a b w g K)(z:Kh d hb B F g K P):nF h (den w) P (den a)<|den b:=
 SV.iD t u λk x ea oc t=>SV.fV t ob λi p eb f t=>xI D oc t
  (λl en hx ol t=>ca t λn e t=>have t:=hR t;tR t.2 λv ev s=>by
   have q:=Bd.kV e f
   have y:=NG j n ol
   rw[ea,eb]
   refine .Eh hx q.2.1 (by rw[q.1,mM];exact mm.mpr<|Fs ev) (by rw[mM];exact d5 t.1) ?_
   rw[q.1]
   show P (h.cq x<|.list<|d_ (bd l) n<|den w)
   rw[<-y.1]
   exact tM D en s tI rfl y.2.1 λc l D t=>z c _ l D t)
  λt=>gD D oc t (λ_ _ _ _ _ t=>t.elim)
  (λo l lv en hx t=>by
   rw[ea,eb]
   have W:av d hb B F (bw g k x (.list<|d_ l i.toNat<|den w) K)->P (h.cq x<|.list<|d_ l i.toNat<|den w):=λt=>tM D en t lv rfl tI λc l D t=>z c _ l D t
   exact match e:p.lit with
   |U n=>by
    rw[e] at t
    have q:=Bd.kV e f
    exact kY t λv ev t=>have t:=hR t; .Eh hx q.2.1 (by rw[q.1];exact mm.mpr<|Fs ev) (d5 t.1) (W t.2)
   |Y=>by rw[e] at t;have t:=uz t;exact .Eh hx t.1.1.1 t.1.1.2 t.1.2<|W t.2)
  λl en hx t=>by
   rw[ea,eb]
   have W:av d hb B F (bw g k x (.dict<|eX l i<|den w) K)->P (h.cq x<|.dict<|eX l i<|den w):=λt=>tM D en t tI rfl tI λc l D t=>z c _ l D t
   exact iF t (λt=>have t:=hR t; .L_ hx (d5 t.1) (W t.2)) λt=>have t:=uz t; .L_ hx t.1 (W t.2)
theorem JD{k}{x}(D:Hd hb B g h)(oc: ∃o,ah g k=U (x,o))(t:av d hb B F<|sH k x g K)(z: ∀e v,G.le g e->Hd hb B e (h.k_ x)->aN e v->av d hb B F (K v e)->Q (den v) (h.k_ x)):nv h Q x:=by
 have fW: ∀{o:SO} {v:V},o.lv->ah g k=U (x,o)->av d hb B F (bw g k x .fW λg=>K (.op v) g)->Q v (h.k_ x):=
  λ{o v} ol en t=>tR t λ_ _ t=>z _ (.op v) (jd en) (D.NB en ol (p:= .fW) tI (λ_ n _=>(aE n).trans) tI) tI t
 exact gD D oc t (λc fs en hx _ t=> .f_i hx<|fW (o:= .aK c fs) tI en t) (λo l lv en hx t=> .YE hx<|fW lv en t) λl en hx t=> .f_d hx (fW (o:= .dict l) tI en t)
theorem B3{k}{x}(D:Hd hb B g h)(oc: ∃o,ah g k=U (x,o))(t:av d hb B F<|sH k x g K)(z:Kq d hb B F g K Q):nv h Q x:=JD D oc t λc v=>z c _ v
theorem SH{v}{l}{P}:bE v.cls 9=ae->pQ l h (λvs h=>P (den v::vs) h)->pQ (den v::l) h P:=SV.casesOn v
 (λv=>V.casesOn v (λ_ k=>k) (λ_ _ k=>k) (λ_ _ k=>k) (λ_ _ k=>k) (λ_ _ k=>k) (λ_ _ k=>k) (λ_ _ k=>k) (λ_ _ _ _ k=>k) (λ_ _ k=>k) λ_ e=>jK e)
 (λ_ _ _ k=>k) (λ_ _ e=>jK e) (λ_ _ k=>k) λ_ _ k=>k
theorem Fm: ∀{l:List SV} {g:G} {h:H} {K:List SV->G->Tr} {P:List V->H->Prop},Hd hb B g h->bC g l->av d hb B F (yz l g K)->Kl d hb B F g K P->pQ (bd l) h P
 |[],g,h,_,_,D,_,t,z=>z g h [] (G.le_refl g) D tI t
 |v::r,g,h,K,P,D,o,t,z=>fN t
  (λ_ t=>SV.iD t o.1 λk x e oc t=>by
   show pQ (den v::bd r) h P
   rw[e]
   exact B3 D oc t λg1 h1 w l1 D f t=>Fm D (rI l1 r o.2) t λg2 h2 ws l2 D c t=>z g2 h2 (w::ws) (G.le_trans l1 l2) D ⟨fL l2 w f,c⟩ t)
  λe t=>SH e (Fm D o.2 t λg2 h2 ws l2 D c t=>z g2 h2 (v::ws) l2 D ⟨fL l2 v o.1,c⟩ t)
theorem TI(D:Hd hb B g h)(o:aN g a)(t:av d hb B F<|Hl a g K)(z:Kq d hb B F g K Q):qk h Q<|den a:=match a,o,t with
 |.ref k x,o,t=> .Z3 (B3 D o t z)
 |.aj l,o,t=> .at8 (Fm D o t λc h' l m D o t=>z c h' (.aj l) m D o t)
 |.op _,_,t|.int ..,_,t|.fl _,_,t=>t.elim
theorem Bd.Vb{p:Bd}{i}(o:p.ok i):p.abs.ok i.natAbs:=qA o o λl u _ _ a b _ _=>⟨du _,by split <;>omega⟩
theorem ao4(o:aN g a)(D:Hd hb B g h)(t:av d hb B F<|Hs a g K)(z:Kq d hb B F g K Q):sC h Q<|den a:=SV.fV t o λi p e o t=>by rw[e];exact .sG (z g h (.int (-i) p.neg) (G.le_refl g) D (Bd.UD o) t)
end
section
variable{X:Prop}
theorem ro{n}(D:Hd hb B g h)(t:av d hb B F<|qG n g K)(z:Kq d hb B F g K Q)(x:a_ n->Q (.int n) h->X):X:=
 iF t (λt=>have t:=hR t;x (d5 t.1) (z g h (.int n<|.b n n) (G.le_refl g) D ⟨aU _,aU _⟩ t.2)) λt=>have t:=uz t;x t.1 (z g h (.int n<|.b 0 1000000) (G.le_refl g) D ⟨du _,bS.mpr t.1⟩ t.2)
theorem Tn(D:Hd hb B g h)(o:aN g a)(t:av d hb B F<|Lz a g K)(z:Kq d hb B F g K Q):cj h Q .len [den a]:=
 eB t (λ_ t=>SV.iD t o λk x e oc t=>by rw[e];exact gD D oc t (λ_ _ _ _ _ t=>t.elim) (λ_ l _ _ hx t=>ro D t z<|.wy hx) λl _ hx t=>ro D t z<|.Wy hx) λt=>
 eB t (λ_ t=>SV.i9 t λl e t=>by rw[e];exact ro D t z .xQ) λt=>
 eB t (λ_ t=>SV.rZ t λl e t=>by rw[e];exact ro D t z .ab6) λt=>
 eB t (λ_ t=>SV.iX t λv e t=>ca t λl b t=>by rw[e,yt b];exact ro D t z .Zc) λt=>
 eB t (λ_ t=>SV.iX t λv e t=>ca t λl b t=>by rw[e,Fb b];exact ro D t z .ar1) λt=>
 SV.iX t λv e t=>ca t λl b t=>by rw[e,qb b];exact ro D t z .aj8
theorem wr{a}{n:Nat}:bE a.cls n=aa->(den a).ctorIdx=n:=SV.casesOn a (λ_=>jh) (λ_ _=>jh) (λ_ _=>jh) (λ_=>jh) λ_=>jh
theorem aw9{t}(D:Hd hb B g h)(k:av d hb B F<|Lq t a g K)(z:Kq d hb B F g K Q):cj h Q (.gc t) [den a]:=match t,k with
 |.int,k=>eB k (λc k=>V.int.elim (den a) (wr c) λ_=> .Iu<|z.op D k) λk=>k.elim
 |.bool,k=>eB k (λc k=>V.int.elim (den a) (wr c) λ_=> .LL<|z.op D k) λk=>k.elim
 |.tuple,k=>eB k (λc k=>V.aj.elim (den a) (wr c) λ_=> .SQ<|z.op D k) λk=>k.elim
 |.str,k=>eB k (λc k=>V.str.elim (den a) (wr c) λ_=> .U1<|z.op D k) λk=>k.elim
 |.bytes,k=>eB k (λc k=>V.a6.elim (den a) (wr c) λ_=> .ap3<|z.op D k) λk=>k.elim
theorem wM{o}{x}{c}(z:Kq d hb B F g K Q)(t:av d hb B F<|mO o g K)(D:Hd hb B g h)(e:h c=Y)(l:o.at<|U x)(ok:o.ok g):Q (.ref c)<|h.cq c x:=MX t D e l ok λa v l D o e t=>e▸z _ _ v l D o t
theorem ap6{u}{r}{y}(D:Hd hb B g h)(o:aN g a)(or:bC g r)(t:av d hb B F<|Pz u a r g K y)(b: ¬av d hb B F y)(z:Kq d hb B F g K Q):cj h Q u<|den a::bd r:=by
 cases r
 ·cases u
  case gc=>exact aw9 D t z
  case len=>exact Tn D o t z
  case abs=>exact SV.fV t o λi p e o t=>e▸ .LX (z g h (.int i.natAbs p.abs) (G.le_refl g) D (Bd.Vb o) t)
  case tuple=>exact eB t (λ_ t=>SV.rZ t λl e t=>e▸ .Uj (fi t).1 (z.op D (fi t).2)) λt=>eB t (λ_ t=>SV.i9 t λl e t=>e▸ .aC2 (fi t).1 (z.op D (fi t).2)) λt=>eB t (λ_ t=>SV.iD t o λk x e oc t=>e▸gD D oc t (λ_ _ _ _ _ t=>t.elim) (λ_ l _ _ hx t=> .aa7 hx (fi t).1<|z.op D (fi t).2) λ_ _ _ t=>t.elim) λt=>SV.iX t λv e t=>ca t λl f t=>by show cj h Q .tuple [den a];rw[e,yt f];exact .Py (fi t).1 (z.op D (fi t).2)
  case list=>
   cases fr
   ·exact SV.iD t o λk x e oc t=>e▸gD D oc t (λ_ _ _ _ _ t=>t.elim) (λ_ l _ _ hx t=> .Z6 hx (fi t).1 λc ec=>wM z (fi t).2 D ec rfl tI) λ_ _ _ t=>t.elim
   ·exact SV.i9 t λl e t=>e▸ .SK (fi t).1 (z.op D (fi t).2)
  case dict=>
   cases fr
   ·exact SV.iD t o λk x e oc t=>e▸gD D oc t (λ_ _ _ _ _ t=>t.elim) (λ_ _ _ _ _ t=>t.elim) λl _ hx t=> .aD2 hx (fi t).1 λc ec=>wM z (fi t).2 D ec rfl tI
   ·exact SV.iX t λv e t=>ca t λl f t=>by show cj h Q (.dict aa) [den a];rw[e,qb f];exact .aN7 (fi t).1 (z.op D (fi t).2)
  all_goals exact absurd t b
 ·cases tail
  ·cases u
   case max=>exact SV.fV t o λi p e _ t=>SV.fV t or.1 λj q e' _ t=>by show cj h Q .max [den a,den head];rw[e,e'];exact .ar3 (z g h (.int (dL i [j]) .no) (G.le_refl g) D tI t)
   all_goals exact absurd t b
  ·exact absurd t b
theorem C5{k}{c}{o p}{x}{v}(z:Kq d hb B F g K Q)(D:Hd hb B g h)(e:ah g k=U (c,o))(t:av d hb B F<|bw g k c p λg=>K (.op v) g)(ol:o.lv)(a:p.at<|U x)(f:p.ok g):Q v<|h.cq c x:=tM D e t ol a f λb l D t=>z b _ (.op v) l D tI t
theorem YQ{k m}{c}{vs}(D:Hd hb B g h)(oc: ∃o,ah g k=U (c,o))(ov:bC g vs)(t:av d hb B F<|L3 k c m vs g K)(z:Kq d hb B F g K Q):mB h Q c m<|bd vs:=
 gD D oc t (λ_ _ _ _ _ t=>t.elim) (λo l lv en hx t=>by
  rcases vs with _|⟨v,_|_⟩
  ·exact t.elim
  ·exact fN t (λem t=>by rw[jh em];exact .vq hx (fi t).1 (C5 z D en (fi t).2 lv rfl tI)) λ_ t=>
   fN t (λem t=>by
    rw[jh em]
    show mB h Q c 2 [den v]
    exact eB t (λ_ t=>SV.i9 t λe u t=>by rw[u];exact .al9 hx (fi t).1<|C5 z D en (fi t).2 lv rfl tI) λt=>
     SV.iD t ov.1 λj x e s t=>have t:=hR t;gD D s t.2 (λ_ _ _ _ _ t=>t.elim) (λo' e' a b f i=>by
      rw[e]
      refine .Vr hx (λq=> ?_) f (fi i).1 (C5 z D en (fi i).2 lv rfl tI)
      have w:=D.inj j k x o' o b (q▸en) a lv
      have p:=t.1
      rw[w,AP] at p
      cases p) λ_ _ _ t=>t.elim) λ_ t=>t.elim
  ·exact t.elim) λ_ _ _ t=>t.elim
theorem HV{a}{vs}(D:Hd hb B g h)(ov:bC g vs)(t:av d hb B F<|F9 a vs g K)(z:Kq d hb B F g K Q):oE h Q a<|bd vs:=match vs,ov,t with
 |[v],ov,t=>SV.fV t ov.1 λi p e _ t=>by show oE h Q a [den v];rw[e];exact iF t (λt=> .HB<|z.dx D t) λt=>z.pk D t λw T q=> .HB (T.symm▸q)
 |[v,u],ov,t=>SV.fV t ov.1 λi p e _ t=>by show oE h Q a [den v,den u];rw[e];exact iF t (λt=> .PD<|z.dx D t) λt=>z.pk D t λw T q=> .PD (T.symm▸q)
 |[],_,t|_::_::_::_,_,t=>t.elim
theorem Kn{α}{o:Option α}{t}(h:av d hb B F<|BR o t):o=Y/\av d hb B F t:=match o,h with
 |Y,h=>⟨rfl,h⟩
 |U _,h=>h.elim
def qp(d:Nat)(hb:H)(B:List ai)(F:SF->SL->G->Prop)(C:qF)(S:cW):Prop:= ∀f vs g h K Q,Hd hb B g h->bC g vs->av d hb B F (C f vs g K)->Kq d hb B F g K Q->S f (bd vs) h Q
theorem aO3{C}{S}{m}{y:G->(List SV->G->Tr)->Tr}{u:H->(List V->H->Prop)->Prop}(c:qp d hb B F C S)(D:Hd hb B g h)(o:aN g a)
  (i: ∀{K P},av d hb B F (y g K)->Kl d hb B F g K P->u h P) (t:av d hb B F<|En C m a y g K) (z:Kq d hb B F g K Q):lj I S h u Q m<|den a:=by
 have go: ∀{f:Nat} {x:V},den a=x->av d hb B F (y g λvs g=>C f (a::vs) g K)->u h λvs h=>S f (x::vs) h Q:=λe t=>e▸i t λb h' l m D ol t=>c _ (a::l) b h' K Q D ⟨fL m a o,ol⟩ t (z.up m)
 exact eB t (λ_ t=>SV.iD t o λk x e oc t=>gD D oc t
   (λc fs en hx _ t=>have t:=Kn t;ca t.2 λf p j=>by
    have en:bc (bZ fs) (I.mf m)=Y:=(O1 fs _).trans (t.1▸rfl)
    have w:=go e j
    rw[e];exact .jn hx en p w)
   λo' l lv en hx t=>have t:=hR t;by rw[e];exact .pL hx t.1 (i t.2 λb h' l m D ol t=>YQ D (m _ _ _ en) ol t<|z.up m)
   λl en hx t=>fN t (λem t=>by
    rw[e,jh em]
    exact .as6 hx<|i t λb h' l m D ol t=>gD D (m _ _ _ en) t (λ_ _ _ _ _ t=>t.elim) (λ_ _ _ _ _ t=>t.elim) λq _ s t=>⟨q,s,HV D ol t<|z.up m⟩) λ_ t=>t.elim)
  λt=>eB t (λ_ t=>SV.iX t λv e t=>ca t λx ex t=>have t:=Kn t;ca t.2 λf p j=>by
    have w:=go (e.trans<|vm ex) j
    rw[e,vm ex];exact .Zw t.1 p w)
   λt=>SV.iX t λv e t=>ca t λl el t=>fN t (λem t=>by
    rw[e,qb el,jh em]
    exact .aC3<|i t λb h' l m D ol t=>HV D ol t<|z.up m) λ_ t=>t.elim
end
theorem i6: ∀(u:List<|Nat×SO) (g:G),G.le g (d9 g u)
 |[],g=>G.le_refl g
 |p::u,g=>by
  refine G.le_trans (?_:G.le g<|gr g g p.1 λx=>km g g p.1 (x.1,p.2) id) (i6 u _)
  rw[yY]
  exact match e:ah g p.1 with
  |Y=>G.le_refl g
  |U x=>by
   show G.le g (km g g p.1 (x.1,p.2) id)
   rw[yr,e]
   exact jd e
section
variable{g:G}{X:Prop}{Q:V->H->Prop}
theorem pN: ∀l:List V,bd (l.map dx)=l/\bC g (l.map dx)
 |[]=>⟨rfl,tI⟩
 |v::r=>⟨(aA (_) (pN r).1).trans<|aA (· ::r) (wY (g:=g) v).1,(wY v).2,(pN r).2⟩
theorem rx: ∀l:List V,bd (l.map fj)=l/\bC g (l.map fj)
 |[]=>⟨rfl,tI⟩
 |v::r=>⟨(aA (_) (rx r).1).trans<|aA (· ::r) (Ga (g:=g) v).1,(Ga v).2,(rx r).2⟩
theorem yb: ∀l:List<|Int×V,bd (l.map te)=l.map (λe=>V.int e.1)/\bC g (l.map te)
 |[]=>⟨rfl,tI⟩
 |e::r=>⟨aA (_) (yb r).1,⟨aU _,aU _⟩,(yb r).2⟩
theorem AF: ∀l:List<|Int×V,bd (l.map λe=> .aj [te e,dx e.2])=l.map (λe=>V.aj [.int e.1,e.2])/\bC g (l.map λe=> .aj [te e,dx e.2])
 |[]=>⟨rfl,tI⟩
 |e::r=>⟨by
   have w:=(wY (g:=g) e.2).1
   show V.aj [.int e.1,den<|dx e.2]::bd (r.map _)=_
   rw[w,(AF r).1];rfl,⟨⟨aU _,aU _⟩,(wY e.2).2,tI⟩,(AF r).2⟩
theorem aq4{K}{P}(D:Hd hb B g h)(t:av d hb B F<|Ea a g K)(z:Ki d hb B F g K P):ux h P<|den a:=
 SV.iX t λv e t=>ca t λl el t=>by
  have t:=hR t
  have w:=z g h _ (G.le_refl g) D (AF l).2 t.2
  rw[(AF (g:=g) l).1] at w
  rw[e,qb el]
  exact .aL4 (d5 t.1) w
theorem DC: ∀{l:List SV} {n:Int} {p:Bd},p.ok n->bC g l->bd (vG n p l)=mc n (bd l)/\bC g (vG n p l)
 |[],_,_,_,_=>⟨rfl,tI⟩
 |_::r,n,p,o,ol=>have w:=DC (Bd.Dq (q:= .b 1 1) o ⟨aU 1,aU 1⟩) ol.2;⟨aA (_) w.1,⟨o,ol.1,tI⟩,w.2⟩
theorem Qw{k}(o:aN g a)(t:av d hb B F<|a.Di k)(x: ∀l,den a= .fl (bd l)->bC g l->av d hb B F (k l)->X):X:=match a,o,t,x with
 |.fl l,o,t,x=>x l rfl o t
 |.op v,_,t,x=>ca t λl e t=>x (l.map dx) ((uu e).trans<|aA _ (pN (g:=g) l).1.symm) (pN l).2 t
 |.int ..,_,t,_|.ref ..,_,t,_|.aj _,_,t,_=>t.elim
theorem aj2{l}{K}{P}(D:Hd hb B g h)(o:bC g l)(t:av d hb B F<|KI l g K)(z:Ki d hb B F g K P):kU h P<|bd l:=match l,o,t with
 |[a],o,t=>Qw o.1 t λl e ol t=>by
  have q:=DC (p:= .b 0 0) ⟨aU 0,aU 0⟩ ol
  have w:=z g h _ (G.le_refl g) D q.2 t
  rw[q.1] at w
  show kU h P [den a]
  rw[e];exact .BJ w
 |[a,c],o,t=>Qw o.1 t λl e ol t=>SV.fV t o.2.1 λi p ei b t=>by
  have t:=hR t
  have q:=DC b ol
  have w:=z g h _ (G.le_refl g) D q.2 t.2
  rw[q.1] at w
  show kU h P [den a,den c]
  rw[e,ei];exact .aG2 (Bd.r4 b t.1) w
 |[],_,t|_::_::_::_,_,t=>t.elim
theorem Vn{K}{P}(D:Hd hb B g h)(o:aN g a)(t:av d hb B F<|KH a g K)(z:Ki d hb B F g K P):hY h P<|den a:=by
 have up: ∀l:List V,av d hb B F (.ez (K (l.map fj) g)<|K (l.map dx) g)->P l bP h:=λl t=>iF t (λt=>by
  have w:=z g h (l.map fj) (G.le_refl g) D (rx l).2 t
  rw[(rx (g:=g) l).1] at w;exact w) λt=>by
  have w:=z g h (l.map dx) (G.le_refl g) D (pN l).2 t
  rw[(pN (g:=g) l).1] at w;exact w
 exact match a,o,t with
 |.aj l,o,t=> .tV (z g h l (G.le_refl g) D o t)
 |.fl l,o,t=> .fJ (z g h l (G.le_refl g) D o t)
 |.op v,_,t=>eB t (λ_ t=>ca t λl e t=>by rw[vR e];exact .tV<|up l t) λt=>eB t (λ_ t=>ca t λl e t=>by rw[uu e];exact .fJ<|up l t) λt=>ca t λl e t=>by
  have t:=hR t
  rw[qb e]
  have w:=z g h _ (G.le_refl g) D (yb l).2 t.2
  rw[(yb (g:=g) l).1] at w
  exact .av8 (d5 t.1) w
 |.int ..,_,t|.ref ..,_,t=>t.elim
structure P4(d:Nat)(hb:H)(B:List ai)(F:SF->SL->G->Prop)(r:R)(m:Sm)(g:G)(h:H):Prop where
 v: ∀{K Q},av d hb B F (r.v K)->Kq d hb B F g K Q->m.v h Q
 t: ∀{T E T' E'},av d hb B F (r.t T E)->Kh d hb B F g T T'->Kh d hb B F g E E'->m.t h T' E'
 i: ∀{K P},av d hb B F (r.i K)->Ki d hb B F g K P->m.i h P
theorem js{v:(SV->G->Tr)->Tr}{m:H->(V->H->Prop)->Prop}(k: ∀{K Q},av d hb B F (v K)->Kq d hb B F g K Q->m h Q):P4 d hb B F (dP v) (mk m) g h:=
 ⟨k,λt x y=>k t λa h' v l D o t=>aI7 D t (x.up l)<|y.up l,λt z=>k t λa h' v l D o t=>Vn D o t<|z.up l⟩
def EO(d:Nat)(hb:H)(B:List ai)(F:SF->SL->G->Prop)(r:TE)(m:L->Sm):Prop:= ∀ρ g h,Hd hb B g h->a8 g ρ->P4 d hb B F (r ρ g) (m<|aq ρ) g h
def ES(d:Nat)(hb:H)(B:List ai)(F:SF->SL->G->Prop)(r:Fg)(m:L->H->(List V->H->Prop)->Prop):Prop:= ∀ρ g h K P,Hd hb B g h->a8 g ρ->av d hb B F (r ρ g K)->Kl d hb B F g K P->m (aq ρ) h P
theorem EO.v(a:EO d hb B F r m)(D:Hd hb B g h)(o:a8 g ρ)(t:av d hb B F<|(r ρ g).v K)(z:Kq d hb B F g K Q):(m<|aq ρ).v h Q:=(a _ _ _ D o).v t z
theorem EO.t{T l E j}(a:EO d hb B F r m)(D:Hd hb B g h)(o:a8 g ρ)(t:av d hb B F<|(r ρ g).t T E)(x:Kh d hb B F g T l)(y:Kh d hb B F g E j):(m<|aq ρ).t h l j:=(a _ _ _ D o).t t x y
theorem EO.i{K P}(a:EO d hb B F r m)(D:Hd hb B g h)(o:a8 g ρ)(t:av d hb B F<|(r ρ g).i K)(z:Ki d hb B F g K P):(m<|aq ρ).i h P:=(a _ _ _ D o).i t z
theorem J9{T E}{A h}(t:av d hb B F<|r8 a g T E)(x:av d hb B F (T g)->A)(y:av d hb B F (E g)->h):kX A h<|den a:=SV.v_ t λb e t=>by
 rw[e]
 exact match b,t with
 |aa,t=>Fk (x t)
 |ae,t=>an0 (y t)
open Classical in
theorem as3{p}(x:p->Q (.bool aa) h)(y: ¬p->Q (.bool ae) h):Q (.bool<|fD p) h:=if c:p then XT c▸x c else Qj c▸y c
theorem th{e}(D:Hd hb B g h)(t:av d hb B F<|.ex n e ρ g K)(z:Kq d hb B F g K Q):(ao I (al I<|d+n) e<|aq ρ).v h Q:=
 BF (C:=wF d hb B n e ρ g) (h:=λv=>av d hb B F<|K v.1<|d9 g v.2) t λα p r a t=>a.2 h Q D λx h' b D'=>have l:=i6 (r x).2 g;z _ h' (r x).1 l D' (fL l _<|a.1 x b) (t x b)
theorem E2: ∀(a:Int) (m:Nat),bd (z8 a m)=eh a 1 m/\bC g (z8 a m)
 |_,0=>⟨rfl,tI⟩
 |a,m+1=>⟨aA (_) (E2 (a+1) m).1,⟨aU a,aU a⟩,(E2 (a+1) m).2⟩
theorem ab1{l}{K}{P}(D:Hd hb B g h)(o:bC g l)(t:av d hb B F<|MV l g K)(z:Ki d hb B F g K P):jT h P<|bd l:=match l,o,t with
 |[a],o,t=>SV.fV t o.1 λi p e o t=>ca t λm em t=>by
  have q:=Bd.kV em o
  have w:=E2 (g:=g) 0 m
  have y:=z g h _ (G.le_refl g) D w.2 t
  rw[w.1] at y
  show jT h P [den a]
  rw[e,q.1]
  exact .ma (q.1▸⟨az dd q.2.1,az q.2.2 dd⟩) y
 |[],_,t|_::_::_,_,t=>t.elim
theorem Ey: ∀(n:Nat) (l:List SV),bd (l.take n)=(bd l).take n/\(bC g l->bC g (l.take n))
 |0,_=>⟨rfl,λ_=>tI⟩
 |_+1,[]=>⟨rfl,id⟩
 |n+1,_::r=>have w:=Ey n r;⟨aA (_) w.1,λo=>⟨o.1,w.2 o.2⟩⟩
theorem Bu: ∀(n:Nat) (l:List SV),bd (l.drop n)=(bd l).drop n/\(bC g l->bC g (l.drop n))
 |0,_=>⟨rfl,id⟩
 |_+1,[]=>⟨rfl,id⟩
 |n+1,_::r=>have w:=Bu n r;⟨w.1,λo=>w.2 o.2⟩
theorem VY(l:List SV)(a b:Nat)(o:bC g l):bd (cu l a b)=cu (bd l) a b/\bC g (cu l a b):=⟨((Bu (g:=g) a _).1).trans<|aA _ (Ey (g:=g) b l).1,(Bu a _).2<|(Ey b l).2 o⟩
theorem Xa{l u}(D:Hd hb B g h)(o:aN g a)(ol:aN g l)(s:aN g u)(t:av d hb B F<|JO a l u g K)(z:Kq d hb B F g K Q):ju h Q (den a) (den l)<|den u:=match a,o,t with
 |.fl xs,o,t=>have t:=hR t
  have lm:a_ (bd xs).length:=by rw[mM];exact d5 t.1
  have go: ∀n m,av d hb B F (K (.fl<|cu xs n m) g)->Q (.fl<|cu (bd xs) n m) h:=λn m t=>have w:=VY xs n m o;w.1▸z g h (.fl<|cu xs n m) (G.le_refl g) D w.2 t
  fN t.2 (λc t=>SV.fV t s λj q f e t=>ca t λm em t=>by
   have w:=Bd.kV em e
   rw[oh c,f,w.1]
   exact .Zb lm (du m)<|by show Q (.fl<|cu (bd xs) 0<|min m (bd xs).length) h;rw[mM];exact go 0 _ t) λ_ t=>SV.fV t ol λi p el y t=>ca t λn en t=>by
   have v:=Bd.kV en y
   rw[el,v.1]
   exact fN t (λc t=>by rw[oh c];exact .QK lm (du n)<|by show Q (.fl<|cu (bd xs) (min n (bd xs).length) (bd xs).length) h;rw[mM];exact go _ _ t) λ_ t=>SV.fV t s λj q f e t=>ca t λm em t=>by
    have w:=Bd.kV em e
    rw[f,w.1]
    exact .aj0 lm (du n) (du m) (by show Q (.fl<|cu (bd xs) (min n (bd xs).length)<|min m (bd xs).length) h;rw[mM];exact go _ _ t)
 |.op v,_,t=>fN t (λc t=>ca t λxs ex t=>SV.fV t s λj q f e t=>ca t λm em t=>by
   have w:=Bd.kV em e
   have t:=hR t
   have b:=fT.mp t.1
   rw[oh c,f,w.1,vR ex]
   exact .aM9 (d5 b.2) (du m) (mm.mpr<|d5 b.1)<|z.op D t.2) λ_ t=>t.elim
 |.aj _,_,t|.int ..,_,t|.ref ..,_,t=>t.elim
theorem an4{K}{P}(o:a8 g ρ): ∀{cs:List Nat},av d hb B F (z6 ρ cs K)->(∀a,a8 g a->av d hb B F (K a)->P (aq a))->iB (aq ρ) cs P:=λ{cs}=>by
 induction cs generalizing K P with
 |nil=>exact λt z=>z [] (λ_ _ e=>bf e) t
 |cons i r ih=>exact λt z=>kY t λw ew t=>ca t λv ev t=>nX (re<|ev▸ew) (ih t λa ok t=>z (U v::a) (λj u e=>match j,e with
  |0,e=>by cases e;exact o i v (ev▸ew)
  |j+1,e=>ok j u e) t)
theorem aE6{y W:TE}{p A:L->Sm}(kc:EO d hb B F y p)(q:EO d hb B F W A)(o:a8 g0 a): ∀(l:List SV) {g:G} {h:H} {K:List SV->G->Tr} {P:List V->H->Prop},G.le g0 g->Hd hb B g h->bC g l->av d hb B F (B_ y W a l g K)->Kl d hb B F g K P->
  hO (λv h K=>(p<|U v::aq a).t h (λh=>(A<|U v::aq a).v h λw h=>K (U w) h) λh=>K .none h) bP (bd l) h P:=λl=>by
 induction l with
 |nil=>exact λ_ D _ t z=>⟨tI,z _ _ [] (G.le_refl _) D tI t⟩
 |cons v r ih=>
  intro g h K P b D ol t z
  have ok:a8 g<|some v::a:=λj u=>match j with
   |0=>λe=>bM (bM e)▸ol.1
   |j+1=>λe=>fL b u (o j u e)
  exact⟨tI,kc.t D ok t (λg1 h1 l1 D1 t=>q.v D1 (dJ l1 ok) t λg2 h2 w l2 D2 f t=>have l3:=G.le_trans l1 l2;ih (G.le_trans b l3) D2 (rI l3 r ol.2) t λs h3 ws l i c t=>z s h3 (w::ws) (G.le_trans l3 l) i ⟨fL l w f,c⟩ t)
   λg1 h1 l1 D1 t=>ih (G.le_trans b l1) D1 (rI l1 r ol.2) t<|z.up l1⟩
section
variable{S:cW}
theorem L2{b x y}(t:av d hb B F<|cond b x y)(k:b=aa->av d hb B F x->X)(l:b=ae->av d hb B F y->X):X:=by
 cases b
 ·exact l rfl t
 ·exact k rfl t
theorem FG{f:SV->G->(SV->G->Tr)->Tr}{p:H->(V->H->Prop)->V->Prop}(a:EO d hb B F l j)(k: ∀{g h v K Q},Hd hb B g h->aN g v->av d hb B F (f v g K)->Kq d hb B F g K Q->p h Q (den v)):EO d hb B F (λρ g=>dP λK=>(l ρ g).v λv g=>f v g K) λL=>mk λh Q=>(j L).v h λv h=>p h Q v:=
 λ_ _ _ D o=>js λt z=>a.v D o t λg1 h1 v l1 D1 ov t=>k D1 ov t (z.up l1)
theorem V2{f:SV->SV->G->Tr}{p:V->V->H->Prop}(a:EO d hb B F u j)(b:EO d hb B F l mb)(D:Hd hb B g h)(o:a8 g ρ)(t:av d hb B F<|(u ρ g).v λv g=>(l ρ g).v λw g=>f v w g)(k: ∀c h' v w,G.le g c->Hd hb B c h'->aN c v->aN c w->av d hb B F (f v w c)->p (den v) (den w) h'):
  (j<|aq ρ).v h λv h=>(mb<|aq ρ).v h λw h=>p v w h:=
 a.v D o t λg1 h1 v l1 D1 ov t=>b.v D1 (dJ l1 o) t λg2 h2 w l2 D2 e t=>k g2 h2 v w (G.le_trans l1 l2) D2 (fL l2 v ov) e t
theorem Jo{f:SV->SV->G->(SV->G->Tr)->Tr}{p:H->(V->H->Prop)->V->V->Prop}(a:EO d hb B F y j)(b:EO d hb B F u mb)(k: ∀{g h v w K Q},Hd hb B g h->aN g v->aN g w->av d hb B F (f v w g K)->Kq d hb B F g K Q->p h Q (den v) (den w)):
  EO d hb B F (λρ g=>dP λK=>(y ρ g).v λv g=>(u ρ g).v λw g=>f v w g K) λL=>mk λh Q=>(j L).v h λv h=>(mb L).v h λw h=>p h Q v w:=
 λ_ _ _ D o=>js λt z=>V2 a b D o t λg2 h2 v w l D ov c t=>k D ov c t (z.up l)
theorem EQ{f:List SV->G->(SV->G->Tr)->Tr}{p:H->(V->H->Prop)->List V->Prop}(i:ES d hb B F j a)(k: ∀{g h l K Q},Hd hb B g h->bC g l->av d hb B F (f l g K)->Kq d hb B F g K Q->p h Q (bd l)):EO d hb B F (λρ g=>dP λK=>j ρ g λl g=>f l g K) λL=>mk λh Q=>a L h λl h=>p h Q l:=
 λ_ _ _ D o=>js λt z=>i _ _ _ _ _ D o t λg1 h1 l l1 D1 ol t=>k D1 ol t (z.up l1)
theorem aI3(a:EO d hb B F h<|ao I S x):EO d hb B F (λρ g=>⟨λK=>(h ρ g).v λv g=>v.bo λb=>K (.op<|.bool (!b)) g,λT F=>(h ρ g).t F T,λ_=> .aR⟩)<|ao I S<|.nt x:=
 λ_ _ _ D o=>⟨λt z=>a.v D o t λg1 h1 f l1 D1 c t=>SV.v_ t λb e t=>e▸ .JG ((z.up l1).op D1 t),λt x y=>a.t D o t y x,λt _=>t.elim⟩
theorem X9(a:EO d hb B F j<|ao I S x)(b:EO d hb B F h<|ao I S y):EO d hb B F (λρ g=>⟨λK=>(j ρ g).v λv g=>r8 v g (λg=>(h ρ g).v K) λg=>K (.op<|.bool ae) g,λT F=>(j ρ g).t (λg=>(h ρ g).t T F) F,λ_=> .aR⟩)<|ao I S<|.an x y:=
 λ_ _ _ D o=>⟨λt z=>a.v D o t λg1 h1 e l1 D1 c t=>J9 t (λt=>b.v D1 (dJ l1 o) t<|z.up l1)<|(z.up l1).op D1,λt x y=>a.t D o t (λg1 h1 l1 D1 t=>b.t D1 (dJ l1 o) t (x.up l1)<|y.up l1) y,λt _=>t.elim⟩
theorem UQ(a:EO d hb B F j<|ao I S x)(b:EO d hb B F h<|ao I S y):EO d hb B F (λρ g=>⟨λK=>(j ρ g).v λv g=>r8 v g (λg=>K (.op<|.bool aa) g) λg=>(h ρ g).v K,λT F=>(j ρ g).t T λg=>(h ρ g).t T F,λ_=> .aR⟩)<|ao I S<|.or x y:=
 λ_ _ _ D o=>⟨λt z=>a.v D o t λg1 h1 e l1 D1 c t=>J9 t ((z.up l1).op D1) λt=>b.v D1 (dJ l1 o) t<|z.up l1,λt x y=>a.t D o t x λg1 h1 l1 D1 t=>b.t D1 (dJ l1 o) t (x.up l1)<|y.up l1,λt _=>t.elim⟩
theorem HE{p}(D:Hd hb B g h)(z:Kq d hb B F g K Q)(w:(p->av d hb B F (K (.op<|.bool aa) g))/\(¬p->av d hb B F (K (.op<|.bool ae) g))):Q (.bool<|fD p) h:=as3 (λq=>z.op D<|w.1 q) λq=>z.op D (w.2 q)
theorem OP{p T j E a}(D:Hd hb B g h)(x:Kh d hb B F g T j)(y:Kh d hb B F g E a)(w:(p->av d hb B F (T g))/\(¬p->av d hb B F (E g))):(p->j h)/\(¬p->a h):=⟨λq=>x g h (G.le_refl g) D<|w.1 q,λq=>y g h (G.le_refl g) D<|w.2 q⟩
theorem ab8(a:EO d hb B F j<|ao I S x)(b:EO d hb B F h<|ao I S y):EO d hb B F (λρ g=>⟨λK=>(j ρ g).v λv g=>(h ρ g).v λw g=>j8 o v w g (λg=>K (.op<|.bool aa) g) λg=>K (.op<|.bool ae) g,λT F=>(j ρ g).v λv g=>(h ρ g).v λw g=>j8 o v w g T F,λ_=> .aR⟩)<|ao I S<|.eW o x y:=
 λ_ _ _ D o=>⟨λt z=>V2 a b D o t λg2 h2 v w l D ov c t=>tA D ov c t λp=>HE D<|z.up l,λt x y=>V2 a b D o t λg2 h2 v w l D ov c t=>tA D ov c t λp=>OP D (x.up l)<|y.up l,λt _=>t.elim⟩
theorem Uc(a:EO d hb B F W<|ao I S x)(b:EO d hb B F A<|ao I S y)(c:EO d hb B F rc<|ao I S w):EO d hb B F (λρ g=>⟨λK=>(W ρ g).v λi g=>(A ρ g).v λe g=>j8 o i e g (λg=>(rc ρ g).v λj g=>j8 p e j g (λg=>K (.op<|.bool aa) g) λg=>K (.op<|.bool ae) g) λg=>K (.op<|.bool ae) g,
  λT F=>(W ρ g).v λi g=>(A ρ g).v λe g=>j8 o i e g (λg=>(rc ρ g).v λj g=>j8 p e j g T F) F,λ_=> .aR⟩)<|ao I S<|.iz o p x y w:=
 λ_ _ _ D o=>⟨λt z=>V2 a b D o t λg2 h2 v u l D ov h t=>tA D ov h t λp w=>⟨λq=>c.v D (dJ l o) (w.1 q) λN h3 s l3 f oc t=>tA f (fL l3 u h) oc t λp=>HE f<|z.up<|G.le_trans l l3,λq=>(z.up l).op D<|w.2 q⟩,
  λt x y=>V2 a b D o t λg2 h2 v u l D ov h t=>tA D ov h t λp w=>⟨λq=>c.v D (dJ l o) (w.1 q) λN h3 s l3 f oc t=>tA f (fL l3 u h) oc t λp=>have l:=G.le_trans l l3;OP f (x.up l) (y.up l),λq=>y g2 h2 l D<|w.2 q⟩,λt _=>t.elim⟩
theorem ax7(a:EO d hb B F j<|ao I S x)(b:EO d hb B F h<|ao I S y)(c:EO d hb B F l<|ao I S w):EO d hb B F (λρ g=>dP λK=>(j ρ g).t (λg=>(h ρ g).v K) λg=>(l ρ g).v K)<|ao I S<|.ite x y w:=
 λ_ _ _ D o=>js λt z=>a.t D o t (λg1 h1 l1 D1 t=>b.v D1 (dJ l1 o) t<|z.up l1) λg1 h1 l1 D1 t=>c.v D1 (dJ l1 o) t (z.up l1)
theorem NI{fr l}(D:Hd hb B g h)(ol:bC g l)(t:av d hb B F<|rL fr (.fl l) (.list<|bd l) g K)(z:Kq d hb B F g K Q):jO fr (bd l) h Q:=by
 cases fr
 ·exact λc ec=>wM z t D ec rfl tI
 ·exact z g h (.fl l) (G.le_refl g) D ol t
theorem ae9{fr}(D:Hd hb B g h)(t:av d hb B F<|rL fr (.op<|.fd []) (.dict []) g K)(z:Kq d hb B F g K Q):v0 fr [] h Q:=by
 cases fr
 ·exact λc ec=>wM z t D ec rfl tI
 ·exact z.op D t
theorem SZ(a:ES d hb B F j<|cP I S x)(b:ES d hb B F h<|cP I S y):EO d hb B F (λρ g=>dP λK=>j ρ g λl g=>zy l<|h ρ g λm g=>zy m<|rL fr (.op<|.fd []) (.dict []) g K)<|ao I S<|.di fr x y:=
 λ_ _ _ D o=>js λt z=>a _ _ _ _ _ D o t λg1 h1 l l1 D1 ol t=>by
  cases l
  ·exact b _ _ _ _ _ D1 (dJ l1 o) t λg2 h2 m l2 D2 c t=>by
    cases m
    ·exact ae9 D2 t (z.up<|G.le_trans l1 l2)
    ·exact t.elim
  ·exact t.elim
theorem Uh{e}{f:SL->G->(SV->G->Tr)->Tr}{m:L->H->(V->H->Prop)->Prop}(x: ∀{L h Q},(ao I (al I<|d+n) e L).v h Q->m L h Q)(k:EO d hb B F (λρ g=>dP<|f ρ g) λL=>mk<|m L):EO d hb B F (λρ g=>dP λK=> .ez (f ρ g K)<|.ex n e ρ g K) λL=>mk<|m L:=
 λ_ _ _ D o=>js λt z=>iF t (λt=>(k _ _ _ D o).v t z) λt=>x (th D t z)
theorem eo3{f:SV->SV->SV->G->(SV->G->Tr)->Tr}{p:H->(V->H->Prop)->V->V->V->Prop}(a:EO d hb B F A j)(b:EO d hb B F y mb)(c:EO d hb B F rc W)(k: ∀{g h v w u K Q},Hd hb B g h->aN g v->aN g w->aN g u->av d hb B F (f v w u g K)->Kq d hb B F g K Q->p h Q (den v) (den w) (den u)):
  EO d hb B F (λρ g=>dP λK=>(A ρ g).v λv g=>(y ρ g).v λw g=>(rc ρ g).v λu g=>f v w u g K) λL=>mk λh Q=>(j L).v h λv h=>(mb L).v h λw h=>(W L).v h λu h=>p h Q v w u:=
 λ_ _ _ D o=>js λt z=>V2 a b D o t λg2 h2 v w l D ov e t=>c.v D (dJ l o) t λs h3 u l3 i q t=>k i (fL l3 v ov) (fL l3 w e) q t (z.up<|G.le_trans l l3)
theorem UH{k}(c:qp d hb B F C S)(i:ES d hb B F p<|cP I S y):EO d hb B F (λρ g=>dP λK=>p ρ g λl g=>oK (I.lu k) λf=> .all λa=>ty g (a,.aK k []) 0 λn g=>C f (.ref n a::l) g λv g=>sw v.cls 0 (K (.ref n a) g) .aR)<|ao I S<|.new k y:=
 λ_ _ _ D o=>js λt z=>i _ _ _ _ _ D o t λg1 h1 l l1 D ol t=>ca t λf b t=>by
  rw[b]
  exact λx ex=>by
   have ox:aN (g1++[(x,.aK k [])])<|.ref g1.length x:=⟨_,EI g1⟩
   exact c f (.ref g1.length x::l) _ _ _ _ (D.new ex (by rw[H.kb];rfl) (λ_ n=>H.jZ n) λ_ _ e=>bf e:Hd hb B (g1++[(x,.aK k [])])<|h1.cq x<|.aK k []) ⟨ox,rI xZ l ol⟩ (PH<|t x) λj h3 v l3 h ov t=>fN t (λe t=>oh e▸ .MA (z j h3 (.ref g1.length x) (G.le_trans l1<|G.le_trans xZ l3) h (fL l3 _ ox) t)) λ_ t=>t.elim
theorem aG8(c:qp d hb B F C<|al I<|d+n)(a:EO d hb B F j<|ao I (al I<|d+n) x)(i:ES d hb B F l<|cP I (al I<|d+n) y):EO d hb B F (λρ g=>let r:=dP λK=>sw m 1 (.ex n (.me x m y) ρ g K) ((j ρ g).v λv g=>En C m v (l ρ) g K)
  ⟨r.v,r.t,λK=>bK (bE m 4)<|(j ρ g).v λv g=>Ea v g K⟩)<|ao I (al I<|d+n)<|.me x m y:=λρ g h D o=>
 have w:=js λt z=>eB t (λ_ t=>th (e:= .me x m y) D t z) λt=>a.v D o t λg1 h1 p l1 D1 b t=>aO3 c D1 b (λ{K P} t z=>i _ _ _ _ _ D1 (dJ l1 o) t z) t (z.up l1)
 ⟨w.v,w.t,λt z=>have t:=hR t;a.v D o t.2 λg1 h1 p l1 D1 b f=>by
  rw[show bE m AG=aa from t.1]
  exact aq4 D1 f<|z.up l1⟩
theorem aG9{b l K P}(D:Hd hb B g h)(ol:bC g l)(t:av d hb B F<|B4 b l g K)(z:Ki d hb B F g K P):match(generalizing:=false) b with
    |.range=>jT h P (bd l)
    |.kE=>kU h P (bd l)
    |b=>cj h (λv h=>hY h P v) b<|bd l:=by
 cases b
 case range=>exact ab1 D ol t z
 case kE=>exact aj2 D ol t z
 all_goals exact t.elim
theorem YD{b l}(D:Hd hb B g h)(ol:bC g l)(t:av d hb B F<|B8 b l g K)(z:Kq d hb B F g K Q):cj h Q b<|bd l:=by
 cases l
 ·exact t.elim
 ·exact ap6 D ol.1 ol.2 t id z
theorem SX(i:ES d hb B F a<|cP I (al I<|d+n) y):EO d hb B F (λρ g=>let r:=dP λK=>cond (MC b y) (.ex n (.bi b y) ρ g K) (a ρ g λl g=>B8 b l g K)
  ⟨r.v,r.t,λK=>a ρ g λl g=>B4 b l g K⟩)<|ao I (al I<|d+n)<|.bi b y:=λρ g h D o=>
 have w:=js (m:=λh Q=>cP I (al I<|d+n) y (aq ρ) h λvs h=>cj h Q b vs) λt z=>L2 t (λ_ t=>th (e:= .bi b y) D t z) λ_ t=>i _ _ _ _ _ D o t λg1 h1 l l1 D1 ol t=>YD D1 ol t (z.up l1)
 ⟨w.v,w.t,λt z=>i _ _ _ _ _ D o t λg1 h1 l l1 D1 ol t=>aG9 D1 ol t<|z.up l1⟩
theorem af7(a:EO d hb B F p<|ao I (al I<|d+n) x)(b:EO d hb B F j<|ao I (al I<|d+n) y)(c:EO d hb B F u<|ao I (al I<|d+n) w):EO d hb B F (λρ g=>dP λK=> .ez ((p ρ g).i λl g=>bK (eY l.length 1000000)<|z6 ρ cs λf=>B_ j u f l g λws g=>rL fr (.fl ws) (.list<|bd ws) g K)
  (.ex n (.comp aa cs x y w) ρ g λv g=>cond fr (K v g)<|v.l λl=>mO (.list l) g K))<|ao I (al I<|d+n)<|.comp fr cs x y w:=
 λ_ _ _ D o=>js λ{K Q} t z=>iF t (λt=>a.i D o t λg1 h1 l l1 D1 ol t=>have t:=hR t;⟨by rw[mM];exact d5 t.1,an4 (dJ l1 o) t.2 λf ok t=>aE6 b c ok l (G.le_refl g1) D1 ol t λg2 h2 ws l2 D2 i t=>NI D2 i t<|z.up<|G.le_trans l1 l2⟩) λt=>by
  cases fr
  ·exact th (K:=λv g=>v.l λl=>mO (.list l) g K) (Q:=λv h=>Option.rec False (λws=> ∀a,h a=Y->Q (.ref a) (h.cq a<|.list ws))<|p_ v) D t λg1 h1 v l1 D1 _ t=>SV.i9 t λl e t=>by rw[e];exact λc ec=>wM (z.up l1) t D1 ec rfl tI
  ·exact th D t z
end
noncomputable def rEs(C:qF)(n:Nat)(es:Es):Fg:=λρ g K=>(rE C n (.tu es) ρ g).v λv g=>match v with
 |.aj l=>K l g
 |_=> .aR
variable(c:qp d hb B F C<|al I<|d+n)
include c
theorem iy(e:E):EO d hb B F (rE C n e)<|ao I (al I<|d+n) e:=
 E.rec (motive_1:=λe=>EO d hb B F (rE C n e)<|ao I (al I<|d+n) e)
  (motive_2:=λes=>ES d hb B F (rEs C n es)<|cP I (al I<|d+n) es)
  (λv _ _ _ D o=>js λt z=>z.fj D t)
  (λi ρ g h D o=>js λt z=>kY t λw ew t=>ca t λv ev t=>by
   unfold gh
   rw[re<|ev▸ew]
   exact z g h v (G.le_refl g) D (o i v<|ev▸ew) t)
  (λk ρ _ _ D o=>js λt z=>ca t λv ev t=>oa (C:=al I<|d+n) (ρ:=aq ρ) ev<|z.fj D t)
  (λj _ _ a b=>(Jo a b (UI (o:=j)):))
  (λ_ a=>(FG a λD o t z=>ao4 o D t z:))
  (λ_ a=>(aI3 a:))
  (λ_ _ a b=>(X9 a b:))
  (λ_ _ a b=>(UQ a b:))
  (λj _ _ a b=>(ab8 (o:=j) a b:))
  (λj p _ _ _ a b c=>(Uc (o:=j) (p:=p) a b c:))
  (λ_ _ _ a b c=>(ax7 a b c:))
  (λ_ i=>(EQ (p:=λh Q l=>Q (.aj l) h) i λ{_ _ l _ _} D ol t z=>z _ _ (.aj l) (G.le_refl _) D ol t:))
  (λfr _ i=>(EQ (p:=λh Q l=>jO fr l h Q) i NI:))
  (λfr _ _ a b=>(SZ (fr:=fr) a b:))
  (λ_ f a=>(FG (p:=λh Q v=>j6 I h Q v f) a Kc:))
  (λ_ _ a b=>(Jo a b Mb:))
  (λa l u y s A=>(Uh (e:= .sl a l u) id (eo3 y s A Xa):))
  (λa _ _ _ _ D o=>js λt z=>th (e:= .iK a) D t z)
  (λf _ i=>(EQ (p:=λh Q l=>al I (d+n) f l h Q) i (c f _ _ _ _ _):))
  (λk _ i=>(UH (k:=k) c i:))
  (λ_ m _ a i=>(aG8 (m:=m) c a i:))
  (λb _ i=>(SX (b:=b) i:))
  (λfr cs _ _ _ a b e=>(af7 (fr:=fr) (cs:=cs) a b e:))
  (λ_ a=>(FG a TI:))
  (λ_ g h _ _ D o t z=>z g h [] (G.le_refl g) D tI t)
  (λ_ _ a i _ _ _ _ _ D o t z=>a.v D o t λg1 h1 q l1 D1 K t=>i _ _ _ _ _ D1 (dJ l1 o) t λg2 h2 l l2 D2 ol t=>z g2 h2 (q::l) (G.le_trans l1 l2) D2 ⟨fL l2 q K,ol⟩ t)
  e
end
noncomputable def Hz(a:SV)(g:G)(K:List SV->Tr):Tr:=match a with
 |.aj l=>K l
 |.fl l=>K l
 |.op v=>sw v.ctorIdx 5 (oK (ua v) λl=> .ez (K<|l.map fj)<|K<|l.map dx) (sw v.ctorIdx 6 (oK (p_ v) λl=> .ez (K<|l.map fj)<|K<|l.map dx)<|oK (wI v) λl=> .jV (ef l)<|K<|l.map λi=> .int i<|.b 0 255)
 |.ref k _=>vQ g k K (gb g k (λ_ _=> .aR) (λl=> .ez (K<|l.map fj)<|K<|l.map dx) λ_=> .aR)
 |_=> .aR
noncomputable def tQ(C:qF)(n:Nat)(t:Tg):SV->SL->G->(SL->G->Tr)->Tr:=Tg.rec (motive_2:=λ_=>List SV->SL->G->(SL->G->Tr)->Tr)
 (λi v ρ g K=>km .aR ρ i (U v) λρ=>K ρ g)
 (λo f v ρ g K=>(rE C n o ρ g).v λw g=>FW w f v g λg=>K ρ g)
 (λo i v ρ g K=>(rE C n o ρ g).v λw g=>(rE C n i ρ g).v λj g=>Dr w j v g λg=>K ρ g)
 (λts ih v ρ g K=>Hz v g λl=>bK (bE l.length<|o9 ts)<|ih l ρ g K)
 λl ρ g K=>match l with|[]=>K ρ g|_=> .aR
 (λ_ _ ih a l ρ g K=>match l with|v::r=>ih v ρ g λρ g=>a r ρ g K|[]=> .aR) t
abbrev TS:=SL->G->(SF->SL->G->Tr)->Tr
noncomputable def CN(b:SV->TS)(l:List SV):TS:=QW (λρ g K=>K .next ρ g) (λv _ ih ρ g K=>b v ρ g λf ρ g=>match f with
 |.next=>ih ρ g K
 |.cont=>ih ρ g K
 |.brk=>K .next ρ g
 |.ret v=>K (.ret v) ρ g) l
noncomputable def B1(t:SL->G->(G->Tr)->(G->Tr)->Tr)(b:TS)(m:Nat):TS:=Gv (λ_ _ _=> .aR) (λ_ ih ρ g K=>t ρ g (λg=>b ρ g λf ρ g=>match f with
 |.next=>ih ρ g K
 |.cont=>ih ρ g K
 |.brk=>K .next ρ g
 |.ret v=>K (.ret v) ρ g) λg=>K .next ρ g) m
def zU(a b:SV)(K:SV->Tr):Tr:=a.i λi p=>b.i λj q=>K (.int (i+j)<|p.add q)
noncomputable def Af(o:jY):Bool:=match o with
 |.add=>aa
 |_=>ae
noncomputable def rS(C:qF)(n:Nat)(s:S):TS:=S.rec
 (λe ρ g K=>(rE C n e ρ g).v λ_ g=>K .next ρ g)
 (λt e ρ g K=>(rE C n e ρ g).v λv g=>tQ C n t v ρ g λρ g=>K .next ρ g)
 (λi o e ρ g K=>bK (Af o)<|gr .aR ρ i λx=>oK x λa=>(rE C n e ρ g).v λb g=>zU a b λv=>km .aR ρ i (U v) λρ=>K .next ρ g)
 (λa f o e ρ g K=>bK (Af o)<|(rE C n a ρ g).v λh g=>E9 h f g λx g=>(rE C n e ρ g).v λb g=>zU x b λv=>FW h f v g λg=>K .next ρ g)
 (λa i o e ρ g K=>bK (Af o)<|(rE C n a ρ g).v λh g=>(rE C n i ρ g).v λvi g=>DV h vi g λx g=>(rE C n e ρ g).v λb g=>zU x b λv=>Dr h vi v g λg=>K .next ρ g)
 (λt _ _ a b ρ g K=>(rE C n t ρ g).t (λg=>a ρ g K) λg=>b ρ g K)
 (λt b ih ρ g K=> .ez (B1 (λρ g=>(rE C n t ρ g).t) ih 12 ρ g K)<|.st n (.while t b) ρ g K)
 (λt q b ih ρ g K=> .ez ((rE C n q ρ g).i λl g=>CN (λv ρ g K=>tQ C n t v ρ g λρ g=>ih ρ g K) l ρ g K)<|.st n (.for t q b) ρ g K)
 (λe ρ g K=>(rE C n e ρ g).v λv g=>K (.ret v) ρ g)
 (λ_ _ _=> .aR)
 (λρ g K=>K .cont ρ g)
 (λρ g K=>K .next ρ g)
 (λ_ ih ρ g K=>ih ρ g K)
 (λi f ρ g K=>gr .aR ρ i λx=>oK x λv=>v.r λk x=>gb g k (λc fs=>wu .aR fs f λw=>w.r λj y=>bK (!bE j k)<|sH j y g λw g=>gb g k (λc fs=>zp fs f w λfs=>bw g k x (.aK c fs) λg=>K .next ρ g) (λ_=> .aR) λ_=> .aR) (λ_=> .aR) λ_=> .aR)
 (λi ρ g K=>gr .aR ρ i λx=>oK x λv=>v.r λk x=>sH k x g λw g=>km .aR ρ i (U w) λρ=>K .next ρ g)
 (λρ g K=>K .next ρ g)
 (λ_ _ ih p ρ g K=>ih ρ g λf ρ g=>match f with|.next=>p ρ g K|f=>K f ρ g) s
section
theorem BL: ∀l,ef l->bd (l.map λi=> .int i<|.b 0 255)=vi l/\bC g (l.map λi=> .int i<|.b 0 255)
 |[],_=>⟨rfl,tI⟩
 |v::r,o=>have w:=BL r λi m=>o i (.tail _ m);⟨aA (_) w.1,o v<|.head _,w.2⟩
theorem av0{K}{P:List V->Prop}(D:Hd hb B g h)(o:aN g a)(t:av d hb B F<|Hz a g K)(z: ∀l,bC g l->av d hb B F (K l)->P (bd l)):jp h P<|den a:=by
 have up: ∀l:List V,av d hb B F (.ez (K<|l.map fj)<|K<|l.map dx)->P l:=λl t=>iF t (λt=>by
  have w:=z (l.map fj) (rx l).2 t
  rw[(rx (g:=g) l).1] at w;exact w) λt=>by
  have w:=z (l.map dx) (pN l).2 t
  rw[(pN (g:=g) l).1] at w;exact w
 exact match a,o,t with
 |.aj l,o,t=> .BY (z l o t)
 |.fl l,o,t=> .JA (z l o t)
 |.op v,_,t=>eB t (λ_ t=>ca t λl e t=>by rw[vR e];exact .BY<|up l t) λt=>eB t (λ_ t=>ca t λl e t=>by rw[uu e];exact .JA<|up l t) λt=>ca t λl e t=>by
   have t:=uz t
   rw[yt e]
   have w:=z _ (BL l t.1).2 t.2
   rw[(BL (g:=g) l t.1).1] at w
   exact .aN8 w
 |.ref k x,o,t=>xI D o t (λl _ hx ol t=> .PX hx<|z l ol t) λt=>gD D o t (λ_ _ _ _ _ t=>t.elim) (λ_ l _ _ hx t=> .PX hx<|up l t) λ_ _ _ t=>t.elim
 |.int ..,_,t=>t.elim
abbrev Kr(d:Nat)(hb:H)(B:List ai)(F:SF->SL->G->Prop)(g:G)(K:SL->G->Tr)(P:L->H->Prop):Prop:= ∀b h' a,G.le g b->Hd hb B b h'->a8 b a->av d hb B F (K a b)->P (aq a) h'
abbrev Kf(d:Nat)(hb:H)(B:List ai)(F:SF->SL->G->Prop)(g:G)(K:SF->SL->G->Tr)(P:Fl->L->H->Prop):Prop:= ∀b h' a f,G.le g b->Hd hb B b h'->a8 b a->zv b f->av d hb B F (K f a b)->P (wN f) (aq a) h'
theorem Kf.up{K}(z:Kf d hb B F g K P)(l:G.le g h):Kf d hb B F h K P:=λg2 h2 a f m=>z g2 h2 a f (G.le_trans l m)
theorem Gk{K}{P:V->H->Prop}(c:aN g a)(ob:aN g b)(t:av d hb B F<|zU a b K)(z: ∀v,aN g v->av d hb B F (K v)->P (den v) h):mh h P .add (den a)<|den b:=
 SV.fV t c λi p ea f t=>SV.fV t ob λj q eb e t=>by rw[ea,eb];exact .al8 (z (.int (i+j)<|p.add q) (Bd.Dq f e) t)
theorem FU(h:av d hb B F<|bK (Af o) t):o= .add/\av d hb B F t:=have h:=hR h;⟨by cases o <;>first|rfl|exact fy h.1,h.2⟩
variable(c:qp d hb B F C<|al I<|d+n)
include c
def AO(d:Nat)(hb:H)(B:List ai)(F:SF->SL->G->Prop)(r:SV->SL->G->(SL->G->Tr)->Tr)(m:V->L->H->(L->H->Prop)->Prop):Prop:= ∀v ρ g h K P,Hd hb B g h->a8 g ρ->aN g v->av d hb B F (r v ρ g K)->Kr d hb B F g K P->m (den v) (aq ρ) h P
def Yj(d:Nat)(hb:H)(B:List ai)(F:SF->SL->G->Prop)(C:qF)(n:Nat)(ts:ia):Prop:= ∀l ρ g h K P,bE l.length (o9 ts)=aa->Hd hb B g h->a8 g ρ->bC g l->av d hb B F (tQ C n (.aj ts) (.aj l) ρ g K)->Kr d hb B F g K P->lQ I (al I<|d+n) ts (bd l) (aq ρ) h P
theorem Fo t:AO d hb B F (tQ C n t)<|af I (al I<|d+n) t:=
 Tg.rec (motive_1:=λt=>AO d hb B F (tQ C n t)<|af I (al I<|d+n) t) (motive_2:=Yj d hb B F C n)
  (λi v ρ g h K P D o ov t z=>tR t λ_ _ t=>(zX ρ i v▸z g h _ (G.le_refl g) D (Ft o ov) t:P (cX (aq ρ) i<|den v) h))
  (λe f v ρ g h K P D o ov t z=>(iy c e).v D o t λg1 h1 w l1 D1 a t=>Ir D1 a (fL l1 v ov) t λg2 h2 l2 D2 t=>z g2 h2 ρ (G.le_trans l1 l2) D2 (dJ (G.le_trans l1 l2) o) t)
  (λe i v ρ g h K P D o ov t z=>V2 (iy c e) (iy c i) D o t λg2 h2 w j l D2 a q t=>Kt D2 a q (fL l v ov) t λu h3 l3 s t=>z u h3 ρ (G.le_trans l l3) s (dJ (G.le_trans l l3) o) t)
  (λts ih v ρ g h K P D o ov t z=>av0 D ov t λl ol t=>by
   have w:=hR t
   rw[mM,w.1]
   exact ih l _ _ _ _ _ w.1 D o ol t z)
  (λl ρ g h K P e D o ol t z=>by
   cases l
   ·exact z g h ρ (G.le_refl g) D o t
   ·exact rY e)
  (λ_ ts ih b l ρ g h K P e D o ol t z=>by
   cases l
   ·exact rY e
   ·exact ih _ _ _ _ _ _ D o ol.1 (hR t).2 λg1 h1 y l1 D1 o1 t=>b _ _ _ _ _ _ e D1 o1 (rI l1 _ ol.2) (show av d hb B F (bK (bE _ _) _) from e▸t) λg2 h2 p l2=>z g2 h2 p<|G.le_trans l1 l2)
  t
end
section
variable{X:Prop}{h:H}
theorem H8{K}(D:Hd hb B g h)(t:av d hb B F<|.st n s ρ g K)(z:Kf d hb B F g K P):ex I (al I<|d+n) s (aq ρ) h P:=
 BF (C:=tf d hb B n s ρ g) (h:=λv=>av d hb B F<|K v.1 v.2.1 v.2.2) t λα p r a t=>a.2 h P D λx h' b D'=>have w:=a.1 x b;z _ h' (r x).2.1 (r x).1 w.2.2 D' w.2.1 w.1 (t x b)
def ja(d:Nat)(hb:H)(B:List ai)(F:SF->SL->G->Prop)(r:TS)(m:L->H->(Fl->L->H->Prop)->Prop):Prop:= ∀ρ g h K P,Hd hb B g h->a8 g ρ->av d hb B F (r ρ g K)->Kf d hb B F g K P->m (aq ρ) h P
def FO(d:Nat)(hb:H)(B:List ai)(F:SF->SL->G->Prop)(r:SV->TS)(m:V->L->H->(Fl->L->H->Prop)->Prop):Prop:= ∀v ρ g h K P,Hd hb B g h->a8 g ρ->aN g v->av d hb B F (r v ρ g K)->Kf d hb B F g K P->m (den v) (aq ρ) h P
theorem Ng{W:H->Prop}{a:TS}{K}(D:Hd hb B g h)(o:a8 g ρ)(of:zv g f)(t:av d hb B F (match(generalizing:=false) f with
  |.next=>a ρ g K
  |.cont=>a ρ g K
  |.brk=>K .next ρ g
  |.ret v=>K (.ret v) ρ g))(w:av d hb B F (a ρ g K)->W h)(z:Kf d hb B F g K P):match(generalizing:=false) wN f with
   |.next=> ∃h',H.le h' h/\W h'
   |.cont=> ∃h',H.le h' h/\W h'
   |.brk=>P .next (aq ρ) h
   |.ret v=>P (.ret v) (aq ρ) h:=by
 cases f
 ·exact⟨h,H.le_refl h,w t⟩
 ·exact z g h ρ .next (G.le_refl g) D o tI t
 ·exact⟨h,H.le_refl h,w t⟩
 ·exact z g h ρ (.ret v) (G.le_refl g) D o of t
theorem Zt(k:FO d hb B F b j)(l): ∀{ρ:SL} {g:G} {h:H} {K:SF->SL->G->Tr} {P:Fl->L->H->Prop},Hd hb B g h->a8 g ρ->bC g l->av d hb B F (CN b l ρ g K)->Kf d hb B F g K P->dg j bP (bd l) (aq ρ) h P:=by
 induction l with
 |nil=>exact λD o _ t z=>⟨tI,z _ _ _ .next (G.le_refl _) D o tI t⟩
 |cons v r i=>exact λD o ol t z=>⟨tI,k _ _ _ _ _ _ D o ol.1 t λg1 h1 a f l1 D1 o1 of t=>Ng D1 o1 of t (λt=>i D1 o1 (rI l1 r ol.2) t<|z.up l1)<|z.up l1⟩
theorem H.ae8{a b}(e:b≠a):(h.k_ a) b=h b:=aE e
theorem av1{c d j a}(e:U (O.aK c j)=U (O.aK d a)):c=d/\j=a:=by cases e;exact⟨rfl,rfl⟩
theorem W0{p:SO}(t:av d hb B F<|p.in l j a):p.lv:=by cases p <;>first|exact tI|exact t
theorem UP(D:Hd hb B g h)(e:ah g k=U (x,o))(f: ∃p,ah g j=U (y,p))(n:(!bE j k)=aa)(lv:o.lv)(t:av d hb B F<|sH j y g K):x≠y:=λq=>
 f.elim λp f=>kY t λr er t=>by
  have a:=bM (f.symm.trans er)
  subst a
  rw[D.inj j k x p o (q▸f) e (W0 t) lv,AP] at n
  exact rY n
theorem aK0(a:EO d hb B F r m)(k:ja d hb B F b j)(i:Nat):ja d hb B F (B1 (λρ g=>(r ρ g).t) b i)<|iZ (λρ h T F=>(m ρ).t h T F) j i:=by
 induction i with
 |zero=>exact λ_ _ _ _ _ _ _ t _=>t.elim
 |succ i ih=>exact λρ g h K P D o t z=>a.t D o t (λg0 h0 l0 c t=>k _ _ _ _ _ c (dJ l0 o) t λg1 h1 e f l1 D1 o1 of t=>have z:=(z.up l0).up l1;Ng D1 o1 of t (λt=>ih _ _ _ _ _ D1 o1 t z) z) λg0 h0 l0 c t=>z g0 h0 ρ .next l0 c (dJ l0 o) tI t
theorem C2(o:a8 g ρ)(t:av d hb B F<|gr .aR ρ i λx=>oK x k)(z: ∀v,ah (aq ρ) i=U (U<|den v)->aN g v->av d hb B F (k v)->X):X:=
 kY t λw ew t=>ca t λv ev t=>z v (re<|ev▸ew) (o i v<|ev▸ew) t
theorem ac8(a:EO d hb B F l<|ao I Z x)(b:ja d hb B F j<|aZ I Z y)(c:ja d hb B F p<|aZ I Z w):ja d hb B F (λρ g K=>(l ρ g).t (λg=>j ρ g K) λg=>p ρ g K)<|ex I Z<|.ite x y w:=
 λ_ _ _ _ _ D o t z=>a.t D o t (λg1 h1 l1 D1 t=>b _ _ _ _ _ D1 (dJ l1 o) t<|z.up l1) λg1 h1 l1 D1 t=>c _ _ _ _ _ D1 (dJ l1 o) t (z.up l1)
theorem ae1(a:EO d hb B F l<|ao I (al I<|d+n) x)(b:ja d hb B F j<|aZ I (al I<|d+n) y):ja d hb B F (λρ g K=> .ez (B1 (λρ g=>(l ρ g).t) j 12 ρ g K)<|.st n (.while x y) ρ g K)<|ex I (al I<|d+n)<|.while x y:=
 λ_ _ _ _ _ D o t z=>iF t (λt=>⟨12,aK0 a b 12 _ _ _ _ _ D o t z⟩) λt=>H8 D t z
theorem Wc(a:EO d hb B F u<|ao I (al I<|d+n) x)(k:AO d hb B F j<|af I (al I<|d+n) t)(b:ja d hb B F p<|aZ I (al I<|d+n) y):ja d hb B F (λρ g K=> .ez ((u ρ g).i λl g=>CN (λv ρ g K=>j v ρ g λρ g=>p ρ g K) l ρ g K)<|.st n (.for t x y) ρ g K)<|ex I (al I<|d+n)<|.for t x y:=
 λ_ _ _ _ _ D o t z=>iF t (λt=>a.i D o t λg1 h1 l l1 D1 ol t=>Zt (λv ρ g h K P D o ov t z=>k _ _ _ _ _ _ D o ov t λg1 h1 c l1 D1 o1 t=>b _ _ _ _ _ D1 o1 t<|z.up l1) l D1 (dJ l1 o) ol t<|z.up l1) λt=>H8 D t z
theorem aq0(a:ja d hb B F l<|ex I Z x)(b:ja d hb B F j<|aZ I Z y):ja d hb B F (λρ g K=>l ρ g λf ρ g=>match f with|.next=>j ρ g K|f=>K f ρ g)<|aZ I Z<|.cons x y:=
 λ_ _ _ _ _ D o t z=>a _ _ _ _ _ D o t λg1 h1 c f l1 D1 o1 of t=>by
  cases f
  ·exact b _ _ _ _ _ D1 o1 t (z.up l1)
  ·exact z g1 h1 c .brk l1 D1 o1 tI t
  ·exact z g1 h1 c .cont l1 D1 o1 tI t
  ·exact z g1 h1 c (.ret v) l1 D1 o1 of t
variable(c:qp d hb B F C<|al I<|d+n)
include c
theorem tz s:ja d hb B F (rS C n s)<|ex I (al I<|d+n) s:=
 S.rec (motive_1:=λs=>ja d hb B F (rS C n s)<|ex I (al I<|d+n) s) (motive_2:=λb=>ja d hb B F (rS C n<|.tr b)<|aZ I (al I<|d+n) b)
  (λe ρ g h K P D o t z=>(iy c e).v D o t λg1 h1 v l1 D1 ov t=>z g1 h1 ρ .next l1 D1 (dJ l1 o) tI t)
  (λp e ρ g h K P D o t z=>(iy c e).v D o t λg1 h1 v l1 D1 ov t=>Fo c p _ _ _ _ _ _ D1 (dJ l1 o) ov t λg2 h2 W l2 D2 o2 t=>z g2 h2 W .next (G.le_trans l1 l2) D2 o2 tI t)
  (λi op e ρ g h K P D o t z=>have w:=FU t;C2 o w.2 λv ev ov t=>by
   show gh _ _ _
   unfold gh
   rw[ev,w.1]
   exact(iy c e).v D o t λg1 h1 vb l1 D1 ob t=>Gk (fL l1 v ov) ob t λu Q t=>tR t λ_ _ t=>(zX ρ i u▸z g1 h1 _ .next l1 D1 (Ft (dJ l1 o) Q) tI t:P .next (cX (aq ρ) i<|den u) h1))
  (λa f op e ρ g h K P D o t z=>have w:=FU t;by
   rw[w.1]
   exact(iy c a).v D o w.2 λg1 h1 Z l1 D1 N t=>Kc D1 N t λg2 h2 x l2 D2 ox t=>(iy c e).v D2 (dJ (G.le_trans l1 l2) o) t λg3 h3 vb l3 T ob t=>Gk (fL l3 x ox) ob t λu Q t=>
    Ir T (fL (G.le_trans l2 l3) Z N) Q t λg4 h4 l4 D4 t=>have l:=G.le_trans l1 (G.le_trans l2<|G.le_trans l3 l4);z g4 h4 ρ .next l D4 (dJ l o) tI t)
  (λa i op e ρ g h K P D o t z=>have w:=FU t;by
   rw[w.1]
   exact V2 (iy c a) (iy c i) D o w.2 λg2 h2 Z vi l2 D2 N oi t=>Mb D2 N oi t λg3 h3 x l3 T ox t=>(iy c e).v T (dJ (G.le_trans l2 l3) o) t λg4 h4 vb l4 D4 ob t=>Gk (fL l4 x ox) ob t λu Q t=>
    have l:=G.le_trans l3 l4;Kt D4 (fL l Z N) (fL l vi oi) Q t λg5 h5 l5 D5 t=>have l:=G.le_trans l2 (G.le_trans l l5);z g5 h5 ρ .next l D5 (dJ l o) tI t)
  (λe _ _ a b=>(ac8 (iy c e) a b:))
  (λe _ b=>(ae1 (iy c e) b:))
  (λt e _ b=>(Wc (iy c e) (Fo c t) b:))
  (λe ρ g h K P D o t z=>(iy c e).v D o t λg1 h1 v l1 D1 ov t=>z g1 h1 ρ (.ret v) l1 D1 (dJ l1 o) ov t)
  (λ_ _ _ _ _ _ _ t _=>t.elim)
  (λρ g h K P D o t z=>z g h ρ .cont (G.le_refl g) D o tI t)
  (λρ g h K P D o t z=>z g h ρ .next (G.le_refl g) D o tI t)
  (λ_ ih=>ih)
  (λi f ρ g h K P D o t z=>C2 o t λv ev ov t=>by
   show gh _ _ _
   unfold gh
   rw[ev]
   exact SV.iD t ov λk x e oc t=>gD D oc t (λc fs en hx ok t=>Qh t λw ew t=>SV.iD t (ok f w ew) λj y ey oj t=>have t:=hR t;by
    rw[e]
    refine .mk hx ((IR ew).trans<|aA U ey) (JD D oj t.2 λg1 w l1 D1 ow p=>gD D1 (l1 _ _ _ en) p (λc' fs' en' A ok' p=> ?_) (λ_ _ _ _ _ t=>t.elim) λ_ _ _ t=>t.elim)
    have q:=av1 (hx.symm.trans<|(H.ae8<|UP D en oj t.1 tI t.2).symm.trans A)
    rw[MI] at p
    rw[q.1,q.2]
    exact⟨A,Nk fs' f w▸tM D1 en' p tI rfl (λm v e=>(Pu e).elim (ok' m v) λq=>q▸ow) λg2 l2 D2 t=>z g2 _ ρ .next (G.le_trans l1 l2) D2 (dJ (G.le_trans l1 l2) o) tI t⟩) (λ_ _ _ _ _ t=>t.elim) λ_ _ _ t=>t.elim)
  (λi ρ g h K P D o t z=>C2 o t λv ev ov t=>by
   show gh _ _ _
   unfold gh
   rw[ev]
   exact SV.iD t ov λk x e oc t=>by
    rw[e]
    exact .mk<|B3 D oc t λg1 h1 w l1 D1 ow t=>tR t λ_ _ t=>(zX ρ i w▸z g1 h1 _ .next l1 D1 (Ft (dJ l1 o) ow) tI t:P .next (cX (aq ρ) i<|den w) h1))
  (λρ g h K P D o t z=>z g h ρ .next (G.le_refl g) D o tI t)
  (λ_ _ a b=>(aq0 a b:))
  s
end
def E5(f:Fn)(vs:List SV):Option SL:=if vs.length<=f.np/\f.np<=vs.length+f.gS.length then
  U ((vs++(f.gS.drop<|f.gS.length -(f.np -vs.length)).map fj).map U++gn (f.nl -f.np) Y)
 else Y
noncomputable def rC(stop:List Nat):Nat->qF
 |0,_,_,_,_=> .aR
 |n+1,f,vs,g,K=>cond (stop.contains f) (.call (n+1) f vs g K) <|oK (I.fn f) λfn=>oK (E5 fn vs) λρ=>rS (rC stop n) n (.tr fn.body) ρ g λf _ g=>match f with
   |.ret v=>K v g
   |_=>K (.op .none) g
section
theorem av4{f}{vs}{K}{Q}(D:Hd hb B g h)(t:av d hb B F<|.call n f vs g K)(z:Kq d hb B F g K Q):al I (d+n) f (bd vs) h Q:=
 BF (C:=lR d hb B n f vs g) (h:=λv=>av d hb B F<|K v.1<|d9 g v.2) t λα p r a t=>a.2 h Q D λx h' b D'=>have l:=i6 (r x).2 g;z _ h' (r x).1 l D' (fL l _<|a.1 x b) (t x b)
theorem OU: ∀(l m:List SV),bd (l++m)=bd l++bd m
 |[],_=>rfl
 |_::r,m=>aA (_) (OU r m)
theorem IW(m:Nat): ∀l:List SV,aq (l.map U++gn m Y)=(bd l).map U++gn m Y
 |[]=>by
  show(gn m<|Y).map (uM den)=_
  rw[List.map_replicate];rfl
 |_::r=>aA (_) (IW m r)
theorem Po{α:Type}{v:α}: ∀{m i:Nat},ah (gn m Y) i≠U (U v)
 |0,_,e=>bf e
 |_+1,0,e=>bf (bM e)
 |m+1,i+1,e=>Po (m:=m) (i:=i) e
theorem aF9{m}{l:List SV}(o:bC g l):a8 g<|l.map U++gn m Y:=by
 induction l with
 |nil=>exact λ_ _ e=>absurd e Po
 |cons w r ih=>
  intro i v e
  cases i
  ·exact bM (bM e)▸o.1
  ·exact ih o.2 _ v e
theorem K2: ∀{l m:List SV},bC g l->bC g m->bC g (l++m)
 |[],_,_,k=>k
 |_::_,_,o,k=>⟨o.1,K2 o.2 k⟩
theorem YI{f}{vs}{ρ}(o:bC g vs)(e:E5 f vs=U ρ):oz f (bd vs)=U (aq ρ)/\a8 g ρ:=by
 unfold E5 at e
 unfold oz
 rw[mM]
 by_cases c:vs.length<=f.np/\f.np<=vs.length+f.gS.length
 ·rw[aM c] at e⊢
  have e:=bM e
  subst e
  have w:=rx (g:=g) (f.gS.drop<|f.gS.length -(f.np -vs.length))
  exact⟨by rw[IW,OU,w.1],aF9<|K2 o w.2⟩
 ·rw[aE c] at e
  exact bf e
theorem mr(stop:List Nat): ∀n,qp d hb B F (rC stop n) (al I<|d+n)
 |0=>λ_ _ _ _ _ _ _ _ t _=>t.elim
 |n+1=>λf vs g h K Q D o t z=>L2 t (λ_ t=>av4 D t z) λ_ t=>ca t λfn c t=>ca t λρ eb t=>
  have b:=YI o eb
  e_ c b.1 (tz (mr stop n) (.tr fn.body) _ _ _ _ _ D b.2 t λg1 h1 a f l1 D1 o1 of t=>⟨h1,H.le_refl h1,by
   cases f
   ·exact z g1 h1 (.op .none) l1 D1 tI t
   ·exact z g1 h1 (.op .none) l1 D1 tI t
   ·exact z g1 h1 (.op .none) l1 D1 tI t
   ·exact z g1 h1 v l1 D1 of t⟩)
end
inductive bI:Type 1 where
 |v (w:SV)
 |u
 |n
 |z
 |t
 |f
 |d (v:SV) (u:List<|Nat×SO)
 |c (α:Type) (p:G->α->Prop) (r:G->α->SV×List (Nat×SO))
 |s (α:Type) (p:α->Prop) (r:G->α->SF×SL×G)
noncomputable def tg(x:bI):Nat:=bI.casesOn x (λ_=>0) 1 2 3 4 5 (λ_ _=>6) (λ_ _ _=>7) λ_ _ _=>8
def e9(p:List Bool)(x y:List Bool->Prop):Prop:=uO p False λb r=>cond b (x r) (y r)
def YU(p:List Bool)(x:Prop):Prop:=uO p x λ_ _=>False
def yQ(h:List bI)(k:bI->List bI->Prop):Prop:=uO h False λx r=>cond (bE (tg x) 3) (uO r False λy q=>k y<|x::q) (k x r)
def hv(h:List bI)(k:SV->List bI->Prop)(c:(α:Type)->(G->α->Prop)->(G->α->SV×List (Nat×SO))->List bI->Prop):Prop:=yQ h λx r=>bI.casesOn x (λw=>k w r) False False False False False (λ_ _=>False) (λa p q=>c a p q r) λ_ _ _=>False
def hc(h:List bI)(kd:SV->List (Nat×SO)->List bI->Prop)(k:(α:Type)->(G->α->Prop)->(G->α->SV×List (Nat×SO))->List bI->Prop):Prop:=yQ h λx r=>bI.casesOn x (λ_=>False) False False False False False (λv u=>kd v u r) (λa p q=>k a p q r) λ_ _ _=>False
def CD(h:List bI)(k:(α:Type)->(α->Prop)->(G->α->SF×SL×G)->List bI->Prop):Prop:=yQ h λx r=>bI.casesOn x (λ_=>False) False False False False False (λ_ _=>False) (λ_ _ _=>False) λa p q=>k a p q r
def ha(h:List bI)(a b:List bI->Prop):Prop:=uO h (b h) λx r=>cond (bE (tg x) 1) (a r) (cond (bE (tg x) 2) (b r)<|cond (bE (tg x) 3) (a h)<|b h)
def v7(h:List bI)(a b:List bI->Prop)(c:Prop):Prop:=uO h c λx r=>cond (bE (tg x) 4) (a r) (cond (bE (tg x) 5) (b r) c)
section
variable(d:Nat)(hb:H)(B:List ai)(F:SF->SL->G->Prop)
def lf(t:Tr):List bI->List Bool->Prop:=Tr.rec (λ_ _=>False) (λx ρ g _ p=>YU p<|F x ρ g)
 (λp _ _ a b hs l=>v7 hs (λq=>e9 l (λ_=>p)<|a q) (λq=>e9 l (λ_=> ¬p)<|b q)<|e9 l (λr=>p->a hs r) λr=> ¬p->b hs r) (λp _ t hs l=>e9 l (λ_=>p)<|t hs) (λ_ k hs l=> ∀a,k a hs l)
 (λT g _ k hs l=>hv hs (λw hs=>e9 l (λ_=>T (den w)/\aN g w)<|k w hs) λα p r hs=>e9 l (λ_=> ∃y,p g y/\T (den (r g y).1)/\aN g (r g y).1) λq=> ∀y,p g y->k (r g y).1 hs q)
 (λ_ _ a b hs l=>ha hs (λq=>a q l) λq=>b q l)
 (λn f vs g _ k hs l=>hc hs (λv u hs=>e9 l (λ_=>il d hb B n f vs g v u)<|k v (d9 g u) hs) λα p r hs=>e9 l (λ_=>lR d hb B n f vs g α (p g)<|r g) λq=> ∀y,p g y->k (r g y).1 (d9 g (r g y).2) hs q)
 (λn e ρ g _ k hs l=>hc hs (λv u hs=>e9 l (λ_=>vW d hb B n e ρ g v u)<|k v (d9 g u) hs) λα p r hs=>e9 l (λ_=>wF d hb B n e ρ g α (p g)<|r g) λq=> ∀y,p g y->k (r g y).1 (d9 g (r g y).2) hs q)
 (λn s ρ g _ k hs l=>CD hs λα p r hs=>e9 l (λ_=>tf d hb B n s ρ g α p<|r g) λq=> ∀y,p y->k (r g y).1 (r g y).2.1 (r g y).2.2 hs q) t
end
inductive dG (f:List Bool->Prop):List Bool->Prop where
 |d {p:List Bool}:f p.reverse->dG f p
 |b {p:List Bool}:dG f (aa::p)->dG f (ae::p)->dG f p
theorem dG.c{f}{p}(x:f (aa::p).reverse)(y:dG f<|ae::p):dG f p:= .b (.d x) y
theorem dG.go{f}{p}{x:List Bool->Prop}{X:Prop}(t:dG f p)(k: ∀r,f (p.reverse++r)->x r)(z0:x []->X)(z:dG f (aa::p)->dG f (ae::p)->(∀r,f ((aa::p).reverse++r)->x (aa::r))->(∀r,f ((ae::p).reverse++r)->x (ae::r))->X):X:=by
 cases t with
 |d a=>exact z0 (k []<|by rw[c8];exact a)
 |b a b=>exact z a b (λr y=>k _<|by rw[pv,aX] at y;exact y) λr y=>k _ (by rw[pv,aX] at y;exact y)
section
theorem dG.ne{f}{p}(t:dG f p): ∃r,f<|p.reverse++r:=by
 induction t with
 |d a=>exact⟨[],by rw[c8];exact a⟩
 |b _ _ ih _=>exact ih.elim λr y=>⟨aa::r,by rw[pv,aX] at y;exact y⟩
section
variable{f:List Bool->Prop}{X:Prop}(ne: ∃r,f r)
include ne
theorem vc(k: ∀r,f r->False):X:=ne.elim λr y=>(k r y).elim
theorem E7{Yqv:bI->List bI->List Bool->Prop}(k: ∀r,f r->yQ a λx q=>Yqv x q r)(z: ∀x q,(∀r,f r->Yqv x q r)->X):X:=by
 cases a with
 |nil=>exact vc ne k
 |cons x r=>
  have k: ∀q,f q->cond (bE (tg x) 3) (uO r False λy s=>Yqv y (x::s) q) (Yqv x r q):=k
  cases e:bE (tg x) 3 <;>rw[e] at k
  ·exact z x r k
  ·cases r with
   |nil=>exact vc ne k
   |cons y s=>exact z y (x::s) k
theorem ap5{D:SV->List bI->List Bool->Prop}{Yqv:(α:Type)->(G->α->Prop)->(G->α->SV×List (Nat×SO))->List bI->List Bool->Prop}(k: ∀r,f r->hv h (λw h=>D w h r) λα p q h=>Yqv α p q h r)
  (d: ∀w h,(∀r,f r->D w h r)->X) (z: ∀α p q h,(∀r,f r->Yqv α p q h r)->X):X:=E7 ne k λx q k=>by
 have no:=vc (X:=X) ne
 revert k
 exact bI.casesOn x (λw k=>d w q k) no no no no no (λ_ _=>no) (λa p r k=>z a p r q k) λ_ _ _=>no
theorem aK3{D:SV->List (Nat×SO)->List bI->List Bool->Prop}{Yqv:(α:Type)->(G->α->Prop)->(G->α->SV×List (Nat×SO))->List bI->List Bool->Prop}(k: ∀r,f r->hc h (λv u h=>D v u h r) λα p q h=>Yqv α p q h r)
  (d: ∀v u h,(∀r,f r->D v u h r)->X) (z: ∀α p q h,(∀r,f r->Yqv α p q h r)->X):X:=E7 ne k λx q k=>by
 have no:=vc (X:=X) ne
 revert k
 exact bI.casesOn x (λ_=>no) no no no no no (λv u k=>d v u q k) (λa p r k=>z a p r q k) λ_ _ _=>no
theorem Wx{Yqv:(α:Type)->(α->Prop)->(G->α->SF×SL×G)->List bI->List Bool->Prop}(k: ∀r,f r->CD h λα p q h=>Yqv α p q h r)(z: ∀α p q h,(∀r,f r->Yqv α p q h r)->X):X:=E7 ne k λx q k=>by
 have no:=vc (X:=X) ne
 revert k
 exact bI.casesOn x (λ_=>no) no no no no no (λ_ _=>no) (λ_ _ _=>no) λa p r k=>z a p r q k
omit ne
theorem wj{b}{A C:List Bool->Prop}(k: ∀r,f r->cond b (A r) (C r))(a:(∀r,f r->A r)->X)(kc:(∀r,f r->C r)->X):X:=by
 cases b
 ·exact kc k
 ·exact a k
theorem VS{A C:List bI->List Bool->Prop}(k: ∀r,f r->ha h (λq=>A q r) λq=>C q r)(a: ∀q,(∀r,f r->A q r)->X)(kc: ∀q,(∀r,f r->C q r)->X):X:=by
 cases h with
 |nil=>exact kc _ k
 |cons x r=>exact wj k (a _) λk=>wj k (kc _) λk=>wj k (a _) (kc _)
theorem Yt{A C:List bI->List Bool->Prop}{E:List Bool->Prop}(k: ∀r,f r->v7 h (λq=>A q r) (λq=>C q r) (E r))(b: ∀q,(∀r,f r->A q r)->X)(kc: ∀q,(∀r,f r->C q r)->X)(a:(∀r,f r->E r)->X):X:=by
 cases h with
 |nil=>exact a k
 |cons x r=>exact wj k (b _) λk=>wj k (kc _) a
end
def LO(d:Nat)(hb:H)(B:List ai)(F:SF->SL->G->Prop)(m:List bI->List Bool->Prop)(t:Tr):Prop:= ∀f l hs,(∀r,f (l.reverse++r)->m hs r)->dG f l->av d hb B F t
theorem dG.bq{X:Prop}{f}{l}{x:Prop}{y}(t:dG f l)(k: ∀r,f (l.reverse++r)->e9 r (λ_=>x) y)(z:x->dG f (ae::l)->(∀r,f ((ae::l).reverse++r)->y r)->X):X:=t.go k AN λa b e g=>z (a.ne.elim e) b g
theorem TM{p:Prop}(a:LO d hb B F h o)(b:LO d hb B F mb j):LO d hb B F (λhs l=>v7 hs (λq=>e9 l (λ_=>p)<|h q) (λq=>e9 l (λ_=> ¬p)<|mb q)<|e9 l (λr=>p->h hs r) λr=> ¬p->mb hs r)<|.br p o j:=
 λ_ _ hs k s=>Yt k (λhs k=>s.bq k λx s k=>⟨λ_=>a _ _ hs k s,λy=>(y x).elim⟩) (λhs k=>s.bq k λx s k=>⟨λy=>(x y).elim,λ_=>b _ _ hs k s⟩) λk=>s.go k AN λx y e c=>⟨λq=>a _ _ hs (λr y=>e r y q) x,λq=>b _ _ hs (λr y=>c r y q) y⟩
theorem Wa{m:SV->List bI->List Bool->Prop}{k:SV->Tr}(a: ∀v,LO d hb B F (m v)<|k v):LO d hb B F (λhs l=>hv hs (λw hs=>e9 l (λ_=>T (den w)/\aN g w)<|m w hs) λα p r hs=>e9 l (λ_=> ∃y,p g y/\T (den (r g y).1)/\aN g (r g y).1) λq=> ∀y,p g y->m (r g y).1 hs q)<|.QJ T g k:=
 λ_ _ hs k s=>ap5 s.ne k (λw hs k=>s.bq k λx s k=>⟨w,x,a w _ _ hs k s⟩) λα p r hs k=>s.bq k λx s k=>x.elim λy w=>⟨(r g y).1,w.2,a _ _ _ hs (λq z=>k q z y w.1) s⟩
theorem ae3(a:LO d hb B F o j)(b:LO d hb B F mb h):LO d hb B F (λhs l=>ha hs (λq=>o q l) λq=>mb q l)<|.ez j h:=
 λ_ _ _ k s=>VS k (λhs k=> .inl<|a _ _ hs k s) λhs k=> .inr (b _ _ hs k s)
theorem U5{p:Prop}(a:LO d hb B F m t):LO d hb B F (λhs l=>e9 l (λ_=>p)<|m hs)<|.jV p t:=λ_ _ hs k s=>s.bq k λx s k=>⟨x,a _ _ hs k s⟩
theorem Pe{l f a}{m:SV->G->List bI->List Bool->Prop}{t:SV->G->Tr}{h:SV->List (Nat×SO)->Prop}{cp:(α:Type)->(α->Prop)->(α->SV×List (Nat×SO))->Prop}(ih: ∀v g,LO d hb B F (m v g)<|t v g)
  (k: ∀r,f (l.reverse++r)->hc a (λv u a=>e9 r (λ_=>h v u)<|m v (d9 g u) a) λα p q a=>e9 r (λ_=>cp α (p g)<|q g) λl=> ∀y,p g y->m (q g y).1 (d9 g (q g y).2) a l) (s:dG f l)
  (kd: ∀v u,h v u->cp Unit (λ_=>True) λ_=>(v,u)): ∃(α:Type) (p:α->Prop) (r:α->SV×List (Nat×SO)),cp α p r/\ ∀x,p x->av d hb B F (t (r x).1<|d9 g (r x).2):=
 aK3 s.ne k (λv u a k=>s.bq k λx s k=>⟨_,_,_,kd v u x,λ_ _=>ih _ _ _ _ a k s⟩) λα p r a k=>s.bq k λx s k=>⟨_,_,_,x,λv b=>ih _ _ _ _ a (λq y=>k q y v b) s⟩
theorem aD8{m:SV->G->List bI->List Bool->Prop}{k:SV->G->Tr}(a: ∀v g,LO d hb B F (m v g)<|k v g):LO d hb B F (λhs l=>hc hs (λv u hs=>e9 l (λ_=>il d hb B n f vs g v u)<|m v (d9 g u) hs) λα p r hs=>e9 l (λ_=>lR d hb B n f vs g α (p g)<|r g) λq=> ∀y,p g y->m (r g y).1 (d9 g (r g y).2) hs q)<|.call n f vs g k:=
 λ_ _ _ k s=>Pe (cp:=lR d hb B n f vs g) a k s λv u x=>⟨λ_ _=>x.1,λh Q D k=>x.2 h Q D λh'=>k () h' tI⟩
theorem S5{m:SV->G->List bI->List Bool->Prop}{k:SV->G->Tr}(a: ∀v g,LO d hb B F (m v g)<|k v g):LO d hb B F (λhs l=>hc hs (λv u hs=>e9 l (λ_=>vW d hb B n e ρ g v u)<|m v (d9 g u) hs) λα p r hs=>e9 l (λ_=>wF d hb B n e ρ g α (p g)<|r g) λq=> ∀y,p g y->m (r g y).1 (d9 g (r g y).2) hs q)<|.ex n e ρ g k:=
 λ_ _ _ k s=>Pe (cp:=wF d hb B n e ρ g) a k s λv u x=>⟨λ_ _=>x.1,λh Q D k=>x.2 h Q D λh'=>k () h' tI⟩
theorem aG3{m:SF->SL->G->List bI->List Bool->Prop}{t:SF->SL->G->Tr}(a: ∀v ρ g,LO d hb B F (m v ρ g)<|t v ρ g):LO d hb B F (λhs l=>CD hs λα p r hs=>e9 l (λ_=>tf d hb B n s ρ g α p<|r g) λq=> ∀y,p y->m (r g y).1 (r g y).2.1 (r g y).2.2 hs q)<|.st n s ρ g t:=
 λ_ _ _ k s=>Wx s.ne k λα p r hs k=>s.bq k λx s k=>⟨α,p,r g,x,λv b=>a _ _ _ _ _ hs (λq y=>k q y v b) s⟩
theorem rR(t:Tr){f:List Bool->Prop}{l:List Bool}(hs:List bI)(k: ∀r,f (l.reverse++r)->lf d hb B F t hs r)(s:dG f l):av d hb B F t:=by
 refine Tr.rec (motive:=λt=>LO d hb B F (lf d hb B F t) t) (λ_ _ _ k s=>s.ne.elim k) (λx ρ g _ _ hs k s=>s.go k id λa _ c _=>a.ne.elim λr y=>AN<|c r y)
  (λp _ _ a b=>(TM a b:)) (λp t a=>(U5 a:)) (λt ih _ _ hs k s a=>ih a _ _ hs (λr y=>k r y a) s) (λT g t a=>(Wa a:)) (λ_ _ a b=>(ae3 a b:)) (λn f vs g t a=>(aD8 a:)) (λn f vs g t a=>(S5 a:)) (λn f vs g t a=>(aG3 a:)) t _ _ hs k s
end
noncomputable abbrev FQ(hb:H)(B:List ai)(Q:V->H->Prop):SF->SL->G->Prop:=λx _ g=> ∀h',Hd hb B g h'->match x with
 |.ret v=>Q (den v) h'
 |_=>False
abbrev FP(hb:H)(B:List ai)(P:Fl->L->H->Prop):SF->SL->G->Prop:=λx ρ g=> ∀h',Hd hb B g h'->a8 g ρ->P (wN x) (aq ρ) h'
noncomputable abbrev aL(i:Int):SV:= .int i (.b i i)
noncomputable abbrev gI:SV->G->Tr:=λv g=> .done (.ret v) [] g
noncomputable def Fa(h:H)(g0:G):G->Prop
 |[]=>True
 |x::r=>x.2.at (h x.1)/\(∀y∈r.map (·.1),x.1≠y)/\x.2.ok g0/\Fa h g0 r
noncomputable def h9(g:G):List (Nat×SV)->Prop
 |[]=>True
 |x::r=>aN g x.2/\h9 g r
theorem lJ{g}{a:List<|Nat×SV}(k:h9 g a) f v(e:bc a f=U v):aN g v:=by
 induction a with
 |nil=>exact bf e
 |cons p r ih=>
  have e:cond (bE p.1 f) (U p.2) (bc r f)=U v:=e
  cases c:bE p.1 f <;>rw[c] at e
  ·exact ih k.2 e
  ·exact bM e▸k.1
theorem yL{α β:Type}{f:α->β}: ∀{l:List α} {i:Nat} {a:α},ah l i=U a->f a∈l.map f
 |_::_,0,_,e=>by cases e;exact .head _
 |_::l,i+1,_,e=> .tail _ (yL e)
section
variable{h:H}{g0:G}
theorem Fa.am{g:G}{k:Nat}{a:ai}{o:SO}(f:Fa h g0 g)(e:ah g k=U (a,o)):o.at (h a)/\o.ok g0:=by
 induction g generalizing k with
 |nil=>exact bQ e
 |cons x r ih=>
  cases k
  ·exact p7 (P:=λy=>y.2.at (h y.1)/\y.2.ok g0) e ⟨f.1,f.2.2.1⟩
  ·exact ih f.2.2.2 e
theorem Fa.ne{x:ai×SO}{g:G}{j:Nat}{a}{y}(f:Fa h g0<|x::g)(e:U x=U (a,z))(e':ah g j=U (a,y)):False:=f.2.1 _ (yL (f:=(·.1)) e') (aA (·.1)<|bM e)
theorem Fa.inj{g:G}{i j:Nat}{a:ai}{x y:SO}(f:Fa h g0 g)(e:ah g i=U (a,x))(e':ah g j=U (a,y)):i=j:=by
 induction g generalizing i j with
 |nil=>exact bQ e
 |cons z r ih=>
  cases i <;>cases j
  ·rfl
  ·exact(Fa.ne f e e').elim
  ·exact(Fa.ne f e' e).elim
  ·exact aA (· +1) (ih f.2.2.2 e e')
theorem Hd.of{g}(f:Fa h g g):Hd h (g.map (·.1)) g h where
 am _ _ _ e:=(f.am e).1
 ok _ _ _ e:=(f.am e).2
 inj _ _ _ _ _ e e' _ _:=f.inj e e'
 fr _ _ e n:=⟨e,λ_ _ m=>n<|yL m⟩
end
section
variable{d n f:Nat}{vs:List SV}{h:H}{B:List ai}{g:G}{Q:V->H->Prop}
theorem b_(stop:List Nat)(hs:List bI)(D:Hd h B g h)(o:bC g vs)(k:dG (lf d h B (FQ h B Q) (rC stop n f vs g gI) hs) []):al I (d+n) f (bd vs) h Q:=
 mr stop n f vs g h gI Q D o (rR _ hs (λ_ x=>x) k) λ_ h' _ _ D' _ t=>t h' D'
theorem gF(stop:List Nat)(hs:List bI){ρ}{hb}{b}{P}(D:Hd hb B g h)(o:a8 g ρ)(k:dG (lf d hb B (FP hb B P) (rS (rC stop n) n (.tr b) ρ g .done) hs) []):aZ I (al I<|d+n) b (aq ρ) h P:=
 tz (mr stop n) (.tr b) _ _ _ _ _ D o (rR _ hs (λ_ x=>x) k) λ_ h' _ _ _ D' o' _ t=>t h' D' o'
end
theorem Hd.le{hb h h'}{B}{g}(D:Hd hb B g h)(l:H.le h h'):Hd hb B g h' where
 am k a o e:=SO.Fp (l a) (D.am k a o e)
 ok:=D.ok
 inj:=D.inj
 fr b o e n:=have w:=D.fr b o e n;⟨l b o w.1,w.2⟩
theorem Hd.f{h h'}{B}{g}(D:Hd h B g h'): ∀b o,h b=U o->b∉B->h' b=U o:=λb o e n=>(D.fr b o e n).1
section
variable{d n:Nat}{h hb:H}{B:List ai}{g:G}{Q:V->H->Prop}
theorem EM(stop:List Nat)(hs:List bI){e}{ρ}(D:Hd hb B g h)(o:a8 g ρ)(k:dG (lf d hb B (FQ hb B Q) ((rE (rC stop n) n e ρ g).v gI) hs) []):(ao I (al I<|d+n) e<|aq ρ).v h Q:=
 (iy (mr stop n) e).v D o (rR _ hs (λ_ x=>x) k) λ_ h' _ _ D' _ t=>t h' D'
end
section
variable{d n:Nat}{h hb:H}{B:List ai}{g:G}{P:Fl->L->H->Prop}
theorem dy(stop:List Nat)(hs:List bI){t}{b}{v}{ρ}(D:Hd hb B g h)(o:a8 g ρ)(ov:aN g v)(k:dG (lf d hb B (FP hb B P) (tQ (rC stop n) n t v ρ g λρ g=>rS (rC stop n) n (.tr b) ρ g .done) hs) []):cn (al I<|d+n) t b (den v) (aq ρ) h P:=
 Fo (mr stop n) t _ _ _ _ _ _ D o ov (rR _ hs (λ_ x=>x) k) λ_ h1 _ _ D1 o1 t=>tz (mr stop n) (.tr b) _ _ _ _ _ D1 o1 t λ_ h' _ _ _ D' o' _ t=>t h' D' o'
end
section
variable{h h':H}{g g0:G}{v:SV}{l:List SV}{ρ:SL}{a:ai}{o so:SO}{k:Nat}{fs:List<|Nat×SV}
theorem aY:bC g []:=tI
theorem bL(x:aN g v)(y:bC g l):bC g<|v::l:=⟨x,y⟩
theorem bD{w}(y:bC g l):bC g<|.op w::l:=⟨tI,y⟩
theorem bU{i}(y:bC g l):bC g<|.int i (.b i i)::l:=⟨⟨aU i,aU i⟩,y⟩
theorem cD{i j p}(x:j<=i)(z:i<=p)(y:bC g l):bC g<|.int i (.b j p)::l:=⟨⟨x,z⟩,y⟩
theorem h_(e:ah g k=U (a,o))(y:bC g l):bC g<|.ref k a::l:=⟨⟨o,e⟩,y⟩
theorem d4(x:bC g l):aN g<|.aj l:=x
theorem nV(x:bC g l):aN g<|.fl l:=x
theorem bk:a8 g []:=λ_ _ e=>bf e
theorem aT(x:aN g v)(y:a8 g ρ):a8 g<|U v::ρ:=λi w e=>match i,e with
 |0,e=>by cases e;exact x
 |i+1,e=>y i w e
theorem aD(y:a8 g ρ):a8 g<|Y::ρ:=λi w e=>match i,e with
 |i+1,e=>y i w e
theorem aB{w}(y:a8 g ρ):a8 g<|U (.op w)::ρ:=aT tI y
theorem gx{i}(y:a8 g ρ):a8 g<|U (.int i<|.b i i)::ρ:=aT ⟨aU i,aU i⟩ y
theorem i8{i j p}(x:j<=i)(z:i<=p)(y:a8 g ρ):a8 g<|U (.int i<|.b j p)::ρ:=aT ⟨x,z⟩ y
theorem bG(e:ah g k=U (a,o))(y:a8 g ρ):a8 g<|U (.ref k a)::ρ:=aT ⟨o,e⟩ y
theorem dX:h9 g []:=tI
theorem c5{f}(x:aN g v)(y:h9 g fs):h9 g<|(f,v)::fs:=⟨x,y⟩
theorem dH{f}{w}(y:h9 g fs):h9 g<|(f,.op w)::fs:=⟨tI,y⟩
theorem dN{f}{i}(y:h9 g fs):h9 g<|(f,.int i<|.b i i)::fs:=⟨⟨aU i,aU i⟩,y⟩
theorem Pi{f}{i j p}(x:j<=i)(z:i<=p)(y:h9 g fs):h9 g<|(f,.int i<|.b j p)::fs:=⟨⟨x,z⟩,y⟩
theorem ki{f}(e:ah g k=U (a,o))(y:h9 g fs):h9 g<|(f,.ref k a)::fs:=⟨⟨o,e⟩,y⟩
theorem Fa.nl:Fa h g0 []:=tI
theorem Fa.is{c}(x:h a=U (.aK c<|bZ fs))(n: ∀y∈g.map (·.1),a≠y)(y:h9 g0 fs)(z:Fa h g0 g):Fa h g0<|(a,.aK c fs)::g:=⟨x,n,lJ y,z⟩
theorem Fa.ls{l}(x:h a=U (.list l))(n: ∀y∈g.map (·.1),a≠y)(z:Fa h g0 g):Fa h g0<|(a,.list l)::g:=⟨x,n,tI,z⟩
theorem Fa.ss{m}(x:h a=U (.list<|bd m))(n: ∀y∈g.map (·.1),a≠y)(y:bC g0 m)(z:Fa h g0 g):Fa h g0<|(a,.ls m)::g:=⟨x,n,y,z⟩
theorem Fa.di{l}(x:h a=U (.dict l))(n: ∀y∈g.map (·.1),a≠y)(z:Fa h g0 g):Fa h g0<|(a,.dict l)::g:=⟨x,n,tI,z⟩
theorem bj: ∀y∈([]:List ai),a≠y:=λ_ m=>dz m
theorem b8{b}{r}(x:a≠b)(y: ∀y∈r,a≠y): ∀y∈b::r,a≠y:=λz m=>(bB.mp m).elim (λe=>e▸x) (y z)
end
noncomputable def jm(g:G)(u:List<|Nat×SO):List ai:=u.map λp=>match ah g p.1 with
 |U x=>x.1
 |Y=>0
noncomputable def rH(g:G)(h':H):List (Nat×SO)->Prop
 |[]=>True
 |p::r=>(match ah g p.1 with|U x=>x.2.lv/\p.2.at (h' x.1)/\p.2.ok g|Y=>False)/\rH g h' r
abbrev Fr(h h':H)(A:List ai):Prop:= ∀b o,h b=U o->b∉A->h' b=U o
section
variable{hb h h':H}{B:List ai}{g:G}
theorem tD: ∀{u:List<|Nat×SO} {g:G} {k:Nat} {a:ai} {o:SO},ah (d9 g u) k=U (a,o)-> ∃p,ah g k=U (a,p)/\((p=o/\ ∀q∈u,q.1≠k)\/(k,o)∈u)
 |[],_,_,_,o,e=>⟨o,e,.inl ⟨rfl,λ_ m=>dz m⟩⟩
 |(j,q)::u,g,k,a,o,e=>by
  have bq: ∀{k a o},ah (gr g g j λx=>km g g j (x.1,q) id) k=U (a,o)-> ∃p,ah g k=U (a,p)/\((p=o/\(j≠k\/ah g j=Y))\/(k=j/\o=q)):=λ{k a o} e=>by
   rw[yY] at e
   cases ej:ah g j with
   |none=>rw[ej] at e;exact⟨o,e,.inl ⟨rfl,.inr rfl⟩⟩
   |some x=>
    rw[ej] at e
    have e:ah (km g g j (x.1,q) id) k=U (a,o):=e
    rw[yr,ej] at e
    exact(cN ej e).elim (λz=>⟨x.2,by rw[<-z.1,z.2.1];exact ej,.inr ⟨z.1.symm,z.2.2⟩⟩) λz=>⟨o,z.2,.inl ⟨rfl,.inl z.1⟩⟩
  obtain⟨p,ep,c⟩:=tD (u:=u) e
  obtain⟨r,er,c'⟩:=bq ep
  refine⟨r,er,?_⟩
  cases c with
  |inr m=>exact .inr (.tail _ m)
  |inl c=>
   cases c' with
   |inr z=>exact .inr (by rw[z.1,<-c.1,z.2];exact .head _)
   |inl z=>exact .inl ⟨z.1.trans c.1,λy m=>by
     cases m with
     |head=>exact z.2.elim id λn (f:j=k)=>by rw[f,er] at n;cases n
     |tail _ m=>exact c.2 y m⟩
theorem zA{u:List<|Nat×SO}{k:Nat}{a:ai}{o p:SO}(x:rH g h' u)(m:(k,o)∈u)(e:ah g k=U (a,p)):p.lv/\o.at (h' a)/\o.ok g/\a∈jm g u:=by
 induction u with
 |nil=>exact dz m
 |cons q u ih=>
  refine(bB.mp m).elim (λz=> ?_) λm=>have w:=ih x.2 m;⟨w.1,w.2.1,w.2.2.1,.tail _ w.2.2.2⟩
  subst z
  have x:=x.1
  unfold jm
  rw[kK]
  dsimp only at x⊢
  rw[e] at x⊢
  exact⟨x.1,x.2.1,x.2.2,.head _⟩
theorem CE: ∀{u:List<|Nat×SO} {a:ai},rH g h' u->a∈jm g u-> ∃k o p,(k,o)∈u/\ah g k=U (a,p)/\p.lv
 |p::_,a,x,m=>by
  have y:=x.1
  unfold jm at m
  rw[kK] at m
  cases e:ah g p.1 with
  |none=>rw[e] at y;exact y.elim
  |some z=>
   rw[e] at y m
   exact(bB.mp m).elim (λq=>⟨p.1,p.2,z.2,.head _,e.trans<|congrArg (λa=>U (a,z.2)) q.symm,y.1⟩) λm=>(CE x.2 m).imp λk w=>w.imp λo w=>w.imp λq w=>⟨.tail _ w.1,w.2⟩
theorem d8:rH g h' []:=tI
theorem dj{k}{a}{o p}{u}(e:ah g k=U (a,o))(lv:o.lv)(x:p.at<|h' a)(ok:p.ok g)(y:rH g h' u):rH g h'<|(k,p)::u:=⟨by dsimp only;rw[e];exact⟨lv,x,ok⟩,y⟩
theorem Hd.go{u}(D:Hd hb B g h)(f:Fr h h'<|jm g u)(x:rH g h' u):Hd hb B (d9 g u) h' where
 am k a o e:=by
  obtain⟨p,ep,c|m⟩:=tD e
  ·by_cases m:a∈jm g u
   ·obtain⟨j,q,r,m,ej,lv⟩:=CE x m
    exact SO.Gs λl=>c.2 _ m (D.inj j k a r p ej ep lv<|c.1▸l)
   ·exact SO.Fp (λu e=>f a u e m) (c.1▸D.am k a p ep)
  ·exact(zA x m ep).2.1
 ok k a o e:=by
  obtain⟨p,ep,c|m⟩:=tD e
  ·exact SO.zi (i6 u g) (c.1▸D.ok k a p ep)
  ·exact SO.zi (i6 u g) (zA x m ep).2.2.1
 inj i j a y z e e' ly lz:=by
  obtain⟨p,ep,c⟩:=tD e
  obtain⟨q,s,c'⟩:=tD e'
  exact D.inj i j a p q ep s (c.elim (λc=>c.1▸ly) λm=>(zA x m ep).1) (c'.elim (λc=>c.1▸lz) λm=>(zA x m s).1)
 fr b o e n:=by
  have w:=D.fr b o e n
  refine⟨f b o w.1 λm=> ?_,λk y e=> ?_⟩
  ·obtain⟨j,q,r,_,ej,_⟩:=CE x m
   exact w.2 j r ej
  ·obtain⟨p,ep,_⟩:=tD e
   exact w.2 k p ep
end
end c6.La
namespace c6.La
set_option smartUnfolding false
open PySem
theorem a7(f:Fr h h' []):H.le h h':=λb o e=>f b o e λm=>dz m
structure cY where
 x:Int
 y:Int
 z:Int
abbrev cY.o(b:cY):O:= .list [.int b.x,.int b.y,.int b.z]
structure cY.ok(b:cY)(n:Int):Prop where
 x0:0<=b.x
 x1:b.x<=10^90
 y0:0<=b.y
 y1:b.y<=2147483628
 z0:0<=b.z
 z1:b.z<=n
theorem zj{b:cY}(ha:h a=U b.o)(hb:b.ok m)(hn:1<=n/\n<=1073741823)(hm:m<=1000000)
  (k: ∀h' r b',0<=r->r <n->cY.ok b' (m+1)->h' a=U b'.o->Fr h h' [a]->Q (.int r) h'):al I (d+1) 103 [.ref a,.int n] h Q:=by
 refine b_ (g:=[(a,.ls [.int b.x .no,.int b.y<|.b 0 2147483628,.int b.z<|.b 0 1000000])]) (vs:=[.ref 0 a,.int n<|.b 1 1073741823]) [] [] (Hd.of<|Fa.ss ha bj (bL tI<|cD hb.y0 hb.y1<|cD hb.z0 (az hb.z1 hm) aY) Fa.nl) (h_ rfl<|cD hn.1 hn.2 aY) (.c ?_<|.d ?_)
 ·intro c h' D
  exact k h' (b.x% n) ⟨b.x/n,b.y,b.z⟩ (pr _<|pu hn.1) (qQ _ hn.1) ⟨xk hb.x0<|eR hn.1,az (Q4 _ hb.x0) hb.x1,hb.y0,hb.y1,hb.z0,az hb.z1<|aQ4<|aU m⟩ (D.am 0 a _ rfl) D.f
 ·intro _ h' D
  exact k h' _ ⟨b.x,b.y,b.z+1⟩ (pr _<|pu hn.1) (qQ _ hn.1) ⟨hb.x0,hb.x1,hb.y0,hb.y1,aQ4 hb.z0,g8 hb.z1 1⟩ (D.am 0 a _ rfl) D.f
def yh(l:List Int):Prop:= ∀i∈l,-1073741823<=i/\i<=1073741823
theorem Fh{α β:Type} e(f:α->L)(a:g h)(k: ∀x,P .next (f x) h): ∀(l:List β),
  (∀j∈l,∀x R,(∀y h',H.le h h'->R .next (f y) h'/\R .cont (f y) h')->B (e j) (f x) h R)-> ∀x,dg B g (l.map e) (f x) h P
 |[],_,x=>⟨a,k x⟩
 |j::r,s,x=>⟨a,s j (.head _) x _ λy _ l=>have z:=Fh e f a k r (λj m=>s j<|.tail _ m) y;⟨⟨h,l,z⟩,⟨h,l,z⟩⟩⟩
theorem vd(hv: ∀K,K (vi l) bP h->hY h K v)(hl:yh l)(k:Q .none h):al I (d+3) 8 [v] h Q:=by
 refine e_ (fn:=f8) rfl rfl (bz<|iE<|jM<|ap rfl<|hv _<|Fh V.int (λx=>[U v,x]) tI (λ_=>⟨_,H.le_refl _,k⟩) l (λj m x R n=>eH<|gF [] [] (Hd.of Fa.nl) (aB<|i8 (hl j m).1 (hl j m).2 bk)<|.d ?_) _)
 exact λh' D _=>(n _ h'<|a7 D.f).1
end c6.La
namespace c6.La
open PySem
noncomputable def oc(w:Int):List Int:=[w/16777216% 256,w/65536% 256,w/256% 256,w% 256]
def bs(ws:List Int):List Int:=ws.flatMap oc
theorem uc(A B:List Int):bs (A++B)=bs A++bs B:=List.flatMap_append
theorem HX(A:List Int)(w:Int):(bs<|A++[w]).length=(bs A).length+4:=by rw[uc,aC];rfl
theorem q9(ws:List Int):(bs ws).length=4*ws.length:=by
 unfold bs
 induction ws with
 |nil=>rfl
 |cons w r ih=>rw[List.flatMap_cons,aC,ih,eT,py,c4];rfl
theorem ai1{α}(X Yqv Z:List α):cu (X++(Yqv++Z)) X.length (X.length+Yqv.length)=Yqv:=by
 unfold cu
 rw[List.take_append,List.take_of_length_le<|cg _ _,Nat.add_sub_cancel_left,aQ5,aQ6]
theorem Oq:ef []:=λ_ m=>dz m
theorem yq{x}{r}(h:0<=x/\x<=255)(k:ef r):ef<|x::r:=λi m=>(bB.mp m).elim (λe=>e▸h) (k i)
theorem ye(j:Int):0<=j% 256/\j% 256<=255:=⟨pr j dd,iO<|qQ j dd⟩
theorem Dk(w:Int):ef<|oc w:=yq (ye _) (yq (ye _)<|yq (ye _)<|yq (ye _) Oq)
theorem Fv{A B}{w}{h}{Q}(hl:(bs<|A++w::B).length<=4000)(k:Q (.a6<|oc w) h):ju h Q (.a6<|bs<|A++w::B) (.int (bs A).length)<|.int<|(bs A).length+4:=by
 have e:bs (A++w::B)=bs A++(oc w++bs B):=uc A (w::B)
 rw[e] at hl⊢
 refine .Jc (ak hl dd) (du _) (du<|(bs A).length+4) (?_:Q (.a6<|cu (bs A++(oc w++bs B)) (min (bs A).length _)<|min ((bs A).length+4) _) h)
 rw[aC,aC,GC<|cg _ _,GC (show(bs A).length+4<=(bs A).length+((oc w).length+(bs B).length) from eG (cg 4 _) _)]
 exact(ai1 (bs A) (oc w)<|bs B).symm▸k
theorem Yd{B}{h}{F}{Z}: ∀(us A:List Int) (K:List V->H->Prop) (h1:H),H.le h h1->
  (∀a w b,w∈us->A++(us++Z)=a++w::b-> ∀h1 (K:Option V->H->Prop),H.le h h1->(∀h2,H.le h h2->K (U<|F w) h2)->B (.int (bs a).length) h1 K)->(∀h2,H.le h h2->K (us.map F) h2)->hO B bP (eh (bs A).length 4 us.length) h1 K:=λus=>by
 induction us with
 |nil=>exact λA K h1 l _ k=>⟨tI,k h1 l⟩
 |cons w r ih=>exact λA K h1 l hb k=>⟨tI,hb A w (r++Z) (.head _) rfl h1 _ l λh2 l2=>by
   have z:=ih (A++[w]) (λws h=>K (F w::ws) h) h2 l2 (λa u b m e=>hb a u b (.tail _ m)<|by rw[<-e,aX];rfl) k
   rw[HX] at z
   exact z⟩
theorem au5(p:Int)(m:Nat):rt p (p+4*m) 4=m:=by
 unfold rt
 rw[aM dd]
 cases m with
 |zero=>rw[aE (show¬p <p+4*((0:Nat)) from fF.mpr<|Int.le_of_eq<|Int.add_zero p)];rfl
 |succ m=>
  rw[aM (show p <p+4*((m+1:Nat)) from aQ7 p<|Int.natCast_pos.mpr<|Nat.succ_pos _),iu p,mn]
  have e:(4*((m+1:Nat):Int) -1)=3+4*m:=by lia
  rw[e,Q5 _ _ dd]
  show((0:Int)+m+1).toNat=m+1
  rw[qR];rfl
noncomputable def mR(s:Int):Int:=if s <8388608 then 1 else if s <16777216 then 2 else 4
def a9(w s:Int):Int:=w*(s -s% mR s)/1048576
theorem IF{x y m n:Int}(hm:0 <m):(x/m+y)/n=(x+m*y)/(m*n):=by
 rw[<-sR<|eR hm,Q5 _ _<|pu hm]
structure Sz(s R f B D:Int):Prop where
 b:mR s=B
 b0:0 <B
 r:R=s/B
 r0:0<=R
 r1:R<=33554431
 f0:16<=f
 f1:f<=64
 d:256/f=D
 d0:1<=D/\D<=1073741823
 m:B*(65536*D)=1048576
 mf:65536*D*f=16777216
theorem Sz.at{s R f B D x y z}(S:Sz s R f B D):((x*R/256+y*R)/256+z*R)/(256/f)=(x+256*(y+256*z))*R/(65536*D):=by
 have e:(x+256*(y+256*z))*R=x*R+256*(y*R)+256*256*(z*R):=by rw[Q6,qS,Q6,qS,qT,<-qS 256 256,<-gp]
 rw[S.d,IF (n:=256) dd,IF dd,e]
 rfl
theorem Sz.Hu{s R f B D w}(S:Sz s R f B D):a9 w s=w*R/(65536*D):=by
 unfold a9
 have e:s -s% B=B*R:=by have r:=S.r;have e:=aQ8 s B;rw[<-r] at e;lia
 rw[S.b,e,<-S.m,Int.mul_left_comm,Int.mul_ediv_mul_of_pos _ _ S.b0]
theorem Sz.neg{s R f B D w x y z}(S:Sz s R f B D)(e:w=x+256*(y+256*z) -16777216):w*R/(65536*D)=((x*R/256+y*R)/256+z*R)/(256/f) -f*R:=by
 rw[S.at,e,Int.sub_mul,<-S.mf,qS,Int.sub_mul_ediv_left _ _<|pu<|Int.mul_pos dd S.d0.1]
theorem aO6(w:Int):w% 256+256*(w/256% 256+256*(w/65536% 256+256*(w/16777216)))=w:=by
 have e1:w/256/256=w/65536:=sR dd
 have e2:w/65536/256=w/16777216:=sR dd
 rw[<-e2,Q7,<-e1,Q7,Q7]
theorem z5{w}(h: -16777216<=w/\w <16777216):(w/16777216% 256=0/\w=w% 256+256*(w/256% 256+256*(w/65536% 256)))\/(w/16777216% 256=255/\w=w% 256+256*(w/256% 256+256*(w/65536% 256)) -16777216):=by
 have e:=aO6 w
 by_cases n:w <0
 ·have q:=Int.ediv_eq_neg_one_of_neg_of_le n (Int.neg_le_of_neg_le h.1)
  rw[q] at e⊢
  exact .inr ⟨rfl,by generalize w/65536% 256=z at e⊢;lia⟩
 ·have q:=GD (fF.mp n) h.2
  rw[q] at e⊢
  rw[Q8,eZ] at e
  exact .inl ⟨rfl,e.symm⟩
set_option smartUnfolding false in
theorem VO{d}{w s R f B D}{h}{Q}(S:Sz s R f B D)(hw: -16777216<=w/\w <16777216)(k: ∀h',H.le h h'->Q (.int<|a9 w s) h'):al I (d+1) 20 [.a6<|oc w,.int R,.int f] h Q:=by
 refine b_ [] [] (Hd.of Fa.nl) (bD<|cD S.r0 S.r1<|cD S.f0 S.f1 aY) (.c (Dk w)<|.c ?_<|.c ?_<|.c ?_<|.d ?_)
 ·show 1<=256/f/\256/f<=1073741823
  rw[S.d];exact S.d0
 ·intro e h' D
  exact(z5 hw).elim (λq=>pz (motive:=λv=>Q (.int v) h') (S.Hu.trans<|(aA (· *R/_) q.2).trans S.at.symm)<|k h'<|a7 D.f) λq=>absurd (q.1.symm.trans e) dd
 ·intro e _ h' D
  exact(z5 hw).elim (λq=>absurd q.1 e) λq=>pz (motive:=λv=>Q (.int v) h') (S.Hu.trans<|S.neg q.2) (k h'<|a7 D.f)
 ·exact λe e'=>((z5 hw).elim (λq=>e q.1) λq=>e' q.1)
theorem tU(s:Int): ∀(a:Int) (n:Nat),(eh a s n).length=n
 |_,0=>rfl
 |a,n+1=>aA (· +1) (tU s (a+s) n)
def vY(us:List Int):Prop:= ∀w∈us,-16777216<=w/\w <16777216
structure ig(ws A us:List Int)(p m:Int):Prop where
 e: ∃Z,ws=A++(us++Z)
 p:p=(bs A).length
 m:m=us.length
 l:(bs ws).length<=4000
theorem FH{n:Nat}(h:n<=4000):ir n:=⟨az dd<|du n,az (bS.mpr h) dd⟩
theorem QP{C}{cs}{o A us}{p m}{ρ t}{j a}{h}{Q}{F}(S:ig o A us p m)(hi: ∀{K},jT h K [.int p,.int<|p+4*m,.int 4]->(ao I C j ρ).i h K)(hc: ∀{K:L->Prop},K t->iB ρ cs K)
  (he: ∀A w Z,w∈us->o=A++w::Z-> ∀h1 (Q:V->H->Prop),H.le h h1->(∀h2,H.le h h2->Q (F w) h2)->(ao I C a<|U (.int (bs A).length)::t).v h1 Q) (k: ∀h',H.le h h'->Q (.fl<|us.map F) h'):(ao I C (.comp aa cs j (.c<|.bool aa) a) ρ).v h Q:=by
 obtain⟨⟨Z,e⟩,ep,em,l⟩:=S
 have l':=l
 rw[e,uc,uc,aC,aC,<-cG] at l'
 have l2:=ak (cg _ _) l'
 have e2:p+4*m=((bs A).length+(bs us).length):=by rw[ep,em,q9 us];rfl
 refine hi (.Ca (ep▸FH (ak (cg _ _) l2)) (e2▸FH l2) dd dd ?_)
 rw[em,au5,ep]
 have l3:=ak (uQ _ _) l2
 rw[q9] at l3
 exact⟨by rw[tU];exact ak (aQ9 _ dd)<|Nat.le_trans l3 dd,hc<|Yd us A _ h (H.le_refl h) (λb w f m q h1 K l c=>nG<|he b w f m (e.trans q) h1 _ l c) k⟩
noncomputable abbrev CG(i j:Nat):E:= .bi .range (.cons (.x i)<|.cons (.dY .add (.x i)<|.dY .mul (.c<|.int 4)<|.x j)<|.cons (.c<|.int 4) .nil)
noncomputable abbrev DB(i:Nat):E:= .sl (.x i) (.x 0) (.dY .add (.x 0)<|.c<|.int 4)
theorem OR{C}{i j}{p m}{ρ:L}{h}{K}(hi:ah ρ i=U (U<|.int p))(hj:ah ρ j=U (U<|.int m))(k:jT h K [.int p,.int<|p+4*m,.int 4]):(ao I C (CG i j) ρ).i h K:=
 iY (ay<|ap hi<|ay<|eE<|ap hi<|eE<|bl<|ap hj<|.zR ⟨dd,dd⟩<|.jb<|ay<|bl k)
theorem JH{C}{A Z}{w}{a:L}{i}{h}{Q}(hl:(bs<|A++w::Z).length<=4000)(hi:ah a i=U (U<|.a6<|bs<|A++w::Z))(k:Q (.a6<|oc w) h):(ao I C (DB<|i+1)<|U (.int (bs A).length)::a).v h Q:=
 qn (ap hi<|ap rfl<|eE<|ap rfl<|bl<|.jb<|Fv hl k)
theorem Ei{d}{a A us}{p m s R f B D}{ρ:L}{h}{Q}(S:Sz s R f B D)(G:ig a A us p m)(b:vY us)(hp:ah ρ 1=U (U<|.int p))(hm:ah ρ 2=U (U<|.int m))(h4:ah ρ 4=U (U<|.int R))(g:ah ρ 5=U (U<|.int f))(h0:ah ρ 0=U (U<|.a6<|bs a))
  (k: ∀h',H.le h h'->Q (.fl<|us.map λw=> .int<|a9 w s) h'):(ao I (al I<|d+1) (.comp aa [4,5,0] (CG 1 2) (.c<|.bool aa)<|.call 20<|.cons (DB 3)<|.cons (.x 1)<|.cons (.x 2) .nil) ρ).v h Q:=
 QP G (OR hp hm) (λk=>nX h4<|nX g<|nX h0<|jr k) (λA w Z c e h1 Q l k=>eI (ay (by
  subst e
  exact JH G.l rfl<|ay<|ap rfl<|ay<|ap rfl<|bh<|VO S (b w c) λh2 l2=>k h2<|H.le_trans l l2))) k
theorem Ui{C}{a A us}{p m}{ρ:L}{h}{Q}(G:ig a A us p m)(hp:ah ρ 1=U (U<|.int p))(hm:ah ρ 2=U (U<|.int m))(h0:ah ρ 0=U (U<|.a6<|bs a))
  (k: ∀h',H.le h h'->Q (.fl<|us.map λw=> .aj<|vi<|oc w) h'):(ao I C (.comp aa [0] (CG 1 2) (.c<|.bool aa)<|.bi .tuple<|.cons (DB 1) .nil) ρ).v h Q:=
 QP G (OR hp hm) (λk=>nX h0<|jr k) (λA w Z b e h1 Q l k=>eJ (ay (by
  subst e
  exact JH G.l rfl<|bh<|.Py (d5 rfl)<|k h1 l))) k
theorem sz1{s}(h0:0 <s)(h: ¬8388608<=s):Sz s s 16 1 16 where
 b:=aM (n3.mp h)
 b0:=dd
 r:=(GE s).symm
 r0:=eR h0
 r1:=az (eR<|n3.mp h) dd
 f0:=dd
 f1:=dd
 d:=dd
 d0:=dd
 m:=dd
 mf:=dd
theorem sz2{s}(h:8388608<=s)(h': ¬8388608<=s/2):Sz s (s/2) 32 2 8 where
 b:=by unfold mR;rw[aE<|fF.mpr h,aM (show s <16777216 from Int.lt_mul_of_ediv_lt dd<|n3.mp h')]
 b0:=dd
 r:=rfl
 r0:=xk (az dd h) dd
 r1:=az (eR<|n3.mp h') dd
 f0:=dd
 f1:=dd
 d:=dd
 d0:=dd
 m:=dd
 mf:=dd
theorem sz3{s}(h1:s<=33554431)(h:8388608<=s/2):Sz s (s/2/2) 64 4 4 where
 b:=by
  have q:16777216<=s:=(Int.le_ediv_iff_mul_le dd).mp h
  unfold mR
  rw[aE<|fF.mpr<|az dd q,aE<|fF.mpr q]
 b0:=dd
 r:=sR dd
 r0:=xk (az dd h) dd
 r1:=az (Q4 _<|az dd h) (az (uN dd h1) dd)
 f0:=dd
 f1:=dd
 d:=dd
 d0:=dd
 m:=dd
 mf:=dd
set_option smartUnfolding false in
theorem lU{d}{j A us}{p m s}{h}{Q}(G:ig j A us p m)(h0:0 <s)(h1:s<=33554431)(a:vY us)(k: ∀h',H.le h h'->Q (.fl<|us.map λw=> .int<|a9 w s) h'):al I (d+2) 22 [.a6<|bs j,.int p,.int m,.int s] h Q:=by
 refine b_ [20] [.u,.d (.op<|.fl<|us.map λw=> .int<|a9 w s) []] (Hd.of Fa.nl) (bD<|bD<|bD<|cD h0 h1 aY)
  (.b (.b (.c ?_<|.d ?_)<|.c ?_<|.d ?_)<|.c ?_<|.d ?_)
 ·exact λc c'=>⟨tI,λh' Q D k=>Ei (sz3 h1 c') G a rfl rfl rfl rfl rfl λh2 l=>k h2<|D.le l⟩
 ·exact λ_ _ h' D=>k h' (a7 D.f)
 ·exact λc c'=>⟨tI,λh' Q D k=>Ei (sz2 c c') G a rfl rfl rfl rfl rfl λh2 l=>k h2<|D.le l⟩
 ·exact λ_ _ h' D=>k h' (a7 D.f)
 ·exact λc=>⟨tI,λh' Q D k=>Ei (sz1 h0 c) G a rfl rfl rfl rfl rfl λh2 l=>k h2<|D.le l⟩
 ·exact λ_ h' D=>k h' (a7 D.f)
theorem vP{d}{a A us}{p m}{h}{Q}(G:ig a A us p m)(k: ∀h',H.le h h'->Q (.fl<|us.map λw=> .aj<|vi<|oc w) h'):al I (d+1) 23 [.a6<|bs a,.int p,.int m] h Q:=
 e_ (fn:=KJ) rfl rfl (aH4<|Ui G rfl rfl rfl λh' l=>⟨_,H.le_refl _,k h' l⟩)
structure aW where
 ls:List (Int×Int×Int)
 rs:List (Int×Bool×Int)
 ck:Int
 de:Int
noncomputable def bn(b:Bool)(x:Int):Int:=match b with|aa=>x|ae=>0
noncomputable def aW.b(M:aW):Bool:=match M.rs with|[]=>ae|_=>aa
noncomputable def vK(b:Bool):Int->List (Int×Int×Int)->List Int
 |_,[]=>[]
 |k,_::r=>((k+1)*17891328+bn b 256)::vK ae (k+1) r
def wn(j:Int)(r:Int×Bool×Int):Int:=j*16777216+r.1*65536+bn r.2.1 32768+r.2.2
noncomputable def qt:List (Int×Bool×Int)->Int
 |[]=>128
 |_=>0
noncomputable def lX:List (Int×Bool×Int)->List Int
 |[]=>[]
 |r::s=>wn (qt s) r::lX s
def aW.n(M:aW):Int:=M.ls.length
def aW.m(M:aW):Int:=M.rs.length
def aW.CB(M:aW):List Int:=[(4*M.n+M.m+16)*65536+2,65*65536+(64+M.n),(M.n+1)*65536+(M.n+1),(M.n+1)*65536+1,M.m*65536+2,0*65536+2]
abbrev aW.c0(M:aW):List Int:=M.CB++[M.ck,16*M.de]
abbrev aW.ci(M:aW):List Int:=vK M.b 0 M.ls
abbrev aW.ta(M:aW)(f:Int×Int×Int->Int):List Int:=0::M.ls.map f
def aW.W(M:aW):List Int:=M.c0++(M.ci++(M.ta (·.1)++(M.ta (·.2.1)++(M.ta (·.2.2)++([0]++(lX M.rs++([-30001,50002]++[1000,349525])))))))
structure aW.ok(M:aW):Prop where
 n2:2<=M.ls.length
 n4:M.ls.length<=4
 m3:M.rs.length<=3
 l: ∀l∈M.ls,(-70000<=l.1/\l.1<=2001000)/\(-70000<=l.2.1/\l.2.1<=2001000)/\(-70000<=l.2.2/\l.2.2<=2001000)
 r: ∀r∈M.rs,(65<=r.1/\r.1 <65+M.ls.length)/\(match r.2.1 with|true=>0<=r.2.2/\r.2.2<=1|false=>65<=r.2.2/\r.2.2 <65+M.ls.length)
 c0:0<=M.ck
 c1:M.ck <65536
 d0:327680<=M.de
 d1:M.de<=917519
theorem zc: ∀l,(lX l).length=l.length
 |[]=>rfl
 |_::r=>aA (· +1) (zc r)
theorem xK: ∀b k l,(vK b k l).length=l.length
 |_,_,[]=>rfl
 |_,_,_::r=>aA (· +1) (xK _ _ r)
theorem ry(M:aW) f:(M.ta f).length=M.ls.length+1:=aA (· +1) (bN f)
theorem CY(M:aW):M.W.length=4*M.ls.length+M.rs.length+16:=by
 unfold aW.W
 rw[aC,aC,aC,aC,aC,aC,aC,aC,zc,xK,ry,ry,ry]
 show 8+(M.ls.length+(M.ls.length+1+(M.ls.length+1+(M.ls.length+1+(1+(M.rs.length+4))))))=_
 lia
theorem xc{M:aW}(ok:M.ok):(bs M.W).length<=4000:=by
 rw[q9,CY]
 exact ak (ji 4<|cK (gM (ji 4 ok.n4) ok.m3) 16) dd
def aW.BP(M:aW):List Int:=[4*M.n+M.m+16,2,65,64+M.n,M.n+1,M.n+1,M.n+1,1,M.m,2,0,2]
abbrev aW.cS(M:aW):List SV:=[.int (4*M.n+M.m+16)<|.b 24 35,aL 2,aL 65,.int (64+M.n)<|.b 66 68,.int (M.n+1)<|.b 3 5,.int (M.n+1)<|.b 3 5,.int (M.n+1)<|.b 3 5,aL 1,.int M.m<|.b 0 3,aL 2,aL 0,aL 2]
theorem EY{M:aW}(ok:M.ok):bC g M.cS:=by
 have a:(2)<=M.n:=bS.mpr ok.n2
 have b:=bS.mpr ok.n4
 have c:0<=M.m:=du _
 have e:=bS.mpr ok.m3
 have f:=g8 a 1
 have b1:=g8 b 1
 exact cD (g8 (fS (pA a dd) c) 16) (g8 (fS (pA b dd) e) 16)
  (bU<|bU<|cD (fG a 64) (fG b 64)<|cD f b1<|cD f b1<|cD f b1<|bU<|cD c e<|bU<|bU<|bU aY)
theorem xe{a b:Int}(h:0<=b/\b <65536)(k:0<=a/\a <65536):256*((a*65536+b)/16777216% 256)+(a*65536+b)/65536% 256=a/\256*((a*65536+b)/256% 256)+(a*65536+b)% 256=b:=by
 have e:(a*65536+b)/65536=a:=by rw[iu,aR0 _ _ dd,GD h.1 h.2,qR]
 have dT: ∀c:Int,0<=c/\c <65536->256*(c/256% 256)+c% 256=c:=λc h=>by
  rw[xl (xk h.1 dd)<|Int.ediv_lt_of_lt_mul dd h.2,GF]
 refine⟨?_,?_⟩
 ·rw[show(a*65536+b)/16777216=(a*65536+b)/65536/256 from(sR (y:=65536) (z:=256) dd).symm,e];exact dT a k
 ·have f:(a*65536+b)/256=b/256+a*256:=by rw[iu,show a*65536=a*256*256 from(qS a 256 256).symm,aR0 _ _ dd]
  rw[f,aR1,iu<|a*65536,show a*65536=a*256*256 from(qS a 256 256).symm,aR1]
  exact dT b h
theorem nK(e:a=b)(f:l=m):V.int a::l=V.int b::m:=by rw[e,f]
theorem No{M:aW}(ok:M.ok):((bs M.W).length:Int)=4*(4*M.n+M.m+16):=by rw[q9,CY];rfl
theorem aB8(n0:0<=n)(h:(0:Int)∈[n+1,n+1,n+1,1]):False:=by
 have q: ¬(0)=n+1:=aQ2 (aR2 n0)
 rcases bB.mp h with e|h
 ·exact q e
 rcases bB.mp h with e|h
 ·exact q e
 rcases bB.mp h with e|h
 ·exact q e
 exact absurd (b9.mp h) dd
theorem Tp{n m:Int}:[n+1,n+1,n+1,1,m,2,0,2].sum=3*n+m+8:=by
 simp only[aR3,List.sum_nil];lia
set_option smartUnfolding false in
theorem H7{M:aW}(ok:M.ok)(k: ∀h',H.le h h'->Q (.fl<|vi M.BP) h'):al I (d+1) 21 [.a6<|bs M.W] h Q:=by
 have l:a_ (bs M.W).length:=ak (xc ok) dd
 have n0:0<=M.n:=du _
 have n4:M.n<=4:=bS.mpr ok.n4
 have m0:0<=M.m:=du _
 have m3:M.m<=3:=bS.mpr ok.m3
 refine b_ [] [.d (.fl M.cS) [],.u,.u,.u,.d (.int (3*M.n+M.m+8) .no) []] (Hd.of Fa.nl) (bD aY)
  (.c l<|.c ?_<|.c ?_<|.c ?_<|.c ?_<|.c ?_<|.c ?_<|.c ?_<|.d ?_)
 ·exact λc=>(fF.mpr ((No ok).symm▸az dd (pA (GG<|GH (AQ dd n0) m0) (dd:(0:Int)<=4))) c)
 ·intro c
  refine⟨EY (g:=[]) ok,λh' Q D k=> ?_⟩
  refine EM [] [.u] D (aB<|aD<|aD<|aD<|aD<|aD<|aD bk) (.d ?_)
  intro h2 D2
  have z:=k h2 D2
  have e1:=xe (a:=4*M.n+M.m+16) (b:=2) dd (by lia)
  have e2:=xe (a:=65) (b:=64+M.n) (by lia) dd
  have e3:=xe (a:=M.n+1) (b:=M.n+1) (by lia) (by lia)
  have e4:=xe (a:=M.n+1) (b:=1) (by lia) (by lia)
  have e5:=xe (a:=M.m) (b:=2) (by lia) (by lia)
  exact pz (motive:=λl=>Q (.fl l) h2) (nK e1.1<|nK e1.2<|nK e2.1<|nK e2.2<|nK e3.1<|nK e3.2<|nK e4.1<|nK e4.2<|nK e5.1<|nK e5.2 rfl).symm z
 ·exact λc c'=>(aB8 n0 c')
 ·intro c c'
  refine⟨tI,λh' Q D k=>eJ<|ay<|qn<|ap rfl<|bl<|bl<|.QK (d5 rfl) dd<|bh<|.Cy (l:=[M.n+1,M.n+1,M.n+1,1,M.m,2,0,2]) ?_⟩
  exact Tp▸k h' D
 ·exact λc c' e=>(e<|by lia)
 ·exact λc c' e=>l
 ·exact λc c' e f=>(Int.lt_irrefl _<|No ok▸f)
 ·exact λc c' e f h' D=>k h' (a7 D.f)
theorem EU{w:Int}(h:0<=w/\w <16777216):w/16777216% 256=0:=by rw[GD h.1 h.2];rfl
theorem PR{w:Int}(h:0<=w/\w <16777216):16777216*(w/16777216% 256)+65536*(w/65536% 256)+256*(w/256% 256)+w% 256=w:=by
 rw[EU h]
 exact(z5 ⟨az dd h.1,h.2⟩).elim (λq=>by
  have q:=q.2
  generalize w/65536% 256=z,w/256% 256=y,w% 256=x at q⊢
  lia) λq=>absurd ((EU h).symm.trans q.1) dd
set_option smartUnfolding false in
theorem Ko{M:aW}(ok:M.ok)(k: ∀h',H.le h h'->Q (.aj [.int M.ck,.int M.de]) h'):al I (d+1) 27 [.a6<|bs M.W] h Q:=by
 have w:0<=16*M.de/\16*M.de <16777216:=⟨AQ dd<|az dd ok.d0,g7 (pA ok.d1 dd) dd⟩
 have e:=PR w
 have e2:(16777216*(16*M.de/16777216% 256)+65536*(16*M.de/65536% 256)+256*(16*M.de/256% 256)+16*M.de% 256)/16=M.de:=by rw[e,Int.mul_ediv_cancel_left _ dd]
 refine b_ [] [.d (.op<|.a6<|oc<|16*M.de) []] (Hd.of Fa.nl) (bD aY) (.c ?_<|.c ?_<|.c ?_<|.d ?_)
 ·exact⟨tI,λh' Q D k=>qn<|ap rfl<|bl<|bl<|Fv (A:=M.CB++[M.ck]) (xc ok)<|k h' D⟩
 ·exact λc=>(absurd (EU w▸c) dd)
 ·exact λ_ c=>(fF.mpr (az dd ok.d0)<|e2▸c)
 ·exact λ_ _ h' D=>pz (motive:=λx=>Q (.aj [.int x,_]) h') (PR ⟨ok.c0,AR ok.c1 dd⟩).symm (pz (motive:=λx=>Q (.aj [_,.int x]) h') e2.symm<|k h'<|a7 D.f)
set_option smartUnfolding false in
theorem M9{M:aW}{p s:Int}(hl:(bs M.W).length<=4000)(e:M.W=A++[1000,349525])(hp:p=(bs A).length)(h0:0 <s)(h1:s<=33554431)(k: ∀h',H.le h h'->Q (.fl [.int 62,.int<|a9 349525 s]) h'):al I (d+3) 26 [.a6<|bs M.W,.int p,.int 2,.int s] h Q:=by
 have G:ig M.W (A++[1000]) [349525] (p+4) 1:=⟨⟨[],by rw[e,aX];rfl⟩,by rw[hp,HX];rfl,rfl,hl⟩
 refine b_ [22] [.d (.op<|.a6<|oc 1000) [],.d (.fl [.int (a9 349525 s) .no]) []] (Hd.of Fa.nl) (bD<|bD<|bU<|bD aY)
  (.c ?_<|.c ?_<|.c ?_<|.c ?_<|.c ?_<|.d ?_)
 ·exact⟨tI,λh' Q D k=>qn (ap rfl (ap rfl (eE (ap rfl (bl (.jb (by
   have hl':=hl
   rw[e,hp] at*
   exact Fv hl'<|k h' D)))))))⟩
 ·exact Dk 1000
 ·exact λc=>(absurd c dd)
 ·exact λc=>⟨⟨tI,tI⟩,λh' Q D k=>lU G h0 h1 (λw m=>by rw[b9.mp m];decide) λh2 l=>k h2<|D.le l⟩
 ·exact λ_=>d5 rfl
 ·exact λ_ h' D=>k h' (a7 D.f)
def slV(b:Bool)(i:Int):V:= .aj [.int<|i+1,.int<|i+1,.int<|i+1,.int 0,.int<|bn b 1,.int 0]
noncomputable def slots(b:Bool):Int->List (Int×Int×Int)->List (Int×V)
 |_,[]=>[]
 |k,_::r=>(65+k,slV b k)::slots ae (k+1) r
abbrev aW.cT(M:aW):List SV:=[.int (4*M.n+M.m+16) .no,aL 2,aL 65,aL<|64+M.n,aL<|M.n+1,aL<|M.n+1,aL<|M.n+1,aL 1,.int M.m<|.b (bn M.b 1) 3,aL 2,aL 0,aL 2]
theorem HO(M:aW):bn M.b 1<=M.m:=by
 obtain⟨ls,rs,ck,de⟩:=M
 cases rs with
 |nil=>exact aU 0
 |cons r s=>exact bS.mpr (cf<|Nat.zero_le _)
theorem ag4{M:aW}(ok:M.ok):bC g M.cT:=bL tI (bU<|bU<|bU<|bU<|bU<|bU<|bU<|cD (HO M) (bS.mpr ok.m3)<|bU<|bU<|bU aY)
abbrev zI(w:Int):SV:= .aj [aL<|w/16777216% 256,aL<|w/65536% 256,aL<|w/256% 256,aL<|w% 256]
theorem zl: ∀us:List Int,bd (us.map zI)=us.map (λw=> .aj<|vi<|oc w)/\bC g (us.map zI)
 |[]=>⟨rfl,tI⟩
 |_::r=>⟨aA (_) (zl (g:=g) r).1,bL (d4<|bU<|bU<|bU<|bU aY) (zl r).2⟩
theorem KW{M:aW}(ok:M.ok):ig M.W M.c0 M.ci 32<|64+M.n -65+1:=⟨⟨_,rfl⟩,rfl,by unfold aW.ci aW.n;rw[xK];lia,xc ok⟩
theorem TX{M:aW}(ok:M.ok) v(e:den v= .int (64+M.n -65+1)):il d hb B 1 23 [.op<|.a6<|bs M.W,aL 32,v] g (.fl<|M.ci.map zI) []:=
 ⟨(zl M.ci).2,λh Q D k=>by
  show al I (d+1) 23 [_,_,den v] h Q
  rw[e]
  refine vP (KW ok) λh' l=> ?_
  have z:=k h' (D.le l)
  exact(zl (g:=g) M.ci).1▸z⟩
abbrev Ig(M:aW):Tr:=rC [23] 2 24 [.op<|.a6<|bs M.W,aL 32,.fl M.cT] [] gI
abbrev FS(M:aW):List bI:= .u:: .d (.fl<|M.ci.map zI) []::[.z]
theorem al5(ok:M.ok)(k:dG (lf d h [] (FQ h [] Q) (Ig M)<|FS M) []):al I (d+2) 24 [.a6<|bs M.W,.int 32,.fl<|vi M.BP] h Q:=
 b_ [23] (FS M) (Hd.of Fa.nl) (bD<|bU<|bL (nV<|ag4 ok) aY) k
theorem NH{α:Type}{P:List α->Prop}{a}(n2:2<=a.length)(n4:a.length<=4)(p2: ∀x y,P [x,y])(p3: ∀x y z,P [x,y,z])(p4: ∀x y z w,P [x,y,z,w]):P a:=by
 rcases a with _|⟨x,_|⟨y,_|⟨z,_|⟨w,_|_⟩⟩⟩⟩
 ·exact absurd n2 (dd: ¬2<=0)
 ·exact absurd n2 (dd: ¬2<=1)
 ·exact p2 x y
 ·exact p3 x y z
 ·exact p4 x y z w
 ·exact absurd (aR4 (b:=4) n4) (Q9 _)
theorem aW.cs{P:aW->Prop}(ok:M.ok)(p2: ∀x y ck de,P ⟨[x,y],[],ck,de⟩)(c: ∀x y r s ck de,P ⟨[x,y],r::s,ck,de⟩)(p3: ∀x y z ck de,P ⟨[x,y,z],[],ck,de⟩)(a: ∀x y z r s ck de,P ⟨[x,y,z],r::s,ck,de⟩)
  (p4: ∀x y z w ck de,P ⟨[x,y,z,w],[],ck,de⟩) (e: ∀x y z w r s ck de,P ⟨[x,y,z,w],r::s,ck,de⟩):P M:=by
 obtain⟨ls,rs,ck,de⟩:=M
 cases rs with
 |nil=>exact NH (P:=λls=>P ⟨ls,[],ck,de⟩) ok.n2 ok.n4 (λx y=>p2 x y ck de) (λx y z=>p3 x y z ck de) λx y z w=>p4 x y z w ck de
 |cons r s=>exact NH (P:=λls=>P ⟨ls,r::s,ck,de⟩) ok.n2 ok.n4 (λx y=>c x y r s ck de) (λx y z=>a x y z r s ck de) λx y z w=>e x y z w r s ck de
set_option smartUnfolding false in
theorem ON{M:aW}(ok:M.ok)(k: ∀h',H.le h h'->Q (.fd<|slots M.b 0 M.ls) h'):al I (d+2) 24 [.a6<|bs M.W,.int 32,.fl<|vi M.BP] h Q:=by
 refine al5 ok (.c (λa=> ?_)<|aW.cs ok (P:=λM=>(∀h',H.le h h'->Q (.fd<|slots M.b 0 M.ls) h')->dG (lf d h [] (FQ h [] Q) (Ig M)<|FS M) [ae]) ?_ ?_ ?_ ?_ ?_ ?_ k)
 ·exact TX ok _ rfl
 ·exact λ_ _ _ _ k=> .d λ_ h' D=>k h' (a7 D.f)
 ·exact λ_ _ _ _ _ _ k=> .d λ_ h' D=>k h' (a7 D.f)
 ·exact λ_ _ _ _ _ k=> .d λ_ h' D=>k h' (a7 D.f)
 ·exact λ_ _ _ _ _ _ _ k=> .d λ_ h' D=>k h' (a7 D.f)
 ·exact λ_ _ _ _ _ _ k=> .d λ_ h' D=>k h' (a7 D.f)
 ·exact λ_ _ _ _ _ _ _ _ k=> .d λ_ h' D=>k h' (a7 D.f)
def we(s:Int)(b:Bool)(l:Int×Int×Int):V:= .aj [.int<|a9 l.1 s,.int<|a9 l.2.1 s,.int<|a9 l.2.2 s,.int<|a9 0 s,.int<|bn b 1,.int 0]
noncomputable def ff(s:Int):Bool->Int->List (Int×Int×Int)->List (Int×V)
 |_,_,[]=>[]
 |b,k,l::r=>(65+k,we s b l)::ff s ae (k+1) r
abbrev tS(s:Int)(us:List Int):SV:= .fl (us.map λw=> .int (a9 w s) .no)
theorem rJ: ∀us:List Int,bd (us.map λw=> .int (a9 w s) .no)=us.map (λw=>V.int<|a9 w s)/\bC g (us.map λw=> .int (a9 w s) .no)
 |[]=>⟨rfl,tI⟩
 |_::r=>⟨aA (_) (rJ (g:=g) r).1,tI,(rJ r).2⟩
theorem Xs(f:Fr h h' A)(k: ∀a∈A,∀o,h a=U o->h' a=U o):H.le h h':=λb o e=>if m:b∈A then k b m o e else f b o e m
theorem qi(f:Fr h h' [t])(e:h t=U x)(e':h' t=U x):H.le h h':=Xs f λa m o q=>by rw[b9.mp m] at q⊢;exact(q.symm.trans e)▸e'
abbrev vU(M:aW)(s:Int):List SV:=[tS s<|M.ta (·.1),tS s<|M.ta (·.2.1),tS s<|M.ta (·.2.2),tS s [0]]
abbrev I8(M:aW)(s:Int)(t:ai):Tr:=rC [] 1 25 [.op<|.fd<|slots M.b 0 M.ls,.ref 0 t,.op<|.fl []] [(t,.ls<|vU M s)] gI
theorem ab7(ht:h t=U (.list<|bd<|vU M s))(k:dG (lf d h [t] (FQ h [t] Q) (I8 M s t) [.z]) []):al I (d+1) 25 [.fd<|slots M.b 0 M.ls,.ref t,.fl []] h Q:=
 b_ (g:=[(t,.ls<|vU M s)]) [] [.z] (Hd.of<|Fa.ss ht bj (bL (nV (rJ _).2)<|bL (nV (rJ _).2)<|bL (nV (rJ _).2)<|bL (nV (rJ _).2) aY) Fa.nl) (bD<|h_ rfl<|bD aY) k
abbrev lw(s:Int)(us:List Int):V:= .fl (us.map λw=> .int<|a9 w s)
theorem MQ M s:[lw s<|M.ta (·.1),lw s<|M.ta (·.2.1),lw s<|M.ta (·.2.2),lw s [0]]=bd (vU M s):=by
 have e: ∀us,lw s us=den (tS s us):=λus=>aA V.fl (rJ (g:=[]) us).1.symm
 rw[e,e,e,e];rfl
set_option smartUnfolding false in
theorem HT{M:aW}(ok:M.ok)(ht:h t=U (.list [lw s<|M.ta (·.1),lw s<|M.ta (·.2.1),lw s<|M.ta (·.2.2),lw s [0]]))(k: ∀h',H.le h h'->Q (.fd<|ff s M.b 0 M.ls) h'):al I (d+1) 25 [.fd<|slots M.b 0 M.ls,.ref t,.fl []] h Q:=by
 refine ab7 (MQ M s▸ht) (aW.cs ok (P:=λM=>h t=U (.list<|bd<|vU M s)->(∀h',H.le h h'->Q (.fd<|ff s M.b 0 M.ls) h')->dG (lf d h [t] (FQ h [t] Q) (I8 M s t) [.z]) []) ?_ ?_ ?_ ?_ ?_ ?_ (MQ M s▸ht) k)
 ·exact λ_ _ _ _ e k=> .d λ_ h' D=>k h' (qi D.f e<|D.am 0 t _ rfl)
 ·exact λ_ _ _ _ _ _ e k=> .d λ_ h' D=>k h' (qi D.f e<|D.am 0 t _ rfl)
 ·exact λ_ _ _ _ _ e k=> .d λ_ h' D=>k h' (qi D.f e<|D.am 0 t _ rfl)
 ·exact λ_ _ _ _ _ _ _ e k=> .d λ_ h' D=>k h' (qi D.f e<|D.am 0 t _ rfl)
 ·exact λ_ _ _ _ _ _ e k=> .d λ_ h' D=>k h' (qi D.f e<|D.am 0 t _ rfl)
 ·exact λ_ _ _ _ _ _ _ _ e k=> .d λ_ h' D=>k h' (qi D.f e<|D.am 0 t _ rfl)
theorem aL5 s:0 <mR s:=by unfold mR;split;decide;split <;>decide
theorem wS(h0:0 <s)(h1:s<=30100000)(hw: -70000<=w/\w<=2001000): -2100000<=a9 w s/\a9 w s<=60000000:=by
 have hb:=aL5 s
 have t0:0<=s -s% mR s:=by
  have z:=AQ (eR hb) (xk (eR h0)<|eR hb)
  rw[aQ8,Int.sub_sub_self]
  exact z
 have t1:s -s% mR s<=30100000:=az (aR5 _<|pr _<|pu hb) h1
 unfold a9
 generalize s -s% mR s=T at t0 t1
 exact⟨az (dd:(-2100000)<= -70000*30100000/1048576)<|uN dd<|az (aR6 (dd:(-70000)<=0) t1)<|aR7 hw.1 t0,
  az (uN dd<|az (aR7 hw.2 t0)<|pA t1 dd) (dd:(2001000:Int)*30100000/1048576<=60000000)⟩
theorem kR(h: -1073741823<=x/\x<=1073741823)(k:yh r):yh<|x::r:=λi m=>(bB.mp m).elim (λe=>e▸h) (k i)
theorem w6:yh []:=λ_ m=>dz m
theorem lI(h0:0 <s)(h1:s<=30100000)(hw: -70000<=w/\w<=2001000): -1073741823<=a9 w s/\a9 w s<=1073741823:=have z:=wS h0 h1 hw;⟨az dd z.1,az z.2 dd⟩
abbrev m9(M:aW):SV:= .int M.m (.b (bn M.b 1) 3)
noncomputable abbrev nn:bI:= .d (.op .none) []
abbrev t9(M:aW)(s:Int):Tr:=rC [8] 4 9 [.op<|.fd<|ff s M.b 0 M.ls,m9 M] [] gI
theorem VJ(ok:M.ok)(k:dG (lf d h [] (FQ h [] Q) (t9 M s) [.z,nn,nn,nn,nn]) []):al I (d+4) 9 [.fd<|ff s M.b 0 M.ls,.int M.m] h Q:=
 b_ [8] _ (Hd.of Fa.nl) (bD<|cD (HO M) (bS.mpr ok.m3) aY) k
theorem iq{M:aW}(ok:M.ok)(h0:0 <s)(h1:s<=30100000)(m:l∈M.ls):il d hb B 3 8 [.op<|.aj<|List.take 4 [.int<|a9 l.1 s,.int<|a9 l.2.1 s,.int<|a9 l.2.2 s,.int<|a9 0 s,.int<|bn c 1,.int 0]] g (.op .none) []:=
 have q:=ok.l l m
 ⟨tI,λh Q D k=>vd (l:=[a9 l.1 s,a9 l.2.1 s,a9 l.2.2 s,a9 0 s]) (λK z=> .tV z) (kR (lI h0 h1 q.1)<|kR (lI h0 h1 q.2.1)<|kR (lI h0 h1 q.2.2)<|kR (lI h0 h1 dd) w6)<|k h D⟩
set_option smartUnfolding false in
theorem Jz{M:aW}(ok:M.ok)(h0:0 <s)(h1:s<=30100000)(k: ∀h',H.le h h'->Q .none h'):al I (d+4) 9 [.fd<|ff s M.b 0 M.ls,.int M.m] h Q:=by
 refine VJ ok (aW.cs ok (P:=λM=>M.ok->dG (lf d h [] (FQ h [] Q) (t9 M s) [.z,nn,nn,nn,nn]) []) ?_ ?_ ?_ ?_ ?_ ?_ ok)
 ·exact λ_ _ _ _ ok=> .c (iq ok h0 h1<|.head _) (.c (iq ok h0 h1<|.tail _<|.head _)<|.d λh' D=>k h'<|a7 D.f)
 ·exact λ_ _ _ _ _ _ ok=> .c (iq ok h0 h1<|.head _) (.c (iq ok h0 h1<|.tail _<|.head _)<|.d λh' D=>k h'<|a7 D.f)
 ·exact λ_ _ _ _ _ ok=> .c (iq ok h0 h1<|.head _) (.c (iq ok h0 h1<|.tail _<|.head _)<|.c (iq ok h0 h1<|.tail _<|.tail _<|.head _)<|.d λh' D=>k h'<|a7 D.f)
 ·exact λ_ _ _ _ _ _ _ ok=> .c (iq ok h0 h1<|.head _) (.c (iq ok h0 h1<|.tail _<|.head _)<|.c (iq ok h0 h1<|.tail _<|.tail _<|.head _)<|.d λh' D=>k h'<|a7 D.f)
 ·exact λ_ _ _ _ _ _ ok=> .c (iq ok h0 h1<|.head _) (.c (iq ok h0 h1<|.tail _<|.head _)<|.c (iq ok h0 h1<|.tail _<|.tail _<|.head _)<|.c (iq ok h0 h1<|.tail _<|.tail _<|.tail _<|.head _)<|.d λh' D=>k h'<|a7 D.f)
 ·exact λ_ _ _ _ _ _ _ _ ok=> .c (iq ok h0 h1<|.head _) (.c (iq ok h0 h1<|.tail _<|.head _)<|.c (iq ok h0 h1<|.tail _<|.tail _<|.head _)<|.c (iq ok h0 h1<|.tail _<|.tail _<|.tail _<|.head _)<|.d λh' D=>k h'<|a7 D.f)
noncomputable def qj(b:Bool)(i:Nat):Bool:=match i with
 |0=>b
 |_=>ae
theorem I9 ls: ∀b k i,ah ls i=U l->bu (ff s b k ls) (65+k+i)=U (we s (qj b i) l):=by
 induction ls with
 |nil=>exact λ_ _ _=>bf
 |cons x r ih=>
  intro b k i e
  show(if 65+k=65+k+(i) then U (we s b x) else bu (ff s ae (k+1) r)<|65+k+i)=_
  cases i with
  |zero=>cases e;exact aM (eZ _).symm
  |succ i=>
   rw[aE<|Int.ne_of_lt<|Int.lt_add_of_pos_right _<|Int.natCast_pos.mpr<|Nat.succ_pos i,show 65+k+((i+1:Nat))=65+(k+1)+i by rw[qU,iu<|i,<-gp,gp 65];rfl,ih ae (k+1) i e]
   cases i <;>rfl
theorem xG{c:Int}(h1:65<=c)(h2:c <65+a.length):(bu (ff s b 0 a) c).isSome=aa:=by
 obtain⟨i,rfl⟩:=Q_ h1
 obtain⟨l,e,_⟩:=DS (mm.mp<|Int.lt_of_add_lt_add_left h2)
 have q:=I9 (s:=s) a b 0 i e
 rw[eZ] at q
 rw[q];rfl
noncomputable def jv:List (Int×Bool×Int)->List V
 |[]=>[]
 |r::s=> .aj [.int<|qt s,.int r.1,.int<|bn r.2.1 128,.int r.2.2]::jv s
theorem wx: ∀l,(jv l).length=l.length
 |[]=>rfl
 |_::r=>aA (· +1) (wx r)
noncomputable abbrev ij(n:Nat)(r:Int×Bool×Int):Prop:=(65<=r.1/\r.1 <65+n)/\(match r.2.1 with|aa=>0<=r.2.2/\r.2.2<=1|ae=>65<=r.2.2/\r.2.2 <65+n)
abbrev tB(M:aW)(s a k2:Int)(b:V)(x y z u v w q:Option SV):SL:=[U<|.op b,U<|.fl [.int a .no,.int k2 .no],U<|.op<|.fd<|ff s M.b 0 M.ls,U<|aL 256,U<|.int M.m .no,x,y,z,u,v,w,q]
theorem l7{e:Int}(h:e<=1)(c:2<=256*(128 -128)+e):False:=absurd (az c<|fG h _) dd
set_option smartUnfolding false in
theorem ag5{R}(ok:M.ok)(o:a8 []<|tB M s A k2 t x y z u v w q)(hr:ij M.ls.length r)(hm:i+(r::l).length=M.m)
  (k: ∀x y z u v w q h',H.le h h'->a8 [] (tB M s A k2 t x y z u v w q)->R .next (aq<|tB M s A k2 t x y z u v w q) h'):
  cn (al I<|d+1) (.aj<|.cons (.x 5)<|.cons (.x 6) .nil) Ct (.aj [.int i,.aj [.int<|qt l,.int r.1,.int<|bn r.2.1 128,.int r.2.2]]) (aq<|tB M s A k2 t x y z u v w q) h R:=by
 have f:=xG (s:=s) (b:=M.b) hr.1.1 hr.1.2
 have n4:=bS.mpr ok.n4
 have lt: ∀{x:Int},x <65+M.ls.length->x<=68:=λq=>iO (jB q<|fG n4 65)
 have g:=lt hr.1.2
 have D:Hd h [] [] h:=Hd.of Fa.nl
 obtain⟨a,c,e⟩:=r
 have go: ∀{j c lo hi:Int},lo<=e->e<=hi->aN [] (.aj [.int i .no,.aj [aL j,.int a<|.b 65 68,aL c,.int e<|.b lo hi]]):=λp q=>d4 (bL tI<|bL (d4<|bU<|cD hr.1.1 g<|bU<|cD p q aY) aY)
 have no: ∀{r':Int×Bool×Int} {l:List<|Int×Bool×Int},i+((a,c,e)::r'::l).length=M.m-> ¬M.m<=i+0+1:=λq z=>by rw[<-q,eZ] at z;exact absurd (bS.mp<|Int.le_of_add_le_add_left z) (Nat.not_le.mpr<|Nat.succ_lt_succ<|Nat.succ_pos _)
 have hr:=hr.2
 cases c <;>rcases l with _|⟨_,_⟩
 ·exact dy [] [.u,.u] D o (go hr.1<|lt hr.2) (.c (λc=>(c f))<|.c (λ_ c=>(c<|xG hr.1 hr.2))<|.d λ_ _ h' D o=>k _ _ _ _ _ _ _ h' (a7 D.f) o)
 ·exact dy [] [.u,.u] D o (go hr.1<|lt hr.2) (.c (λc=>(c f))<|.c (λ_ c=>(c<|xG hr.1 hr.2))<|.c (λ_ _ c=>(no hm c))<|.d λ_ _ _ h' D o=>k _ _ _ _ _ _ _ h' (a7 D.f) o)
 ·exact dy [] [.u,.u] D o (go hr.1 hr.2) (.c (λc=>(c f))<|.c (λ_=>d5 rfl)<|.c (λ_ c=>(l7 hr.2 c))<|.d λ_ _ h' D o=>k _ _ _ _ _ _ _ h' (a7 D.f) o)
 ·exact dy [] [.u,.u] D o (go hr.1 hr.2) (.c (λc=>(c f))<|.c (λ_=>d5 rfl)<|.c (λ_ c=>(l7 hr.2 c))<|.c (λ_ _ c=>(no hm c))<|.d λ_ _ _ h' D o=>k _ _ _ _ _ _ _ h' (a7 D.f) o)
theorem XZ(ok:M.ok)(k: ∀ρ,P .next ρ h): ∀(rs:List<|Int×Bool×Int) (i:Int) (x y z u v w q:Option SV),a8 [] (tB M s a k2 j x y z u v w q)->(∀r∈rs,ij M.ls.length r)->i+rs.length=M.m->
  dg (cn (al I<|d+1) (.aj<|.cons (.x 5)<|.cons (.x 6) .nil) Ct) bP (mc i<|jv rs) (aq<|tB M s a k2 j x y z u v w q) h P:=λrs=>by
 induction rs with
 |nil=>exact λ_ _ _ _ _ _ _ _ _ _ _=>⟨tI,k _⟩
 |cons r rs ih=>exact λi x y z u v w q o hr hm=>⟨tI,ag5 ok o (hr r<|.head _) hm λx y z u v w q h' l o=>⟨h,l,ih (i+1) x y z u v w q o (λr m=>hr r<|.tail _ m)<|(gp i 1 _).trans<|(aA (i+ ·)<|Int.add_comm 1 _).trans hm⟩⟩
theorem My{M:aW}(ok:M.ok)(k:Q .none h):al I (d+2) 11 [.fl<|jv M.rs,.fl [.int a,.int k2],.fd<|ff s M.b 0 M.ls,.int 256] h Q:=by
 refine e_ (fn:=O2) rfl rfl (j1<|eJ<|ay<|ap rfl<|bh<|.xQ (by rw[wx];exact ak ok.m3 dd) ?_)
 rw[wx]
 exact bz (iE<|yU<|ay<|ap rfl<|bh<|.BJ<|XZ ok (λ_=>⟨_,H.le_refl _,k⟩) M.rs 0 Y Y Y Y Y Y Y (aB<|aT (nV<|bL tI<|bL tI aY)<|aB<|gx<|aT tI<|aD<|aD<|aD<|aD<|aD<|aD<|aD bk) ok.r<|qR _)
theorem Lb{α:Type}{P:List α->Prop}{l}(h:l.length<=3)(p0:P [])(p1: ∀x,P [x])(p2: ∀x y,P [x,y])(p3: ∀x y z,P [x,y,z]):P l:=match l,h with
 |[],_=>p0
 |[x],_=>p1 x
 |[x,y],_=>p2 x y
 |[x,y,z],_=>p3 x y z
 |_::_::_::_::_,q=>absurd (aR4 (b:=3) q) (Q9 _)
set_option smartUnfolding false in
theorem HJ(hl:a.length<=3)(k: ∀h',H.le h h'->Q (.int (-1)) h'):al I (d+1) 12 [.fl<|jv a] h Q:=
 Lb (P:=λa=>al I (d+1) 12 [.fl<|jv a] h Q) hl (b_ [] [.z] (Hd.of Fa.nl) (bD aY)<|.d λh' D=>k h'<|a7 D.f)
  (λx=>b_ [] [.z] (Hd.of Fa.nl) (bD aY)<|.d λh' D=>k h'<|a7 D.f)
  (λx y=>b_ [] [.z] (Hd.of Fa.nl) (bD aY)<|.d λh' D=>k h'<|a7 D.f)
  λx y z=>b_ [] [.z] (Hd.of Fa.nl) (bD aY) (.d λh' D=>k h'<|a7 D.f)
set_option smartUnfolding false in
theorem MF(hl:a.length<=3)(k: ∀h',H.le h h'->Q (.int 256) h'):al I (d+1) 31 [.fl<|jv a] h Q:=
 Lb (P:=λa=>al I (d+1) 31 [.fl<|jv a] h Q) hl (b_ [] [.z] (Hd.of Fa.nl) (bD aY)<|.d λh' D=>k h'<|a7 D.f)
  (λx=>b_ [] [.z] (Hd.of Fa.nl) (bD aY)<|.d λh' D=>k h'<|a7 D.f)
  (λx y=>b_ [] [.z] (Hd.of Fa.nl) (bD aY)<|.d λh' D=>k h'<|a7 D.f)
  λx y z=>b_ [] [.z] (Hd.of Fa.nl) (bD aY) (.d λh' D=>k h'<|a7 D.f)
set_option smartUnfolding false in
theorem Mq{M:aW}(ok:M.ok)(k: ∀h',H.le h h'->Q .none h'):al I (d+1) 10 [.fd<|ff s M.b 0 M.ls] h Q:=
 b_ [] [.z] (Hd.of Fa.nl) (bD aY) (aW.cs ok (P:=λM=>dG (lf d h [] (FQ h [] Q) (rC [] 1 10 [.op<|.fd<|ff s M.b 0 M.ls] [] gI) [.z]) []) (λ_ _ _ _=> .d λh' D=>k h'<|a7 D.f) (λ_ _ _ _ _ _=> .d λh' D=>k h'<|a7 D.f) (λ_ _ _ _ _=> .d λh' D=>k h'<|a7 D.f)
  (λ_ _ _ _ _ _ _=> .d λh' D=>k h'<|a7 D.f) (λ_ _ _ _ _ _=> .d λh' D=>k h'<|a7 D.f) λ_ _ _ _ _ _ _ _=> .d λh' D=>k h'<|a7 D.f)
structure Fd where
 M:aW
 n:Int
 nm:Str
 sz:Int
def Fd.fr(f:Fd)(rs:List<|Int×Bool×Int):List<|Nat×V:=[(3,.int f.n),(4,.str f.nm),(5,.int f.sz),(6,.int f.M.de),(7,.int f.M.ck),(8,.fl [.int 62,.int<|a9 349525 f.sz]),(9,.fd<|ff f.sz f.M.b 0 f.M.ls),
 (10,.aj<|jv rs),(11,.aj [.int<|a9 (-30001) f.sz,.int<|a9 50002 f.sz]),(12,.int 256),(13,.int (-1)),(14,.int 45),(15,.int (-1))]
abbrev Fd.fs(f:Fd):List<|Nat×V:=f.fr f.M.rs
structure Fd.ok(f:Fd):Prop where
 M:f.M.ok
 n0:1<=f.n
 n1:f.n<=255
 nm:f.nm="fa"\/f.nm="fb"
 s0:0 <f.sz
 s1:f.sz<=30100000
def Fd.v(f:Fd)(a:ai):V:= .fz a 1 f.fs
theorem ig.nx{p m k:Int}(S:ig a A us p m)(e:a=A++(us++(vs++Z)))(hk:k=vs.length):ig a (A++us) vs (p+4*m) k:=
 ⟨⟨Z,e.trans (aX ..).symm⟩,by rw[S.p,S.m,uc,aC,q9 us];rfl,hk,S.l⟩
noncomputable abbrev cv(v:SV):bI:= .d v []
abbrev xL(s:Int)(us:List Int):SV:= .op (lw s us)
abbrev kS(s:Int):SV:= .fl [.int (a9 (-30001) s) .no,.int (a9 50002 s) .no]
abbrev pS(s:Int):SV:= .fl [aL 62,.int (a9 349525 s) .no]
abbrev yV(f:Fd):List bI:=[cv<|.fl f.M.cS,cv<|.aj [.int f.M.ck<|.b 0 65535,.int f.M.de<|.b 327680 917519],cv<|.op<|.fd<|slots f.M.b 0 f.M.ls,.u,.u,cv<|xL f.sz<|f.M.ta (·.1),.u,.u,cv<|xL f.sz<|f.M.ta (·.2.1),.u,.u,cv<|xL f.sz<|f.M.ta (·.2.2),.u,.u,cv<|xL f.sz [0],.u,.u,
 cv<|.op<|.fl<|jv f.M.rs,cv<|kS f.sz,cv<|.op<|.fl [],cv<|.op<|.fd<|ff f.sz f.M.b 0 f.M.ls,cv<|pS f.sz,cv<|aL 256,.u,nn,nn,nn,nn,nn,.u,cv<|aL (-1)]
noncomputable abbrev EG:List Nat:=[8,9,10,11,12,21,22,23,24,25,26,27,31]
abbrev Cp(f:Fd)(sv:SV):List SV:=[.op<|.a6<|bs f.M.W,.int f.n<|.b 1 255,.op<|.str f.nm,sv]
abbrev Me(f:Fd)(sv:SV):Tr:=rC EG 6 28 (Cp f sv) [] gI
theorem cI(ov:aN g v)(c: ∀h Q,(∀h',H.le h h'->Q (den v) h')->al I (d+n) f (bd vs) h Q):il d hb B n f vs g v []:=
 ⟨ov,λh Q D k=>c h Q λh' l=>k h'<|D.le l⟩
theorem Mj(ov:aN g v)(c: ∀h Q,Hd hb B g h->(∀h',H.le h h'->Q (den v) h')->al I (d+n) f (bd vs) h Q):il d hb B n f vs g v []:=
 ⟨ov,λh Q D k=>c h Q D λh' l=>k h'<|D.le l⟩
theorem o7 i:aN g<|.int i<|.b i i:=⟨aU i,aU i⟩
theorem oU s:a9 0 s=0:=by unfold a9;rw[Ra];rfl
abbrev p5(M:aW):Int:=32+4*(64+M.n -65+1)+4*(M.n+1)+4*(M.n+1)+4*(M.n+1)+4*1
abbrev a4(M:aW):List Int:=M.c0++M.ci++M.ta (·.1)++M.ta (·.2.1)++M.ta (·.2.2)
theorem CJ M:M.W=(a4 M++[0]++lX M.rs++[-30001,50002])++[]++[1000,349525]:=by unfold aW.W;rw[c8];simp only[aX]
section
variable{f:Fd}(ok:f.ok)
include ok
theorem Cu:ig f.M.W (f.M.c0++f.M.ci) (f.M.ta (·.1)) (32+4*(64+f.M.n -65+1))<|f.M.n+1:=(KW ok.M).nx rfl (by rw[ry];rfl)
theorem CZ:ig f.M.W (f.M.c0++f.M.ci++f.M.ta (·.1)) (f.M.ta (·.2.1)) (32+4*(64+f.M.n -65+1)+4*(f.M.n+1))<|f.M.n+1:=(Cu ok).nx (aX ..).symm (by rw[ry];rfl)
theorem FM:ig f.M.W (f.M.c0++f.M.ci++f.M.ta (·.1)++f.M.ta (·.2.1)) (f.M.ta (·.2.2)) (32+4*(64+f.M.n -65+1)+4*(f.M.n+1)+4*(f.M.n+1))<|f.M.n+1:=(CZ ok).nx (by rw[aX,aX];rfl) (by rw[ry];rfl)
theorem BO:ig f.M.W (f.M.c0++f.M.ci++f.M.ta (·.1)++f.M.ta (·.2.1)++f.M.ta (·.2.2)) [0] (32+4*(64+f.M.n -65+1)+4*(f.M.n+1)+4*(f.M.n+1)+4*(f.M.n+1)) 1:=(FM ok).nx (by rw[aX,aX,aX];rfl) rfl
theorem EK:ig f.M.W (a4 f.M++[0]) (lX f.M.rs) (p5 f.M) f.M.m:=(BO ok).nx (by rw[aX,aX,aX,aX];rfl) (by rw[zc];rfl)
theorem B5:ig f.M.W (a4 f.M++[0]++lX f.M.rs) [-30001,50002] (p5 f.M+4*f.M.m) 2:=(EK ok).nx (by rw[aX,aX,aX,aX,aX];rfl) rfl
theorem D9:ig f.M.W (a4 f.M++[0]++lX f.M.rs++[-30001,50002]) [] (p5 f.M+4*f.M.m+4*2) 0:=(B5 ok).nx (by rw[aX,aX,aX,aX,aX,aX];rfl) rfl
theorem HG:ig f.M.W (a4 f.M++[0]++lX f.M.rs++[-30001,50002]++[]) [1000,349525] (p5 f.M+4*f.M.m+4*2+4*0) 2:=(D9 ok).nx ((CJ f.M).trans<|aX ..) rfl
theorem JW(c:f.nm=eF ""):False:=ok.nm.elim (λe=>absurd (e.symm.trans c) dd) λe=>absurd (e.symm.trans c) dd
theorem za:a_ (jv f.M.rs).length:=by rw[wx];exact ak ok.M.m3 dd
end
theorem HR: ∀(ls:List<|Int×Int×Int) (b:Bool) (k:Int),(ff s b k ls).length=ls.length
 |[],_,_=>rfl
 |_::r,_,_=>aA (· +1) (HR r _ _)
theorem Jx{f:Fd}(ok:f.ok):a_ (ff f.sz f.M.b 0 f.M.ls).length:=by rw[HR];exact ak ok.M.n4 dd
theorem Ja(f:Fd):((jv f.M.rs).length:Int)=f.M.m:=by rw[wx];rfl
theorem tL{M:aW}(h: ∀l∈M.ls,-70000<=f l/\f l<=2001000):vY<|M.ta f:=λw m=>(bB.mp m).elim (λe=>e▸dd) λm=>(AS.mp m).elim λl e=>e.2▸⟨az dd (h l e.1).1,g7 (h l e.1).2 dd⟩
theorem w0:vY [0]:=λw m=>by rw[b9.mp m];decide
theorem wk:vY [-30001,50002]:=λw m=>(bB.mp m).elim (λe=>e▸dd) λm=>by rw[b9.mp m];decide
theorem dm{x r:Int}(h:0<=x/\x <256):(x+256*r)% 256=x/\(x+256*r)/256=r:=
 ⟨(Int.add_mul_emod_self_left x 256 r).trans<|xl h.1 h.2,(Q5 x r dd).trans<|by rw[GD h.1 h.2,qR]⟩
theorem ZD(hx:0<=x/\x <256)(a:0<=y/\y <256)(hz:0<=z/\z <256)(b:0<=q/\q <256):oc (x+256*(y+256*(z+256*q)))=[q,z,y,x]:=by
 unfold oc
 generalize hw:x+256*(y+256*(z+256*q))=w
 have e1:=hw▸(dm hx).2
 have e2:w/65536=z+256*q:=by rw[show w/65536=w/256/256 from(sR (y:=256) (z:=256) dd).symm,e1];exact(dm a).2
 have e3:w/16777216=q:=by rw[show w/16777216=w/65536/256 from(sR (y:=65536) (z:=256) dd).symm,e2];exact(dm hz).2
 rw[e1,e2,e3,(dm a).1,(dm hz).1,xl b.1 b.2,<-hw,(dm hx).1]
theorem au0 j a e b:wn j (a,b,e)=e+256*(bn b 128+256*(a+256*j)):=by
 cases b
 ·show j*16777216+a*65536+0+e=e+256*(0+256*(a+256*j));lia
 ·show j*16777216+a*65536+32768+e=e+256*(128+256*(a+256*j));lia
theorem HK{M:aW}(ok:M.ok) rs(hr: ∀r∈rs,ij M.ls.length r):(lX rs).map (λw=>V.aj<|vi<|oc w)=jv rs:=by
 induction rs with
 |nil=>rfl
 |cons r s ih=>
  obtain⟨a,b,e⟩:=r
  have h:=hr _ (.head _)
  have n4:=bS.mpr ok.n4
  have lt: ∀{x:Int},65<=x/\x <65+M.ls.length->0<=x/\x <256:=λq=>⟨az dd q.1,jB q.2<|Int.le_trans (fG n4 65) dd⟩
  have hj:0<=qt s/\qt s <256:=match s with
   |[]=>(dd:(0:Int)<=128/\(128:Int) <256)
   |_::_=>(dd:(0:Int)<=0/\(0:Int) <256)
  have hb:(0)<=bn b 128/\bn b 128 <256:=by cases b <;>decide
  have he:=by
   cases b
   ·exact lt h.2
   ·exact⟨h.2.1,g7 h.2.2 dd⟩
  show V.aj (vi<|oc<|wn (qt s) (a,b,e))::(lX s).map _=_
  rw[au0,ZD he hb (lt h.1) hj,ih λr m=>hr r<|.tail _ m]
  rfl
set_option smartUnfolding false in
theorem az3(ok:f.ok)(k: ∀a h',H.le h h'->Q (f.v a) h'):dG (lf d h [] (FQ h [] Q) (Me f<|.int f.sz<|.b 1 30100000)<|yV f) []:=by
 have s1:f.sz<=33554431:=az ok.s1 dd
 refine .c ?_ (.c ?_<|.c ?_<|.c ?_<|.c ?_<|.c ?_<|.c ?_<|.c ?_<|.c ?_<|.c ?_<|.c ?_<|.c ?_<|.c ?_<|.c ?_<|.c ?_<|.c ?_<|.c ?_<|.c ?_<|.c ?_<|.c ?_<|.c ?_<|.c ?_<|.c ?_<|.c ?_<|.c ?_<|.c ?_<|.c ?_<|.c ?_<|.d ?_)
 ·exact cI (EY (g:=[]) ok.M) λh Q k=>H7 ok.M k
 ·exact cI (d4<|cD ok.M.c0 (iO ok.M.c1)<|cD ok.M.d0 ok.M.d1 aY) λh Q k=>Ko ok.M k
 ·exact cI tI λh Q k=>ON ok.M k
 ·exact λ_=>cI tI λh Q k=>lU (Cu ok) ok.s0 s1 (tL λl m=>(ok.M.l l m).1) k
 ·exact λ_=>λc=>(c<|oU _)
 ·exact λ_ _=>cI tI λh Q k=>lU (CZ ok) ok.s0 s1 (tL λl m=>(ok.M.l l m).2.1) k
 ·exact λ_ _=>λc=>(c<|oU _)
 ·exact λ_ _ _=>cI tI λh Q k=>lU (FM ok) ok.s0 s1 (tL λl m=>(ok.M.l l m).2.2) k
 ·exact λ_ _ _=>λc=>(c<|oU _)
 ·exact λ_ _ _ _=>cI tI λh Q k=>lU (BO ok) ok.s0 s1 w0 k
 ·exact λ_ _ _ _=>λc=>(c<|oU _)
 ·exact λ_ _ _ _ _=>cI tI λh Q k=>vP (EK ok) λh' l=>(HK ok.M f.M.rs ok.M.r).symm▸k h' l
 ·exact λ_ _ _ _ _=>cI (nV<|bL tI<|bL tI aY) λh Q k=>lU (B5 ok) ok.s0 s1 wk k
 ·exact λ_ _ _ _ _=>cI tI λh Q k=>vP (D9 ok) k
 ·exact λ_ _ _ _ _=>Mj tI λh Q D k=>HT ok.M (D.am 0 _ _ rfl) k
 ·exact λ_ _ _ _ _=>cI (nV<|bU<|bL tI aY) λh Q k=>M9 (xc ok.M) (CJ f.M) (HG ok).p ok.s0 s1 k
 ·exact λ_ _ _ _ _=>cI (o7 _) λh Q k=>MF ok.M.m3 k
 ·exact λ_ _ _ _ _ _=>λc=>(JW ok c)
 ·exact λ_ _ _ _ _ _ _=>cI tI λh Q k=>vd (l:=[62,a9 349525 f.sz]) (λK z=> .fJ z) (kR dd<|kR (lI ok.s0 ok.s1 dd) w6) (k h<|H.le_refl h)
 ·exact λ_ _ _ _ _ _ _=>cI tI λh Q k=>vd (l:=[a9 (-30001) f.sz,a9 50002 f.sz]) (λK z=> .fJ z) (kR (lI ok.s0 ok.s1 dd)<|kR (lI ok.s0 ok.s1 dd) w6) (k h<|H.le_refl h)
 ·exact λ_ _ _ _ _ _ _=>za ok
 ·exact λ_ _ _ _ _ _ _=>cI tI λh Q k=>by
   have z:=Jz (d:=d) ok.M ok.s0 ok.s1 k
   rw[<-Ja f] at z;exact z
 ·exact λ_ _ _ _ _ _ _=>cI tI λh Q k=>Mq ok.M k
 ·exact λ_ _ _ _ _ _ _=>cI tI λh Q k=>My ok.M (k h<|H.le_refl h)
 ·exact λ_ _ _ _ _ _ _=>Jx ok
 ·exact λ_ _ _ _ _ _ _=>za ok
 ·exact λ_ _ _ _ _ _ _=>d5 rfl
 ·exact λ_ _ _ _ _ _ _=>cI (o7 _) λh Q k=>HJ ok.M.m3 k
 ·exact λ_ _ _ _ _ _ _=>λh' D=>k _ h' (a7 D.f)
theorem Y5(ok:f.ok)(o:aN g a):bC g<|Cp f a:=bD (cD ok.n0 ok.n1<|bD<|bL o aY)
theorem al1{f:Fd}(ok:f.ok)(k: ∀a h',H.le h h'->Q (f.v a) h'):al I (d+6) 28 [.a6<|bs f.M.W,.int f.n,.str f.nm,.int f.sz] h Q:=
 b_ (vs:=Cp f<|.int f.sz<|.b 1 30100000) EG (yV f) (Hd.of Fa.nl) (Y5 ok ⟨ok.s0,ok.s1⟩) (az3 ok k)
set_option smartUnfolding false in
theorem YB(ok:Fd.ok ⟨M,n,j,M.de⟩)(k: ∀a h',H.le h h'->Q (Fd.v ⟨M,n,j,M.de⟩ a) h'):dG (lf d h [] (FQ h [] Q) (Me ⟨M,n,j,M.de⟩<|.op .none)<|yV ⟨M,n,j,M.de⟩) []:=by
 have s1:M.de<=33554431:=az ok.s1 dd
 refine .c ?_ (.c ?_<|.c ?_<|.c ?_<|.c ?_<|.c ?_<|.c ?_<|.c ?_<|.c ?_<|.c ?_<|.c ?_<|.c ?_<|.c ?_<|.c ?_<|.c ?_<|.c ?_<|.c ?_<|.c ?_<|.c ?_<|.c ?_<|.c ?_<|.c ?_<|.c ?_<|.c ?_<|.c ?_<|.c ?_<|.c ?_<|.c ?_<|.d ?_)
 ·exact cI (EY (g:=[]) ok.M) λh Q k=>H7 ok.M k
 ·exact cI (d4<|cD ok.M.c0 (iO ok.M.c1)<|cD ok.M.d0 ok.M.d1 aY) λh Q k=>Ko ok.M k
 ·exact cI tI λh Q k=>ON ok.M k
 ·exact λ_=>cI tI λh Q k=>lU (Cu ok) ok.s0 s1 (tL λl m=>(ok.M.l l m).1) k
 ·exact λ_=>λc=>(c<|oU _)
 ·exact λ_ _=>cI tI λh Q k=>lU (CZ ok) ok.s0 s1 (tL λl m=>(ok.M.l l m).2.1) k
 ·exact λ_ _=>λc=>(c<|oU _)
 ·exact λ_ _ _=>cI tI λh Q k=>lU (FM ok) ok.s0 s1 (tL λl m=>(ok.M.l l m).2.2) k
 ·exact λ_ _ _=>λc=>(c<|oU _)
 ·exact λ_ _ _ _=>cI tI λh Q k=>lU (BO ok) ok.s0 s1 w0 k
 ·exact λ_ _ _ _=>λc=>(c<|oU _)
 ·exact λ_ _ _ _ _=>cI tI λh Q k=>vP (EK ok) λh' l=>(HK ok.M M.rs ok.M.r).symm▸k h' l
 ·exact λ_ _ _ _ _=>cI (nV<|bL tI<|bL tI aY) λh Q k=>lU (B5 ok) ok.s0 s1 wk k
 ·exact λ_ _ _ _ _=>cI tI λh Q k=>vP (D9 ok) k
 ·exact λ_ _ _ _ _=>Mj tI λh Q D k=>HT ok.M (D.am 0 _ _ rfl) k
 ·exact λ_ _ _ _ _=>cI (nV<|bU<|bL tI aY) λh Q k=>M9 (xc ok.M) (CJ M) (HG ok).p ok.s0 s1 k
 ·exact λ_ _ _ _ _=>cI (o7 _) λh Q k=>MF ok.M.m3 k
 ·exact λ_ _ _ _ _ _=>λc=>(JW ok c)
 ·exact λ_ _ _ _ _ _ _=>cI tI λh Q k=>vd (l:=[62,a9 349525 M.de]) (λK z=> .fJ z) (kR dd<|kR (lI ok.s0 ok.s1 dd) w6) (k h<|H.le_refl h)
 ·exact λ_ _ _ _ _ _ _=>cI tI λh Q k=>vd (l:=[a9 (-30001) M.de,a9 50002 M.de]) (λK z=> .fJ z) (kR (lI ok.s0 ok.s1 dd)<|kR (lI ok.s0 ok.s1 dd) w6) (k h<|H.le_refl h)
 ·exact λ_ _ _ _ _ _ _=>za ok
 ·exact λ_ _ _ _ _ _ _=>cI tI λh Q k=>by
   have z:=Jz (d:=d) ok.M ok.s0 ok.s1 k
   rw[<-Ja ⟨M,n,j,M.de⟩] at z;exact z
 ·exact λ_ _ _ _ _ _ _=>cI tI λh Q k=>Mq ok.M k
 ·exact λ_ _ _ _ _ _ _=>cI tI λh Q k=>My ok.M (k h<|H.le_refl h)
 ·exact λ_ _ _ _ _ _ _=>Jx ok
 ·exact λ_ _ _ _ _ _ _=>za ok
 ·exact λ_ _ _ _ _ _ _=>d5 rfl
 ·exact λ_ _ _ _ _ _ _=>cI (o7 _) λh Q k=>HJ ok.M.m3 k
 ·exact λ_ _ _ _ _ _ _=>λh' D=>k _ h' (a7 D.f)
theorem Xc(ok:Fd.ok ⟨M,n,j,M.de⟩)(k: ∀a h',H.le h h'->Q (Fd.v ⟨M,n,j,M.de⟩ a) h'):al I (d+6) 28 [.a6<|bs M.W,.int n,.str j] h Q:=
 b_ EG (yV ⟨M,n,j,M.de⟩) (Hd.of Fa.nl) (bD<|cD ok.n0 ok.n1<|bD aY) (YB ok k)
noncomputable abbrev whB(C:cW)(e:E)(b:Ss)(m:Nat)(P:Fl->L->H->Prop):Fl->L->H->Prop:=λf ρ h=>match f with
 |.next=> ∃h',H.le h' h/\iZ (λρ h a F=>(ao I C e ρ).t h a F) (λρ h Q=>aZ I C b ρ h Q) m ρ h' P
 |.cont=> ∃h',H.le h' h/\iZ (λρ h a F=>(ao I C e ρ).t h a F) (λρ h Q=>aZ I C b ρ h Q) m ρ h' P
 |.brk=>P .next ρ h
 |.ret v=>P (.ret v) ρ h
theorem fO stop hs(D:Hd hb B g h)(o:a8 g ρ)
  (k:dG (lf d hb B (FP hb B<|whB (al I<|d+n) e b m P) ((rE (rC stop n) n e ρ g).t (λg=>rS (rC stop n) n (.tr b) ρ g .done) λg=> .done .brk ρ g) hs) []):
  iZ (λρ h c F=>(ao I (al I<|d+n) e ρ).t h c F) (λρ h Q=>aZ I (al I<|d+n) b ρ h Q) (m+1) (aq ρ) h P:=
 (iy (mr stop n) e).t D o (rR _ hs (λ_ x=>x) k) (λg1 h1 l1 D1 t=>tz (mr stop n) (.tr b) _ _ _ _ _ D1 (dJ l1 o) t λi h' a f _ D' o' _ t=>match f,t with
  |.next,t=>t h' D' o'
  |.cont,t=>t h' D' o'
  |.brk,t=>t h' D' o'
  |.ret v,t=>t h' D' o') λg1 h1 l1 D1 t=>t h1 D1 (dJ l1 o)
noncomputable def dC:List (Int×Bool×Int)->Int->Option (Int×Bool×Int)
 |[],_=>Y
 |r::s,c=>if r.1=c then U r else dC s c
noncomputable def kw(i:Int):Int:=if i=0 then -30001 else 50002
noncomputable def Fd.wz(f:Fd):Option (Int×Bool×Int)->V
 |Y=> .none
 |U r=>match r.2.1 with
  |aa=> .aj [.int 0,.int<|a9 (kw r.2.2) f.sz]
  |ae=> .aj [.int 1,.int r.2.2]
theorem IC{a:List<|Int×Bool×Int}{c:Int}{r:Int×Bool×Int}(h:dC a c=U r):r∈a:=by
 induction a with
 |nil=>exact bQ h
 |cons q s ih=>
  have h:(if q.1=c then U q else dC s c)=U r:=h
  by_cases e:q.1=c
  ·rw[aM e] at h
   exact bM h▸ .head _
  ·rw[aE e] at h
   exact .tail _ (ih h)
theorem wH: ∀{a:List<|Int×Bool×Int} {c:Int},(∀r∈a,ij n r)-> ¬(65<=c/\c <65+n)->dC a c=Y
 |[],_,_,_=>rfl
 |r::s,c,h,hc=>(aE λ(e:r.1=c)=>hc<|e▸(h r<|.head _).1).trans (wH (λr m=>h r<|.tail _ m) hc)
abbrev yH(f:Fd)(rs:List<|Int×Bool×Int)(b:ai)(lv:Option SV)(c p:Int)(a:List V)(go:Bool)(x y z u:Option SV):SL:=[U<|.op<|.fz b 1<|f.fr rs,lv,U<|.int c .no,U<|.int p .no,U<|.op<|.aj a,U<|.op<|.bool go,x,y,z,u]
theorem I4{p:Int}{n:Nat}(e:p=n)(l:n<=3):0<=p/\p<=4611686018427387904:=e▸⟨du n,az (bS.mpr l) dd⟩
theorem qw x B: ∀A:List α,ah (A++x::B) A.length=U x
 |[]=>rfl
 |_::A=>qw x B A
theorem xV{p:Int}{x:V}(e:p=A.length):ah (A++x::B) p.toNat=U x:=by rw[e];exact qw x B A
set_option smartUnfolding false in
theorem Md(o:a8 []<|yH f t j a c p l ae x y z u)(k: ∀ρ h',a8 [] ρ->H.le h h'->P .next (aq ρ) h'):
  iZ (λρ h b F=>(ao I (al I<|d+1) (.x 5) ρ).t h b F) (λρ h Q=>aZ I (al I<|d+1) BB ρ h Q) (m+1) (aq<|yH f t j a c p l ae x y z u) h P:=
 fO [] [] (Hd.of Fa.nl) o (.d λh' D o=>k _ h' o<|a7 D.f)
theorem Jt{f:Fd}(h:0<=e/\e<=1):ah [V.int<|a9 (-30001) f.sz,V.int<|a9 50002 f.sz] (256*(128 -128)+e).toNat=U (.int<|a9 (kw e) f.sz):=by
 rcases show e=0\/e=1 by lia with rfl|rfl <;>rfl
abbrev an1(d:Nat)(m:Nat)(ρ:L)(h:H)(P:Fl->L->H->Prop):Prop:=iZ (λρ h a F=>(ao I (al I<|d+1) (.x 5) ρ).t h a F) (λρ h Q=>aZ I (al I<|d+1) BB ρ h Q) m ρ h P
abbrev vL(j a c e lo hi:Int):SV:= .aj [aL j,.int a .no,aL c,.int e<|.b lo hi]
theorem Aa(p:h<=e)(q:e<=l):aN []<|vL j a c e h l:=d4 (bU<|bL tI<|bU<|cD p q aY)
set_option smartUnfolding false in
theorem Ic(n4:(f.M.ls.length:Int)<=4): ∀(s:List<|Int×Bool×Int) (r:Int×Bool×Int) (A:List V) (p:Int) (x y z u:Option SV),a8 [] (yH f W Q X c p (A++jv (r::s)) aa x y z u)->(∀q∈r::s,ij f.M.ls.length q)->p=A.length->A.length+s.length<=2->
  (∀t,dC (r::s) c=U t-> ∀ρ h',a8 [] ρ->H.le h h'->P (.ret<|f.wz<|U t) (aq ρ) h')->(dC (r::s) c=Y-> ∀ρ h',a8 [] ρ->H.le h h'->P .next (aq ρ) h')->
  an1 d (s.length+2) (aq<|yH f W Q X c p (A++jv (r::s)) aa x y z u) h P:=λs=>by
 induction s with
 |nil=>
  intro r A p x y z u o hr hp hA b g
  have l:=I4 hp (uR<|Nat.le_trans (cg _ _) hA)
  have hr:=(hr r<|.head _).2
  obtain⟨a,i,e⟩:=r
  cases i with
  |true=>exact fO [] [.v<|vL 128 a 128 e 0 1,.v<|.op<|.int<|a9 (kw e) f.sz] (Hd.of Fa.nl) o (.c l (.c ⟨xV hp,Aa hr.1 hr.2⟩ (.b (.c (λ_=>⟨Jt hr,tI⟩)<|.d λc h' D o=>b _ (aM c) _ h' o<|a7 D.f)
    (.d λc h' D o=>⟨h',H.le_refl _,Md o λρ h2 o2 l=>g (aE c) ρ h2 o2<|H.le_trans (a7 D.f) l⟩))))
  |false=>exact fO [] [.v<|vL 128 a 0 e 65 68] (Hd.of Fa.nl) o (.c l (.c ⟨xV hp,Aa hr.1<|Int.le_of_lt_add_one<|Int.lt_of_lt_of_le hr.2<|Int.add_le_add_left n4 65⟩ (.b (.c (λc _ h' D o=>b _ (aM c) _ h' o<|a7 D.f)<|.d λc _ h' D o=>b _ (aM c) _ h' o<|a7 D.f)
    (.d λc h' D o=>⟨h',H.le_refl _,Md o λρ h2 o2 l=>g (aE c) ρ h2 o2<|H.le_trans (a7 D.f) l⟩))))
 |cons r2 s ih=>
  intro r A p x y z u o hr hp hA b g
  have l:=I4 hp (uR<|Nat.le_trans (cg _ _) hA)
  have j:=λq m=>hr q (.tail _ m)
  have hr:=(hr r<|.head _).2
  obtain⟨a,i,e⟩:=r
  have ih:=λx y z u o (c)=>ih r2 (A++[.aj [.int 0,.int a,.int<|bn i 128,.int e]]) (p+0+1) x y z u (by rw[aX];exact o) j (by rw[aC,hp];rfl) (by rw[aC,cG,c4 [_].length];exact hA) (λt e=>b t<|(aE c).trans e) λe=>g ((aE c).trans e)
  rw[aX] at ih
  cases i with
  |true=>exact fO [] [.v<|vL 0 a 128 e 0 1,.v<|.op<|.int<|a9 (kw e) f.sz] (Hd.of Fa.nl) o (.c l (.c ⟨xV hp,Aa hr.1 hr.2⟩ (.b (.c (λ_=>⟨Jt hr,tI⟩)<|.d λc h' D o=>b _ (aM c) _ h' o<|a7 D.f)
    (.d λc h' D o=>⟨h,a7 D.f,ih _ _ _ _ o c⟩))))
  |false=>exact fO [] [.v<|vL 0 a 0 e 65 68] (Hd.of Fa.nl) o (.c l (.c ⟨xV hp,Aa hr.1<|Int.le_of_lt_add_one<|Int.lt_of_lt_of_le hr.2<|Int.add_le_add_left n4 65⟩ (.b (.c (λc _ h' D o=>b _ (aM c) _ h' o<|a7 D.f)<|.d λc _ h' D o=>b _ (aM c) _ h' o<|a7 D.f)
    (.d λc h' D o=>⟨h,a7 D.f,ih _ _ _ _ o c⟩))))
def Fd.dB(f:Fd)(c:Int):Prop:=65<=c/\c <65+f.M.ls.length
theorem Fd.ok.n4{f:Fd}(ok:f.ok):(f.M.ls.length:Int)<=4:=bS.mpr ok.M.n4
theorem k8{f:Fd}(ok:f.ok)(p:f.dB c):c<=68:=iO (jB p.2<|fG ok.n4 65)
abbrev gH(s:Int)(b:Bool)(l:Int×Int×Int):SV:= .aj [.int (a9 l.1 s) .no,.int (a9 l.2.1 s) .no,.int (a9 l.2.2 s) .no,aL 0,aL<|bn b 1,aL 0]
theorem FL{f:Fd}(p:f.dB c): ∃l,ah f.M.ls (c -65).toNat=U l/\l∈f.M.ls/\bu (ff f.sz f.M.b 0 f.M.ls) c=U (den<|gH f.sz (qj f.M.b (c -65).toNat) l):=by
 obtain⟨i,rfl⟩:=Q_ p.1
 have e:(65+(i:Int) -65).toNat=i:=by rw[iu,mn];rfl
 obtain⟨l,hl,hm⟩:=DS (mm.mp<|Int.lt_of_add_lt_add_left p.2)
 have q:=I9 (s:=f.sz) f.M.ls f.M.b 0 i hl
 unfold we at q
 rw[eZ,oU] at q
 rw[e]
 exact⟨l,hl,hm,q⟩
theorem N7:aN []<|gH s b l:=d4 (bL tI<|bL tI<|bL tI<|bU<|bU<|bU aY)
theorem sr{o:Option V}(e:o=U a):o.getD h=a:=by rw[e];rfl
noncomputable def LG(b:Bool):Int:=match b with
 |aa=>0
 |ae=> -1
abbrev Fd.st(f:Fd)(c:Int):Int:=LG (qj f.M.b (c -65).toNat)
set_option smartUnfolding false in
theorem Xx{f:Fd}(ok:f.ok)(p:f.dB c)(k: ∀h',H.le h h'->Q (.int<|f.st c) h'):al I (d+1) 18 [f.v a,.int c] h Q:=by
 obtain⟨l,_,_,e⟩:=FL p
 have o:bC [] [.op<|f.v a,.int c<|.b 65 68]:=bD (cD p.1 (k8 ok p) aY)
 unfold Fd.st at k
 generalize qj f.M.b (c -65).toNat=b at e k
 cases b with
 |true=>exact b_ [] [.v<|gH f.sz aa l] (Hd.of Fa.nl) o (.c ⟨sr e,N7⟩<|.d λh' D=>k h'<|a7 D.f)
 |false=>exact b_ [] [.v<|gH f.sz ae l] (Hd.of Fa.nl) o (.c ⟨sr e,N7⟩<|.d λh' D=>k h'<|a7 D.f)
theorem Gl{f:Fd}(p:f.dB c):(bu (ff f.sz f.M.b 0 f.M.ls) c).isSome=aa:=xG p.1 p.2
theorem aF7 ls: ∀b k,(bu (ff s b k ls) c).isSome=aa->65+k<=c/\c <65+k+ls.length:=by
 induction ls with
 |nil=>exact λ_ _ e=>fy e
 |cons l r ih=>
  intro b k e
  have e:(if 65+k=c then U (we s b l) else bu (ff s ae (k+1) r) c).isSome=aa:=e
  by_cases z:65+k=c
  ·exact z▸⟨aU _,aQ7 _<|Int.ofNat_lt.mpr<|Nat.succ_pos _⟩
  ·rw[aE z] at e
   have w:=ih _ _ e
   rw[<-gp,gp (65+k) 1,iu 1] at w
   exact⟨eR w.1,w.2⟩
theorem Zq{f:Fd}(e:(bu (ff f.sz f.M.b 0 f.M.ls) c).isSome=aa):f.dB c:=aF7 (k:=0) _ _ e
theorem aH3{f:Fd}{l c:Int}(e:qj f.M.b (l -65).toNat=ae)(p:65<=l):(if l=65 then dC f.M.rs c else Y)=Y:=by
 by_cases z:l=65
 ·rw[aM z]
  rw[z] at e
  have e:=e
  unfold aW.b at e
  cases q:f.M.rs with
  |nil=>rfl
  |cons _ _=>rw[q] at e;cases e
 ·exact aE z
theorem at2{l:Int}(e:qj b (l -65).toNat=aa)(p:65<=l):l=65/\b=aa:=by
 obtain⟨i,rfl⟩:=Q_ p
 rw[show(65+(i:Int) -65).toNat=i by rw[iu,mn];rfl] at e
 cases i with
 |zero=>exact⟨rfl,e⟩
 |succ i=>cases e
theorem O3 s: ¬128 <qt s:=match s with
 |[]=>(dd: ¬(128:Int) <128)
 |_::_=>(dd: ¬(128:Int) <0)
theorem ur(k:iZ (λρ h a F=>(ao I C e ρ).t h a F) (λρ h Q=>aZ I C b ρ h Q) n ρ h P):ex I C (.while e b) ρ h P:=⟨n,k⟩
abbrev HC(f:SF):List bI:=[.d (aL 0) [],.s SL (a8 []) λg ρ=>(f,ρ,g)]
set_option smartUnfolding false in
theorem aD7{f:Fd}(hr: ∀q∈r::s,ij f.M.ls.length q)(n4:(f.M.ls.length:Int)<=4)(m3:(r::s).length<=3)
  (k: ∀h',H.le h h'->Q (f.wz<|dC (r::s) c) h') (c18: ∀h Q,(∀h',H.le h h'->Q (.int 0) h')->al I (d+1) 18 [.fz a 1<|f.fr<|r::s,.int 65] h Q):al I (d+2) 94 [.fz a 1<|f.fr<|r::s,.int 65,.int c] h Q:=by
 have n2:([]:List V).length+s.length<=2:=by rw[j2,gK];exact uT m3
 have tn:c=256->dC (r::s) c=Y:=λe=>wH hr λz=>absurd (jB z.2<|fG n4 65) (e▸dd)
 have o:bC [] [.op<|.fz a 1<|f.fr<|r::s,aL 65,.int c .no]:=bD (bU<|bL tI aY)
 cases T:dC (r::s) c with
 |none=>
  rw[T] at k
  refine b_ [18] (HC .next) (Hd.of Fa.nl) o (.c (cI (o7 _) c18)<|.c (λ_ h' D=>k h'<|a7 D.f)<|.c (λ_ c=>(O3 s c))<|.c ?_<|.d λ_ _ ρ _ h' D=>k h'<|a7 D.f)
  exact λ_ _=>⟨λ_ o=>⟨tI,o,G.le_refl _⟩,λh P D k=>ur<|Ic n4 s r [] 0 Y Y Y Y (aB<|gx<|aT tI<|aT tI<|aB<|aB<|aD<|aD<|aD<|aD bk) hr rfl n2 (λt e=>bQ <|T.symm.trans e) λ_ ρ h' o l=>k ρ h' o<|D.le l⟩
 |some t=>
  rw[T] at k
  refine b_ [18] (HC<|.ret<|.op<|f.wz<|some t) (Hd.of Fa.nl) o (.c (cI (o7 _) c18)<|.c (λc h' D=>(show False from gJ <|T.symm.trans<|tn c).elim)<|.c (λ_ c=>(O3 s c))<|.c ?_<|.d λ_ _ ρ _ h' D=>k h'<|a7 D.f)
  exact λ_ _=>⟨λ_ o=>⟨tI,o,G.le_refl _⟩,λh P D k=>ur<|Ic n4 s r [] 0 Y Y Y Y (aB<|gx<|aT tI<|aT tI<|aB<|aB<|aD<|aD<|aD<|aD bk) hr rfl n2 (λb e ρ h' o l=>by rw[T] at e;cases e;exact k ρ h' o<|D.le l) λe=>gJ <|T.symm.trans e⟩
set_option smartUnfolding false in
theorem IY{f:Fd}(ok:f.ok)(p:f.dB l)(k: ∀h',H.le h h'->Q (f.wz (if l=65 then dC f.M.rs c else Y)) h'):al I (d+2) 94 [f.v a,.int l,.int c] h Q:=by
 have c18: ∀h Q,(∀h',H.le h h'->Q (.int<|LG<|qj f.M.b (l -65).toNat) h')->al I (d+1) 18 [f.v a,.int l] h Q:=λh Q k=>Xx ok p k
 cases e:qj f.M.b (l -65).toNat with
 |false=>
  rw[e] at c18
  rw[aH3 e p.1] at k
  exact b_ (vs:=[.op<|f.v a,.int l<|.b 65 68,.int c .no]) [18] [.d (aL (-1)) []] (Hd.of Fa.nl) (bD<|cD p.1 (k8 ok p)<|bL tI aY) (.c (cI (o7 _) c18)<|.d λh' D=>k h'<|a7 D.f)
 |true=>
  rw[e] at c18
  obtain⟨rfl,b⟩:=at2 e p.1
  rw[aM rfl] at k
  have r:=ok.M.r
  have m3:=ok.M.m3
  unfold Fd.v Fd.fs at*
  unfold aW.b at b
  cases q:f.M.rs with
  |nil=>rw[q] at b;cases b
  |cons x s=>
   rw[q] at c18 k r m3
   exact aD7 r ok.n4 m3 k c18
theorem JU{α:Type} i f: ∀{xs:List α} {a:H} {K:List V->H->Prop},H.le h a->(∀x∈xs,∀a K,H.le h a->(∀h2,H.le h h2->K (U<|f x) h2)->B (i x) a K)->(∀h',H.le h h'->K (xs.map f) h')->hO B bP (xs.map i) a K:=λ{xs}=>by
 induction xs with
 |nil=>exact λl _ k=>⟨tI,k _ l⟩
 |cons x r ih=>exact λl hb k=>⟨tI,hb x (.head _) _ _ l λh2 l2=>ih l2 (λx m=>hb x<|.tail _ m) k⟩
set_option smartUnfolding false in
theorem v34{ρ:L}(hp: ∀p∈a,0<=p/\p<=255)(hl:a.length<=100)(e:ah ρ 3=U (U<|.aj<|vi a))(k: ∀h',H.le h h'->Q (.fl<|vi a) h'):
  (ao I (al I<|d+2) (.comp aa [] (.x 3) (.c<|.bool aa)<|.call 32<|.cons (.x 0) .nil) ρ).v h Q:=
 kx (jM<|ap e<|.tV ⟨by rw[bN];exact ak hl dd,jr<|JU V.int V.int (H.le_refl h) (λp m h1 K l b=>nG<|EM [] [] (Hd.of Fa.nl) (i8 (hp p m).1 (hp p m).2 bk)<|.d λh' D=>b h'<|H.le_trans l<|a7 D.f) k⟩)
abbrev Nz(a:V)(c:Int)(ps:List Int)(l r:Bool):List<|Nat×SV:=[(16,.op a),(17,.int c<|.b 65 68),(18,.op<|.aj<|vi ps),(19,.op<|.bool l),(20,.op<|.bool r)]
set_option smartUnfolding false in
theorem aq8(h1:65<=c)(h2:c<=68)(hp: ∀p∈j,0<=p/\p<=255)(hl:j.length<=100)(ha:h a=U (.aK 3 []))
  (k: ∀h',h' a=U (.aK 3<|bZ<|Nz o c j l r)->Fr h h' [a]->Q .none h'):al I (d+3) 34 [.ref a,o,.int c,.aj<|vi j,.bool l,.bool r] h Q:=
 b_ (g:=[(a,.aK 3 [])]) (vs:=[.ref 0 a,.op o,.int c<|.b 65 68,.op<|.aj<|vi j,.op<|.bool l,.op<|.bool r]) [] [.d (.op<|.fl<|vi j) []] (Hd.of<|Fa.is ha bj dX Fa.nl) (h_ rfl<|bD<|cD h1 h2<|bD<|bD<|bD aY)
  (.c ⟨tI,λh Q D k=>v34 hp hl rfl λh' l=>k h'<|D.le l⟩<|.c (by show a_ (vi j).length;rw[bN];exact ak hl dd)<|.d λh' D=>k h' (D.am 0 a _ rfl) D.f)
inductive Pt where
 |lt (c:Int)
 |kn (w:Int)
inductive fu (fv:V):V->Pt->Prop
 |ch (a:ai) (c:Int):fu fv (.fz a 2 [(16,fv),(17,.int c)]) (.lt c)
 |lg (a:ai) (c:Int) (p:List V) (l r:Bool):fu fv (.fz a 3 [(16,fv),(17,.int c),(18,.aj p),(19,.bool l),(20,.bool r)]) (.lt c)
 |kn (a:ai) (w:Int):fu fv (.fz a 5 [(22,.int w),(30,.int 0)]) (.kn w)
abbrev kg(c:Int)(ps:List Int)(mk:Bool):SV:= .aj [.int c<|.b 65 68,.op<|.aj<|vi ps,.op<|.bool mk]
abbrev oQ(a:V)(b fr now:SV)(go:Bool):List<|Nat×SV:=[(16,.op a),(55,b),(56,now),(57,aL 256),(58,fr),(59,.op<|.bool ae),(60,.op<|.bool ae),(61,.op<|.bool go)]
theorem BA(a:aN g h)(b:aN g fr)(c:aN g now):h9 g<|oQ j h fr now l:=dH (c5 a<|c5 c<|dN<|c5 b<|dH<|dH<|dH dX)
theorem lB{mk}(h1:65<=c)(h2:c<=68):aN g<|kg c a mk:=d4 (cD h1 h2<|bD<|bD aY)
structure pK(c:Int)(ps:List Int)(n:Nat):Prop where
 h1:65<=c
 h2:c<=68
 hp: ∀p∈ps,0<=p/\p<=255
 hl:ps.length+n<=8
theorem cz(h:n<=100):a_ n:=ak h dd
abbrev g96(a:V)(w fo:ai)(b:V)(c:Int)(ps:List Int)(mk:Bool)(F:List V):G:=[(w,.aK 12<|oQ a (.op b) (.ref 1 fo) (kg c ps mk) aa),(fo,.list F)]
set_option smartUnfolding false in
theorem YO{mk}(k:pK c p n)(hF:F.length<=90)(s:w≠j)(hw:h w=U (.aK 12<|bZ<|oQ l (.op t) (.op<|.ref j) (kg c p mk) aa))(hf:h j=U (.list F))
  (q: ∀h' v,h' j=U (.list<|F++[v])->Fr h h' [j]->fu l v (.lt c)->Q .none h'):al I (d+4) 96 [.ref w] h Q:=by
 have D:=Hd.of (g:=g96 l w j t c p mk F) (Fa.is hw (b8 s bj) (BA tI ⟨_,rfl⟩<|lB k.h1 k.h2)<|Fa.ls hf bj Fa.nl)
 have fr: ∀{h':H},Fr h h' [w,j]->h' w=U (.aK 12<|bZ<|oQ l (.op t) (.op<|.ref j) (kg c p mk) aa)->Fr h h' [j]:=λf e b o z m=>if e':b=w then by rw[e'] at z⊢;rw[e,<-z,hw] else f b o z λu=>(bB.mp u).elim e' m
 cases mk with
 |true=>
  refine b_ (vs:=[.ref 0 w]) [34] [.d (.op .none) [(2,.aK 3<|Nz l c p ae ae)]] D (h_ rfl aY) (.c ?_<|.c (λa=>cz<|Nat.le_trans (cf hF) dd)<|.d λa h' D=>q h' _ (D.am 1 j _ rfl) (fr D.f<|D.am 0 w _ rfl)<|.lg ..)
  exact λa=>⟨tI,λh Q D i=>aq8 k.h1 k.h2 k.hp (ak (Nat.le_of_add_right_le k.hl) dd) (D.am 2 a _ rfl) λh' e f=>i h'<|D.go f<|dj rfl tI e (lJ<|dH<|Pi k.h1 k.h2<|dH<|dH<|dH dX) d8⟩
 |false=>exact b_ (vs:=[.ref 0 w]) [34] [] D (h_ rfl aY) (.c (λa=>cz<|Nat.le_trans (cf hF) dd)<|.d λa h' D=>q h' _ (D.am 1 j _ rfl) (fr D.f<|D.am 0 w _ rfl)<|.ch ..)
inductive fM (fv:V):List V->List Pt->Prop
 |nil:fM fv [] []
 |cons {v:V} {p:Pt} {vs:List V} {ps:List Pt}:fu fv v p->fM fv vs ps->fM fv (v::vs) (p::ps)
theorem fM.gT{a}{vs us}{l j}(h:fM a vs l)(k:fM a us j):fM a (vs++us)<|l++j:=by
 induction h with
 |nil=>exact k
 |cons x _ ih=>exact .cons x ih
theorem fM.bq{a v}{p}(h:fu a v p):fM a [v] [p]:= .cons h .nil
theorem fM.len{j}{vs}{a}(h:fM j vs a):vs.length=a.length:=by
 induction h with
 |nil=>rfl
 |cons _ _ ih=>exact aA (· +1) ih
noncomputable def hH:Option Int->List Pt
 |Y=>[]
 |U c=>[.lt c]
noncomputable def J(f:Fd):Option Int->List Int->List Pt
 |now,[]=>hH now
 |now,c::r=>match(if now=U 65 then dC f.M.rs c else Y) with
  |U (_,ae,y)=>J f (U y) r
  |U (_,aa,i)=>hH now++ .kn (a9 (kw i) f.sz)::J f (if 65<=c/\c <65+f.M.ls.length then U c else Y) r
  |Y=>hH now++J f (if 65<=c/\c <65+f.M.ls.length then U c else Y) r
abbrev jy(c:Int)(ps:List Int)(mk:Bool):V:=den (kg c ps mk)
noncomputable def wl:List Int->List V
 |[]=>[]
 |c::r=>wl r++[jy c [c] ae]
theorem DX: ∀r:List Int,(wl r).length=r.length
 |[]=>rfl
 |_::r=>by show(wl r++[_]).length=_;rw[aC,DX r];rfl
abbrev tq(b:V)(w a fo:ai)(now:SV)(W F:List V)(go:Bool):G:=[(w,.aK 12<|oQ b (.ref 1 a) (.ref 2 fo) now go),(a,.list W),(fo,.list F)]
theorem Cs{d n}{hb}{B}{j}{w o a}{c}{l}{mk}{W F}(k:pK c l n)(hF:F.length<=90)(b:w≠a):
  lR d hb B 5 96 [.ref 0 w] (tq j w o a (kg c l mk) W F aa) V (λv=>fu j v<|.lt c) λv=>(.op .none,[(2,.list<|F++[v])]):=
 ⟨λ_ _=>tI,λh Q D q=>YO k hF b (D.am 0 w _ rfl) (D.am 2 a _ rfl) λh' v e f hv=>q v h' hv<|D.go f<|dj rfl tI e tI d8⟩
theorem FD{d n}{hb}{B}{a}{w j l}{now x}{W F}{ρ:SL}(e:ah ρ 0=U (U<|.ref 0 w))(hW:W.length<=100)(ox:aN (tq a w j l now (W++[den x]) F aa) x):
  vW d hb B n (.me (.at (.x 0) 55) 1 .nil) ρ (tq a w j l now (W++[den x]) F aa) x [(1,.list W)]:=
 ⟨ox,λh Q D k=>gv<|cJ<|ap (re e)<|.eN (D.am 0 _ _ rfl) rfl<|.pL (D.am 1 _ _ rfl) rfl<|bh<|.E8 (D.am 1 _ _ rfl) (cz hW)<|k _<|D.go (λb o e n=>(H.jZ λq=>n<|b9.mpr q).trans e)<|dj rfl tI (H.kb ..) tI d8⟩
theorem lP{α:Type}{l}{x:α}(e:l++[x]=[]):False:=zk (List.append_eq_nil_iff.mp e).2
abbrev nf(a:V)(w:ai)(cv:V)(st:Int)(x y z:Option V):SL:=[U<|.op a,U<|.op cv,U<|.op<|.bool aa,U<|aL 256,U<|.ref 0 w,U<|.int st .no,x.map .op,y.map .op,z.map .op]
theorem bJ{g}{x:Option V}{ρ}(y:a8 g ρ):a8 g<|x.map SV.op::ρ:=match x with
 |U _=>aB y
 |Y=>aD y
theorem yv{g:G}{a}{w}{j}{h}{x y z}(e: ∃o,ah g 0=U (w,o)):a8 g<|nf a w j h x y z:=aB (aB<|aB<|gx<|aT e<|aT tI<|bJ<|bJ<|bJ bk)
structure Ws(h:H)(w wa fo:ai)(fv now:V)(W F:List V)(go:Bool):Prop where
 o1:h w=U (.aK 12<|bZ<|oQ fv (.op<|.ref wa) (.op<|.ref fo) (.op now) go)
 o2:h wa=U (.list W)
 o3:h fo=U (.list F)
theorem Ws.D{h}{w a j}{l}{now}{W F}{p}(s:Ws h w a j l (den now) W F p)(n1:w≠a)(n2:w≠j)(b:a≠j)(o:aN (tq l w a j now W F p) now):Hd h [w,a,j] (tq l w a j now W F p) h:=
 Hd.of (g:=tq l w a j now W F p) (Fa.is s.o1 (b8 n1<|b8 n2 bj) (BA ⟨_,rfl⟩ ⟨_,rfl⟩ o)<|Fa.ls s.o2 (b8 b bj)<|Fa.ls s.o3 bj Fa.nl)
abbrev pI(d m:Nat)(ρ:L)(h:H)(P:Fl->L->H->Prop):Prop:=iZ (λρ h a F=>(ao I (al I<|d+6) ((E.x 4).at 61) ρ).t h a F) (λρ h Q=>aZ I (al I<|d+6) KC ρ h Q) m ρ h P
section
variable{c c' st:Int}{mk:Bool}{cv:V}{W F:List V}
set_option smartUnfolding false in
theorem WI(s:Ws h w j p a (jy c t mk) (W++[jy c' [c'] ae]) F aa)(n1:w≠j)(n2:w≠p)(b:j≠p)(k:pK c t N)(l:65<=c'/\c'<=68)(hF:F.length<=80)(hW:W.length<=100)(c94: ∀h Q,(∀h',H.le h h'->Q .none h')->al I (d+6) 94 [a,.int c,.int c'] h Q)
  (q: ∀h' v x y z,Ws h' w j p a (jy c' [c'] ae) W (F++[v]) aa->Fr h h' [w,j,p]->fu a v (.lt c)->pI d m (aq<|nf a w cv st x y z) h' P):pI d (m+1) (aq<|nf a w cv st x y z) h P:=
 fO [94,96] [.v<|kg c' [c'] ae,.d (.op .none) [],.c V (λ_ v=>fu a v<|.lt c) λ_ v=>(.op .none,[(2,.list<|F++[v])]),.d (kg c' [c'] ae) [(1,.list W)]] (s.D n1 n2 b<|lB k.h1 k.h2) (yv ⟨_,rfl⟩)
  (.c (λc=>(lP c))<|.c (λ_=>⟨⟨_,rfl⟩,lB l.1 l.2⟩)<|.c (λ_=>cI tI c94)<|.c (λ_=>Cs k (ak hF dd) n2)<|.c (λ_ v hv c h' D o=>(lP c).elim)<|.c (λ_ v hv _=>FD rfl hW<|lB l.1 l.2)<|.d λ_ v hv _ h' D o=>⟨h',H.le_refl _,q h' v (U<|.int c) (U<|.int c') (U .none) ⟨D.am 0 w _ rfl,D.am 1 j _ rfl,D.am 2 p _ rfl⟩ D.f hv⟩)
set_option smartUnfolding false in
theorem aq3(s:Ws h w j l a (jy c p mk) [] F aa)(n1:w≠j)(n2:w≠l)(b:j≠l)(k:pK c p N)(hF:F.length<=80)(c94: ∀h Q,(∀h',H.le h h'->Q .none h')->al I (d+6) 94 [a,.int c,.int 256] h Q)
  (q: ∀h' v,Ws h' w j l a (jy c p mk) [] (F++[v]) ae->Fr h h' [w,j,l]->fu a v (.lt c)->P .next (aq<|nf a w cv st (U<|.int c) (U<|.int 256)<|U .none) h'):pI d (m+2) (aq<|nf a w cv st x y z) h P:=
 fO [94,96] [.d (.op .none) [],.c V (λ_ v=>fu a v<|.lt c) λ_ v=>(.op .none,[(2,.list<|F++[v])])] (s.D n1 n2 b<|lB k.h1 k.h2) (yv ⟨_,rfl⟩)
  (.b (.c (λ_=>cI tI c94)<|.c (λ_=>Cs k (ak hF dd) n2)<|.c (λ_ v hv c h' D o=>⟨h',H.le_refl _,fO [] [] D o<|.d λh2 D o=>q h2 v ⟨D.am 0 w _ rfl,D.am 1 j _ rfl,D.am 2 l _ rfl⟩ D.f hv⟩)<|.d λ_ v hv c=>(c rfl))<|.d λc=>(c rfl))
set_option smartUnfolding false in
theorem aD6{i}(s:Ws h w p t j (jy c A mk) (W++[jy c' [c'] ae]) F aa)(n1:w≠p)(n2:w≠t)(b:p≠t)(k:pK c A N)(l:65<=c'/\c'<=68)(hF:F.length<=80)(hW:W.length<=100)(hi: -1073741823<=i/\i<=1073741823)(c94: ∀h Q,(∀h',H.le h h'->Q (.aj [.int 0,.int i]) h')->al I (d+6) 94 [j,.int c,.int c'] h Q)
  (q: ∀h' v u x y z,Ws h' w p t j (jy c' [c'] ae) W (F++[v]++[u]) aa->Fr h h' [w,p,t]->fu j v (.lt c)->fu j u (.kn i)->pI d m (aq<|nf j w cv st x y z) h' P):pI d (m+1) (aq<|nf j w cv st x y z) h P:=
 fO [94,96] [.v<|kg c' [c'] ae,.d (.aj [aL 0,.int i<|.b (-1073741823) 1073741823]) [],.c V (λ_ v=>fu j v<|.lt c) λ_ v=>(.op .none,[(2,.list<|F++[v])]),.d (kg c' [c'] ae) [(1,.list W)]] (s.D n1 n2 b<|lB k.h1 k.h2) (yv ⟨_,rfl⟩)
  (.c (λc=>(lP c)) (.c (λ_=>⟨⟨_,rfl⟩,lB l.1 l.2⟩) (.c (λ_=>cI (d4<|bU<|cD hi.1 hi.2 aY) c94) (.c (λ_=>Cs k (ak hF dd) n2)
   (.b (.c (λ_ v hv c=>(lP c).elim)<|.d λ_ v hv c=>(lP c).elim)<|.c (λ_ v hv _=>FD rfl hW<|lB l.1 l.2)<|.c (λ_ v hv _ a=>cz<|by rw[aC];exact ak (cK (cK hF 1) 1) dd)<|.d λ_ v hv _ a h' D o=>⟨h',H.le_refl _,q h' v _ (U<|.int c) (U<|.int c') (U<|.aj [.int 0,.int i]) ⟨D.am 0 w _ rfl,D.am 1 p _ rfl,D.am 2 t _ rfl⟩ D.f hv<|.kn ..⟩)))))
theorem Gq:vi a++vi [c']=vi (a++[c']):=(qW).symm
set_option smartUnfolding false in
theorem aO0{a}(s:Ws h w j p t (jy c u mk) (W++[jy c' [c'] ae]) F aa)(n1:w≠j)(n2:w≠p)(e:j≠p)(k:pK c u N)(l:65<=c'/\c'<=68)(hW:W.length<=100)(hi:65<=a/\a<=68)(hN:0 <N)(hs:0 <st)(c94: ∀h Q,(∀h',H.le h h'->Q (.aj [.int 1,.int a]) h')->al I (d+6) 94 [t,.int c,.int c'] h Q)
  (q: ∀h' x y z,Ws h' w j p t (.aj [.int a,.aj<|vi u++vi [c'],.bool aa]) W F aa->Fr h h' [w,j,p]->pI d m (aq<|nf t w cv (st -1) x y z) h' P):pI d (m+1) (aq<|nf t w cv st x y z) h P:=
 fO [94,96] [.v<|kg c' [c'] ae,.d (.aj [aL 1,.int a<|.b 65 68]) [],.d (kg c' [c'] ae) [(1,.list W)],.n,.u] (s.D n1 n2 e<|lB k.h1 k.h2) (yv ⟨_,rfl⟩)
  (.c (λc=>(lP c)) (.c (λ_=>⟨⟨_,rfl⟩,lB l.1 l.2⟩) (.c (λ_=>cI (d4<|bU<|cD hi.1 hi.2 aY) c94) (.c (λ_ c=>(absurd c<|pu hs)) (.b (.c (λ_ _ c b=>(lP b))<|.c (λ_ _ c=>(lP c).elim)<|.c (λ_ _ c=>(lP c).elim)<|.d λ_ _ c=>(lP c).elim)
   (.c (λ_ _ _ c=>(lP c))<|.c (λ_ _ _ _=>FD rfl hW<|lB l.1 l.2)<|.c (λ_ _ _ _=>cz<|by rw[Gq,bN,aC];exact ak (eG hN _)<|ak k.hl dd)<|.d λ_ _ _ _ h' D o=>⟨h',H.le_refl _,q h' (U<|.int c) (U<|.int c') (U<|.aj [.int 1,.int a]) ⟨D.am 0 w _ rfl,D.am 1 j _ rfl,D.am 2 p _ rfl⟩ D.f⟩))))))
end
theorem Fr.tr(f:Fr h a A)(g:Fr a j A):Fr h j A:=λb o e n=>g b o (f b o e n) n
theorem sB(e:(if now=U 65 then dC f.M.rs c else Y)=Y):J f now (c::r)=hH now++J f (if 65<=c/\c <65+f.M.ls.length then U c else Y) r:=by
 show(match(if now=U 65 then dC f.M.rs c else Y) with|U (_,ae,y)=>_|U (_,aa,i)=>_|Y=>_)=_
 rw[e]
theorem w7(e:(if now=U 65 then dC f.M.rs c else Y)=U (x,aa,i)):J f now (c::r)=hH now++ .kn (a9 (kw i) f.sz)::J f (if 65<=c/\c <65+f.M.ls.length then U c else Y) r:=by
 show(match(if now=U 65 then dC f.M.rs c else Y) with|U (_,ae,y)=>_|U (_,aa,i)=>_|Y=>_)=_
 rw[e]
theorem wQ(e:(if now=U 65 then dC f.M.rs c else Y)=U (x,ae,y)):J f now (c::r)=J f (U y) r:=by
 show(match(if now=U 65 then dC f.M.rs c else Y) with|U (_,ae,y)=>_|U (_,aa,i)=>_|Y=>_)=_
 rw[e]
theorem Br{c:Int}(p:f.dB c):J f (if 65<=c/\c <65+f.M.ls.length then U c else Y) r=J f (U c) r:=by
 rw[aM (show 65<=c/\c <65+f.M.ls.length from p)]
theorem S8{c:Int}{x y:Option<|Int×Bool×Int}:(if U c=U 65 then x else y)=if c=65 then x else y:=by
 by_cases e:c=65
 ·rw[aM e,aM<|aA U e]
 ·rw[aE e,aE λq=>e<|bM q]
theorem av5{f:Fd}(ok:f.ok): -1073741823<=a9 (kw i) f.sz/\a9 (kw i) f.sz<=1073741823:=lI ok.s0 (az ok.s1 dd) (by unfold kw;split <;>decide)
theorem V8{cv}(ok:f.ok)(n1:w≠W)(n2:w≠X)(K:W≠X): ∀r c ps mk F ns st x y z h,
  Ws h w W X (f.v a) (jy c ps mk) (wl r) F aa->pK c ps r.length->f.dB c->(∀q∈r,f.dB q)->(r.length:Int) <st->F.length+2*r.length<=80->fM (f.v a) F ns->
  (∀h' G now st x y z,Ws h' w W X (f.v a) now [] G ae->Fr h h' [w,W,X]->fM (f.v a) G (ns++J f (U c) r)->P .next [U<|f.v a,U cv,U<|.bool aa,U<|.int 256,U<|.ref w,U st,U x,U y,U z] h')->
  pI d (r.length+2) (aq<|nf (f.v a) w cv st x y z) h P:=λr=>by
 induction r with
 |nil=>
  intro c ps mk F ns st x y z h s k p N g hF hn q
  exact aq3 s n1 n2 K k hF (λh Q Z=>IY ok p<|by rw[wH ok.M.r λz=>absurd (jB z.2<|Int.add_le_add_left ok.n4 65) dd,ite_self];exact Z) λh' v s' fr hv=>q h' _ _ _ _ _ _ s' fr (hn.gT<|.bq hv)
 |cons c' r ih=>
  intro c ps mk F ns st x y z h s k p N g hF hn q
  have A:=N c' (.head _)
  have o:=λq m=>N q (.tail _ m)
  have l:65<=c'/\c'<=68:=⟨A.1,k8 ok A⟩
  have hW:(wl r).length<=100:=by rw[DX];exact ak (lD<|Nat.le_trans (uQ _ _) k.hl) dd
  have c94: ∀h Q,(∀h',H.le h h'->Q (f.wz (if c=65 then dC f.M.rs c' else Y)) h')->al I (d+6) 94 [f.v a,.int c,.int c'] h Q:=λh Q k=>IY ok p k
  have hro: ∀t,(if c=65 then dC f.M.rs c' else Y)=U t->ij f.M.ls.length t:=λt e=>by
   split at e
   ·exact ok.M.r _ (IC e)
   ·cases e
  have e:=S8 (c:=c) (x:=dC f.M.rs c') (y:=Y)
  have kc:pK c' [c'] r.length:=⟨l.1,l.2,λq m=>b9.mp m▸⟨az dd l.1,az l.2 dd⟩,by rw[c4];exact ak (uQ _ _) k.hl⟩
  have hF2:F.length+2+2*r.length<=80:=by rw[Q3];exact hF
  have D:=ak (cg _ _) hF
  have hs:(r.length) <st:=AR (aR2<|Int.le_refl _) g
  generalize(if c=65 then dC f.M.rs c' else Y)=T at c94 hro e
  rcases T with _|⟨t,_|_,i⟩
  ·have j:=sB (r:=r) e
   rw[Br A] at j
   exact WI s n1 n2 K k l D hW c94 λh' v x y z s' fr hv=>ih c' [c'] ae (F++[v]) (ns++[.lt c]) st x y z h' s' kc A o hs (ak (cK (by rw[aC];exact jj _) _) hF2) (hn.gT<|.bq hv) λh2 G now st x y z s2 b hG=>q h2 G now st x y z s2 (fr.tr b) (by rw[j,<-aX];exact hG)
  ·have j:=wQ (r:=r) e
   have pi:=(hro _ rfl).2
   exact aO0 s n1 n2 K k l hW ⟨pi.1,k8 ok pi⟩ (sS _) (g7 (du _) g) c94 λh' x y z s' fr=>ih i (ps++[c']) aa F ns (st -1) x y z h' (pz (motive:=λt=>Ws h' w W X (f.v a) (.aj [.int i,.aj t,.bool aa]) (wl r) F aa) Gq s') ⟨pi.1,k8 ok pi,λq m=>(pB.mp m).elim (k.hp q)<|kc.hp q,by rw[aC,cG,c4 [c'].length];exact k.hl⟩ pi o (Int.lt_sub_right_of_add_lt g) (ak (cK (cg _ 2) _) hF2) hn λh2 G now st x y z s2 b hG=>q h2 G now st x y z s2 (fr.tr b) (by rw[j];exact hG)
  ·have j:=w7 (r:=r) e
   rw[Br A] at j
   exact aD6 s n1 n2 K k l D hW (av5 ok) c94 λh' v u x y z s' fr hv hu=>ih c' [c'] ae (F++[v]++[u]) (ns++[.lt c]++[.kn<|a9 (kw i) f.sz]) st x y z h' s' kc A o hs (ak (cK (by rw[aC,aC];exact dO _) _) hF2) ((hn.gT<|.bq hv).gT<|.bq hu) λh2 G now st x y z s2 b hG=>q h2 G now st x y z s2 (fr.tr b) (by rw[j];rw[aX,aX] at hG;exact hG)
theorem Hd.ne(D:Hd hb B g h)(e:ah g i=U (a,o))(e':ah g j=U (b,p))(lo:o.lv)(c:p.lv)(n:i≠j):a≠b:=λq=>n (D.inj i j a o p e (q▸e') lo c)
theorem Y4 r:r.reverse.map (λc=>jy c [c] ae)=wl r:=by
 induction r with
 |nil=>rfl
 |cons c r ih=>rw[pv,qW,ih];rfl
set_option smartUnfolding false in
theorem Wu{ρ:L}(e:ah ρ 2=U (U<|.ref j))(hp:h j=U (.list<|vi p))(hl:p.length<=100)(k: ∀h',H.le h h'->Q (.fl<|wl p) h'):
  (ao I (al I d) (.comp aa [] (.iK<|.x 2) (.c<|.bool aa)<|.tu<|.cons (.x 0)<|.cons (.tu<|.cons (.x 0) .nil)<|.cons (.c<|.bool ae) .nil) ρ).v h Q:=by
 refine kx (show(ao I (al I d) (.iK<|.x 2) ρ).v h (oA _) from OV<|ap e<|.aP0 hp (cz<|by rw[bN];exact hl)<|.fJ ?_)
 rw[<-Y4] at k
 rw[show(vi p).reverse=p.reverse.map V.int from aR8.symm]
 exact⟨cz (by rw[bN,sU];exact hl),jr<|JU V.int (λc=>jy c [c] ae) (H.le_refl h) (λc m h1 K l a=>nG<|EM (n:=0) (ρ:=[U<|.int c .no]) [] [] (Hd.of Fa.nl) (aT tI bk)<|.d λh' D=>a h'<|H.le_trans l<|a7 D.f) k⟩
theorem Tf{g:G}{ρ:SL}(e:ah ρ 0=U (U<|.ref i w))(ei:ah g i=U (w,.aK c l))(f:bc (bZ l) 55=U (.ref a))(ej:ah g j=U (a,.list<|W++[den x]))(hW:W.length<=100)(ox:aN g x):
  vW d hb B n (.me (.at (.x 0) 55) 1 .nil) ρ g x [(j,.list W)]:=
 ⟨ox,λh Q D k=>gv<|cJ<|ap (re e)<|.eN (D.am i _ _ ei) f<|.pL (D.am j _ _ ej) rfl<|bh<|.E8 (D.am j _ _ ej) (cz hW)<|k _<|D.go (λb o e n=>(H.jZ λq=>n<|by unfold jm;rw[kK];dsimp only;rw[ej,q];exact .head _).trans e)<|dj ej tI (H.kb ..) tI d8⟩
noncomputable def gu(g:G)(k:Nat):ai:=match ah g k with
 |U x=>x.1
 |Y=>0
theorem VI r:(r.length:Int) <20*(((vi<|c::r).length:Int)+1):=by
 rw[bN]
 exact mm.mpr (show r.length <20*(r.length+1+1) from Nat.lt_of_lt_of_le (n5 _)<|ak (jj _)<|aQ9 _ dd)
theorem J_0(p:f.dB c):[]++J f (U c) r=J f Y (c::r):=by
 rw[sB (now:=Y)<|aE λe=>bQ e,Br p];rfl
theorem nz(c:(0:Int)<= -1):False:=absurd c dd
set_option smartUnfolding false in
theorem OC(ok:f.ok)(hp:h t=U (.list<|vi p))(hr:p.length<=5)(b: ∀c∈p,f.dB c)
  (k: ∀h' F,H.le h h'->fM (f.v a) F (J f Y p)->Q (.fl F) h'):al I (d+7) 99 [f.v a,.ref t,.bool aa,.int 256] h Q:=by
 have D:=Hd.of (g:=[(t,.list<|vi p)]) (Fa.ls hp bj Fa.nl)
 have o:bC [(t,.list<|vi p)] [.op<|f.v a,.ref 0 t,.op<|.bool aa,aL 256]:=bD (h_ rfl<|bD<|bU aY)
 cases p with
 |nil=>exact b_ [94,96] [] D o (.c (λ_ h' D=>k h' [] (qi D.f hp<|D.am 0 t _ rfl) .nil)<|.d λc=>(c rfl).elim)
 |cons c r=>
  refine b_ [94,96] [.d (.op<|.fl<|wl r++[jy c [c] ae]) [],.d (kg c [c] ae) [(2,.list<|wl r)],.s (List V×(Nat->V)) (λx=>fM (f.v a) x.1<|J f Y<|c::r) λg x=>(.next,[U<|.op<|f.v a,U<|.ref 0 t,U<|.op<|.bool aa,U<|aL 256,U<|.ref 1<|gu g 1,U<|.op<|x.2 0,U<|.op<|x.2 1,U<|.op<|x.2 2,U<|.op<|x.2 3],d9 g [(1,.aK 12<|oQ (f.v a) (.ref 2<|gu g 2) (.ref 3<|gu g 3) (.op<|x.2 4) ae),(2,.list []),(3,.list x.1)])] D o (.c (λe h' D=>zk e)<|.b (.c (λ_ c w=>(nz c).elim)<|.c (λ_ c w=>(nz c).elim)<|.d λ_ c w=>(nz c).elim)<|.c ?_<|.c ?_<|.c ?_<|.c ?_<|.d ?_)
  ·exact λ_ _ w=>⟨tI,λh Q D k=>Wu rfl (D.am 0 t _ rfl) (ak hr dd) λh' l=>k h'<|D.le l⟩
  ·exact λ_ _ w A=>Tf rfl rfl rfl rfl (ak (jC<|DX r)<|Nat.le_trans (lD hr) dd) (lB (b c<|.head _).1<|k8 ok<|b c<|.head _)
  ·exact λ_ _ w A fo=>cz (by rw[bN];exact ak hr dd)
  ·exact λ_ _ w A fo=>⟨λx hx=>⟨tI,aB<|bG rfl<|aB<|gx<|bG rfl<|aB<|aB<|aB<|aB bk,i6 [(1,.aK 12<|oQ (f.v a) (.ref 2 A) (.ref 3 fo) (.op<|x.2 4) ae),(2,.list []),(3,.list x.1)] _⟩,λh1 P D q=>ur (V8 (x:=Y) (y:=Y) (z:=Y) ok (D.ne (i:=1) (j:=2) rfl rfl tI tI dd) (D.ne (i:=1) (j:=3) rfl rfl tI tI dd) (D.ne (i:=2) (j:=3) rfl rfl tI tI dd) r c [c] ae [] [] _ h1 ⟨D.am 1 w _ rfl,D.am 2 A _ rfl,D.am 3 fo _ rfl⟩ ⟨(b c<|.head _).1,k8 ok<|b c<|.head _,λq m=>b9.mp m▸⟨az dd (b c<|.head _).1,az (k8 ok<|b c<|.head _) dd⟩,by rw[c4];exact ak hr dd⟩ (b c<|.head _) (λq m=>b q<|.tail _ m) (VI r) (by rw[j2,gK];exact ak (ji 2<|Nat.le_of_succ_le hr) dd) .nil
    λh' G now st x y z s fr hG=>q (G,λi=>match i with|0=>st|1=>x|2=>y|3=>z|_=>now) h' (J_0 (b c<|.head _)▸hG)<|D.go (u:=[(1,.aK 12<|oQ (f.v a) (.ref 2 A) (.ref 3 fo) (.op now) ae),(2,.list []),(3,.list G)]) fr<|dj rfl tI s.o1 (lJ<|BA ⟨_,rfl⟩ ⟨_,rfl⟩ tI)<|dj rfl tI s.o2 tI<|dj rfl tI s.o3 tI d8)⟩
  ·exact λ_ _ w A fo x hx h' D=>k h' x.1 (qi D.f hp<|D.am 0 t _ rfl) hx
theorem YN f(hr: ∀r∈f.M.rs,ij f.M.ls.length r)(hm: ¬f.dB m): ∀p now,J f now (p++m::rest)=J f now p++J f Y rest:=λp=>by
 induction p with
 |nil=>
  intro now
  have e:(if now=U 65 then dC f.M.rs m else Y)=Y:=by rw[wH hr hm,ite_self]
  rw[aR9,sB e,aE (show¬(65<=m/\m <65+f.M.ls.length) from hm)];rfl
 |cons c p ih=>
  intro now
  rw[Rb]
  cases e:(if now=U 65 then dC f.M.rs c else Y) with
  |none=>rw[sB e,sB e,ih,aX]
  |some t=>
   obtain⟨x,a,i⟩:=t
   cases a
   ·rw[wQ e,wQ e,ih]
   ·rw[w7 e,w7 e,ih,aX];rfl
theorem aH7 n:(hH n).length<=1:=match n with
 |Y=>j3 _
 |U _=>dO _
theorem Hd.tW(D:Hd hb B g h)(f:Fa h g2 g2)(s: ∀c∈g2.map (·.1),∃i o,ah g i=U (c,o)):Hd hb B g2 h where
 am _ _ _ e:=(f.am e).1
 ok _ _ _ e:=(f.am e).2
 inj _ _ _ _ _ e e' _ _:=f.inj e e'
 fr b o e n:=⟨(D.fr b o e n).1,λ_ _ z=>(s b<|yL z).elim λi w=>w.elim λp w=>(D.fr b o e n).2 i p w⟩
abbrev vA(fo a:ai)(F:List V)(p:List Int):G:=[(fo,.list F),(a,.list<|vi p)]
noncomputable abbrev Dy(a cv:V)(x:Option V)(fo b:ai):SL:=[U<|.op a,U<|.op cv,U<|.op<|.bool aa,U<|.op<|.bool aa,x.map .op,U<|.ref 0 fo,U<|.ref 1 b,U<|.op<|.bool aa]
theorem ac4{g:G}{a l}(e: ∃o,ah g 0=U (j,o))(e': ∃o,ah g 1=U (h,o)):a8 g<|Dy a l x j h:=aB (aB<|aB<|aB<|bJ<|aT e<|aT e'<|aB bk)
theorem yj f: ∀r now,(J f now r).length<=2*r.length+(hH now).length:=λr=>by
 induction r with
 |nil=>exact λnow=>uQ _ _
 |cons c r ih=>
  intro now
  have h2:=aH7 (if 65<=c/\c <65+f.M.ls.length then U c else Y)
  have h1:=ih (if 65<=c/\c <65+f.M.ls.length then U c else Y)
  cases e:(if now=U 65 then dC f.M.rs c else Y) with
  |none=>rw[sB e,aC,eT];lia
  |some t=>
   obtain⟨x,a,y⟩:=t
   cases a
   ·rw[wQ e]
    have h3:=ih (U y)
    have:(hH<|some y).length=1:=rfl
    have:(hH now).length=1:=by
     split at e
     ·rename_i q;rw[q];rfl
     ·cases e
    rw[eT];lia
   ·rw[w7 e,aC,eT,eT];lia
theorem aG6(ok:f.ok)(hr:p.length<=5)(b: ∀c∈p,f.dB c):lR d hb B 7 99 [.op<|f.v a,.ref 1 j,.op<|.bool aa,aL 256] (vA o j F p) (List V) (λG=>fM (f.v a) G<|J f Y p) λG=>(.op<|.fl G,[]):=
 ⟨λ_ _=>tI,λh Q D k=>OC ok (D.am 1 j _ rfl) hr b λh' G l hG=>k G h' hG<|D.le l⟩
set_option smartUnfolding false in
theorem X8{u}(ok:f.ok)
  (k: ∀p F N b x h,Hd hb [] (vA l b F p) h->(∀c∈p,f.dB c)->p.length<=5->fM (f.v a) F N->N++J f Y p=y->N.length<=20->P .next (aq<|Dy (f.v a) u x l b) h): ∀r p F N b x h,
  Hd hb [] (vA l b F p) h->(∀c∈p,f.dB c)->(∀c∈r,0<=c/\c<=255)->p.length+r.length<=5->N.length+2*p.length+2*r.length<=20->fM (f.v a) F N->N++J f Y (p++r)=y->
  dg (cn (al I<|d+7) (Tg.x 4) N5) bP (vi r) (aq<|Dy (f.v a) u x l b) h P:=λr=>by
 induction r with
 |nil=>exact λp F N b x h D s _ hl hL hn e=>⟨tI,k p F N b x h D s hl hn (by rw[c8] at e;exact e)<|Nat.le_trans (ak (cg _ _)<|Nat.le_add_right _ _) hL⟩
 |cons c r ih=>
  intro p F N b x h D s hc hl hL hn e
  have g:=λq m=>hc q (.tail _ m)
  have hl':p.length+r.length<=4:=uT hl
  have K:=yj f p Y
  have A:=hn.len
  have hL2:N.length+2*p.length+2*r.length+2<=20:=hL
  have h0:(hH Y).length=0:=rfl
  refine⟨tI,dy [99] [.c (List V) (λ_ G=>fM (f.v a) G<|J f Y p) λ_ G=>(.op<|.fl G,[])] D (ac4 ⟨_,rfl⟩ ⟨_,rfl⟩) (v:= .int c<|.b 0 255) (hc c<|.head _)<|.b (.c (λ_=>cz<|by rw[bN];lia)<|.d λq h' D o=>⟨h',H.le_refl _,?_⟩) ?_⟩
  ·have D:=D.tW (g2:=vA l b F<|p++[c]) (Fa.ls (D.am 0 _ _ rfl) (b8 (D.ne (i:=0) (j:=1) rfl rfl tI tI dd) bj)<|Fa.ls ((D.am 1 b _ rfl).trans<|by rw[<-Gq];rfl) bj Fa.nl) λc m=>(bB.mp m).elim (λe=>e▸⟨0,_,rfl⟩) λm=>b9.mp m▸⟨1,_,rfl⟩
   exact ih (p++[c]) F N b (U<|.int c) h' D (λw m=>(pB.mp m).elim (s w) λm=>b9.mp m▸Zq q) g (by rw[aC,aS0];lia) (by rw[aC,aS0];lia) hn (by rw[aX];exact e)
  ·refine .c (λq=>aG6 ok (ak (cg _ _)<|Nat.le_trans hl' dd) s) (.c (λq G hG=>cz<|by have:=hG.len;rw[aC];lia)<|.d λq G hG t h' D o=>⟨h',H.le_refl _,?_⟩)
   have D:=D.tW (g2:=vA l t (F++G) []) (Fa.ls (D.am 0 _ _ rfl) (b8 (D.ne (i:=0) (j:=2) rfl rfl tI tI dd) bj)<|Fa.ls (D.am 2 t _ rfl) bj Fa.nl) λc m=>(bB.mp m).elim (λe=>e▸⟨0,_,rfl⟩) λm=>b9.mp m▸⟨2,_,rfl⟩
   rw[YN f ok.M.r λz=>q<|Gl z,<-aX] at e
   exact ih [] (F++G) (N++J f Y p) t (U<|.int c) h' D (λ_ m=>dz m) g (by rw[j2];lia) (by rw[aC,j2];lia) (hn.gT hG) e
theorem kq(k:(ao I C e ρ).i h λxs g h=>dg (cn C t b) g xs ρ h P):ex I C (.for t e b) ρ h P:=k
theorem ud{α:Type}{a x1 x2:α}{P:Nat->α->Prop}(h0:P 0 a)(h1:P 1 x1)(h2:P 2 x2){k y}(e:ah [a,x1,x2] k=U y):P k y:=by
 rcases k with _|_|_|_
 ·exact p7 e h0
 ·exact p7 e h1
 ·exact p7 e h2
 ·exact bQ e
theorem Hd.Vl(D:Hd hb [] [(a,.list l),(b,.list m)] h)(n:hb c=Y):Hd hb [] [(a,.list l),(c,.fW),(b,.list m)] h where
 am k x o e:=ud (P:=λ_ u=>u.2.at<|h u.1) (D.am 0 _ _ rfl) tI (D.am 1 _ _ rfl) e
 ok k x o e:=ud (P:=λ_ u=>u.2.ok ([(a,.list l),(c,.fW),(b,.list m)]:G)) tI tI tI e
 inj i j x y z e e' ly lz:=
  have no:a=x->b=x->i=j:=λq r=>nomatch D.inj 0 1 x (.list l) (.list m) (aA (λx=>U (x,SO.list l)) q) (aA (λx=>U (x,SO.list m)) r) tI tI
  ud (P:=λp u=>i=p->u.2.lv->u.1=x->i=j) (λei _ q=>ud (P:=λg u=>j=g->u.2.lv->u.1=x->i=j) (λej _ _=>ei.trans ej.symm) (λ_ l=>l.elim) (λ_ _ r=>no q r) e' rfl lz rfl) (λ_ l=>l.elim)
   (λei _ q=>ud (P:=λg u=>j=g->u.2.lv->u.1=x->i=j) (λ_ _ r=>no r q) (λ_ l=>l.elim) (λej _ _=>ei.trans ej.symm) e' rfl lz rfl) e rfl ly rfl
 fr x o e m':=have w:=D.fr x o e m'
  ⟨w.1,λk y z=>ud (P:=λ_ u=>u.1≠x) (λq=>w.2 0 (.list l)<|aA (λx=>U (x,SO.list l)) q) (λq=>bQ <|n.symm.trans<|q▸e) (λq=>w.2 1 (.list m)<|aA (λx=>U (x,SO.list m)) q) z rfl⟩
abbrev gE(fo p0 a:ai)(F:List V)(p:List Int):G:=[(fo,.list F),(p0,.fW),(a,.list<|vi p)]
noncomputable abbrev sE(a cv:V)(x:Option V)(fo b:ai):SL:=[U<|.op a,U<|.op cv,U<|.op<|.bool aa,U<|.op<|.bool aa,x.map .op,U<|.ref 0 fo,U<|.ref 2 b,U<|.op<|.bool aa]
theorem UT:G.le [(j,o),(h,p)] [(j,q),(h,l),(t,r)]:=λk a z e=>match k,e with
 |0,e=>by cases e;exact⟨_,rfl⟩
 |1,e=>by cases e;exact⟨_,rfl⟩
theorem Hd.im(D:Hd hb B g h)(e:ah g k=U (a,o))(n:a∉B):hb a=Y:=by
 cases q:hb a with
 |none=>rfl
 |some x=>exact((D.fr a x q n).2 k o e).elim
theorem Li: ∀{l m:List Int},vi l=vi m->l=m
 |[],[],_=>rfl
 |_::_,_::_,e=>by injection e with a b;injection a with a;rw[a,Li b]
noncomputable abbrev sA(a cv:V)(x:Option V):SL:=[U<|.op a,U<|.op cv,U<|.op<|.bool aa,U<|.op<|.bool aa,x.map .op,Y,Y,Y]
set_option smartUnfolding false in
theorem Uy{j l}(hc: ∀c∈a,0<=c/\c<=255)(k: ∀x,P .next (aq<|sA j l x) h):dg (cn (al I<|d+7) (Tg.x 4) Df) bP (vi a) (aq<|sA j l Y) h P:=
 Fh V.int (λx:Option V=>aq<|sA j l x) tI k a (λc m x R n=>dy (n:=7) (t:= .x 4) (b:=Df) (v:= .int c<|.b 0 255) [] [] (Hd.of Fa.nl) (aB<|aB<|aB<|aB<|bJ<|aD<|aD<|aD bk) (hc c m)<|.d λh' D o=>(n (U<|.int c) h'<|a7 D.f).1) Y
set_option smartUnfolding false in
theorem OG(ok:f.ok)(hl:j.length<=4)(hc: ∀c∈j,0<=c/\c<=255)
  (k: ∀h' F,H.le h h'->fM (f.v a) F (J f Y j)->Q (.fl F) h'):al I (d+8) 100 [f.v a,.fl<|vi j] h Q:=by
 refine b_ [99] [.s (Option V) (λ_=>True) λg x=>(.next,[U<|.op<|f.v a,U<|.op<|.fl<|vi j,U<|.op<|.bool aa,U<|.op<|.bool aa,x.map .op,Y,Y,Y],g),.s (List V×List Int×Option V×ai×List Pt) (λx=>(∀c∈x.2.1,f.dB c)/\x.2.1.length<=5/\fM (f.v a) x.1 x.2.2.2.2/\x.2.2.2.2++J f Y x.2.1=J f Y j/\x.2.2.2.2.length<=20) λg x=>(.next,sE (f.v a) (.fl<|vi j) x.2.2.1 (gu g 0) x.2.2.2.1,gE (gu g 0) (gu g 1) x.2.2.2.1 x.1 x.2.1),.c (List V) (λg G=> ∀cs o,ah g 2=U o->o.2= .list (vi cs)->fM (f.v a) G (J f Y cs)) λ_ G=>(.op<|.fl G,[])] (Hd.of Fa.nl) (bD<|bD aY) (.c ?_<|.c ?_<|.c ?_<|.c ?_<|.d ?_)
 ·exact⟨λx _=>⟨tI,aB<|aB<|aB<|aB<|bJ<|aD<|aD<|aD bk,G.le_refl _⟩,λh P D q=>kq<|jM<|ap rfl<|.fJ<|Uy hc λx=>q x h tI D⟩
 ·refine λy _ fo s=>⟨λx _=>⟨tI,aB<|aB<|aB<|aB<|bJ<|bG rfl<|bG rfl<|aB bk,UT⟩,λh1 P D q=>kq<|jM<|ap rfl<|.fJ ?_⟩
  exact X8 ok (λp F N u x h' D' w hp hn e hN=>q (F,p,x,u,N) h' ⟨w,hp,hn,e,hN⟩<|D'.Vl<|D.im (k:=1) rfl λm=>dz m) j [] [] [] s y h1 D (λ_ m=>dz m) hc (ak (jC<|gK _)<|ak hl dd) (ak (jC<|gK _)<|ak (ji 2 hl) dd) .nil rfl
 ·exact λy _ fo s x hx=>⟨λ_ _=>tI,λh Q D t=>OC ok (D.am 2 x.2.2.2.1 _ rfl) hx.2.1 hx.1 λh' G l hG=>t G h' (λcs o e eo=>by cases e;exact Li (by injection eo)▸hG)<|D.le l⟩
 ·exact λy _ fo s x hx G hG=>cz (by
   have a:=(hG x.2.1 _ rfl rfl).len
   have b:=yj f x.2.1 Y
   have c:(hH Y).length=0:=rfl
   have e:=hx.2.2.1.len
   have g:=hx.2.1
   have i:=hx.2.2.2.2
   rw[aC];lia)
 ·exact λy _ fo s x hx G hG h' D=>k h' (x.1++G) (a7 D.f) (hx.2.2.2.1▸hx.2.2.1.gT (hG x.2.1 _ rfl rfl))
abbrev hF(f:Fd):bI:= .c ai (λ_ _=>True) λ_ a=>(.op<|f.v a,[])
theorem ER{f:Fd}(ok:f.ok):lR d hb B (n+6) 28 [.op<|.a6<|bs f.M.W,.int f.n b,.op<|.str f.nm,.int f.sz j] g ai (λ_=>True) λa=>(.op<|f.v a,[]):=
 ⟨λ_ _=>tI,λh Q D k=>al1 ok λa h' l=>k a h' tI<|D.le l⟩
theorem aa5(ok:Fd.ok ⟨M,i,j,M.de⟩):lR d hb B (n+6) 28 [.op<|.a6<|bs M.W,.int i b,.op<|.str j] g ai (λ_=>True) λa=>(.op<|Fd.v ⟨M,i,j,M.de⟩ a,[]):=
 ⟨λ_ _=>tI,λh Q D k=>Xc ok λa h' l=>k a h' tI<|D.le l⟩
theorem Al(ok:M.ok)(s0:0 <s)(s1:s<=30100000):Fd.ok ⟨M,1,"fa",s⟩/\Fd.ok ⟨M,2,"fb",s⟩:=
 ⟨⟨ok,(dd:(1:Int)<=1),(dd:(1:Int)<=255),.inl rfl,s0,s1⟩,⟨ok,(dd:(1:Int)<=2),(dd:(2:Int)<=255),.inr rfl,s0,s1⟩⟩
theorem BM{M:aW}(ok:M.ok)(h0:1<=a)(h1:a<=32768):0 <M.de*a/1000/\M.de*a/1000<=30100000:=
 have d0:(327680)*1<=M.de*a:=GA ok.d0 h0 dd (az dd ok.d0)
 have d1:=GA ok.d1 h1 (az dd h0) dd
 ⟨jB dd<|uN (dd:(0:Int) <1000) d0,az (uN (dd:(0:Int) <1000) d1) dd⟩
section
variable{M:aW}{s:Int}{Q:V->H->Prop}(ok:M.ok)
include ok
set_option smartUnfolding false in
theorem aw2(s0:0 <s)(s1:s<=30100000)(k: ∀a h',H.le h h'->Q (Fd.v ⟨M,1,"fa",s⟩ a) h'):al I (d+9) 109 [.a6<|bs M.W,.int 1,.int s,.int 0] h Q:=
 b_ [28] [hF ⟨M,1,"fa",s⟩] (Hd.of Fa.nl) (bD<|bU<|cD s0 s1<|bU aY) (.c (ER (Al ok s0 s1).1)<|.d λa _ h' D=>k a h'<|a7 D.f)
set_option smartUnfolding false in
theorem az6(s0:0 <s)(s1:s<=30100000)(k: ∀a h',H.le h h'->Q (Fd.v ⟨M,2,"fb",s⟩ a) h'):al I (d+9) 109 [.a6<|bs M.W,.int 2,.int s,.int 0] h Q:=
 b_ [28] [hF ⟨M,2,"fb",s⟩] (Hd.of Fa.nl) (bD<|bU<|cD s0 s1<|bU aY) (.c (ER (Al ok s0 s1).2)<|.d λa _ h' D=>k a h'<|a7 D.f)
set_option smartUnfolding false in
theorem ar9(s0:1<=s)(s1:s<=32768)(k: ∀a h',H.le h h'->Q (Fd.v ⟨M,2,"fb",M.de*s/1000⟩ a) h'):al I (d+9) 109 [.a6<|bs M.W,.int 2,.int 0,.int s] h Q:=
 b_ [28] [hF ⟨M,2,"fb",M.de⟩,hF ⟨M,2,"fb",M.de*s/1000⟩] (Hd.of Fa.nl) (bD<|bU<|bU<|cD s0 s1 aY) (.c (aa5 (Al ok (jB dd ok.d0)<|az ok.d1 dd).2)<|.c (λ_ _=>⟨az dd ok.d0,az ok.d1 dd⟩)<|.c (λ_ _=>ER (Al ok (BM ok s0 s1).1 (BM ok s0 s1).2).2)<|.d λ_ _ a _ h' D=>k a h'<|a7 D.f)
end
noncomputable def iV(f:Fd)(c:Int):Int×Int×Int:=match ah f.M.ls (c -65).toNat with
 |U l=>(a9 l.1 f.sz,a9 l.2.1 f.sz,a9 l.2.2 f.sz)
 |Y=>(0,0,0)
noncomputable def pw(f:Fd):Pt->Int×Int×Int
 |.lt c=>iV f c
 |.kn w=>(w,0,0)
def nk(f:Fd):Pt->Prop
 |.lt c=>f.dB c
 |.kn w=> -2100000<=w/\w<=60000000
structure Pp where
 f:Fd
 a:ai
 p:Pt
abbrev Pp.wd(q:Pp):Int:=(pw q.f q.p).1
abbrev Pp.ht(q:Pp):Int:=(pw q.f q.p).2.1
abbrev Pp.dp(q:Pp):Int:=(pw q.f q.p).2.2
structure Pp.ok(q:Pp):Prop where
 f:q.f.ok
 p:nk q.f q.p
inductive d7:List V->List Pp->Prop
 |nil:d7 [] []
 |cons {v:V} {vs:List V} {q:Pp} {qs:List Pp}:fu (q.f.v q.a) v q.p->q.ok->d7 vs qs->d7 (v::vs) (q::qs)
theorem d7.len(h:d7 vs a):vs.length=a.length:=by
 induction h with
 |nil=>rfl
 |cons _ _ _ ih=>exact aA (· +1) ih
theorem d7.El(h:d7 vs a): ∀q∈a,q.ok:=by
 induction h with
 |nil=>exact λ_ m=>dz m
 |cons _ o _ ih=>exact λq m=>(bB.mp m).elim (λe=>e▸o) (ih q)
theorem d7.gT(h:d7 vs a)(k:d7 us j):d7 (vs++us)<|a++j:=by
 induction h with
 |nil=>exact k
 |cons x o _ ih=>exact .cons x o ih
theorem v4{G:Prop}(p:f.dB c)(k: ∀b l,(∀a,(bu (ff f.sz f.M.b 0 f.M.ls) c).getD a=den (gH f.sz b l))->iV f c=(a9 l.1 f.sz,a9 l.2.1 f.sz,a9 l.2.2 f.sz)->l∈f.M.ls->G):G:=
 (FL p).elim λl e=>k _ l (λ_=>sr e.2.2) (by unfold iV;rw[e.1]) e.2.1
theorem ao7:aN g<|gH s b l:=d4 (bL tI<|bL tI<|bL tI<|bU<|bU<|bU aY)
theorem mY{o:Option V}(e: ∀a,o.getD a=den (gH s b l)):o.getD a=den (gH s b l)/\aN g (gH s b l):=⟨e a,ao7⟩
theorem AE{q:Pp}(o:q.ok):(-2100000<=q.wd/\q.wd<=60000000)/\(-2100000<=q.ht/\q.ht<=60000000)/\(-2100000<=q.dp/\q.dp<=60000000):=by
 obtain⟨f,a,p⟩:=q
 obtain⟨of,g⟩:=o
 cases p with
 |lt c=>
  refine v4 g λb l _ e m=> ?_
  have w:=of.M.l l m
  have e:pw f (.lt c)=_:=e
  unfold Pp.wd Pp.ht Pp.dp
  rw[e]
  exact⟨wS of.s0 of.s1 w.1,wS of.s0 of.s1 w.2.1,wS of.s0 of.s1 w.2.2⟩
 |kn w=>exact⟨g,(dd:(-2100000)<=0/\(0:Int)<=60000000),(dd:(-2100000)<=0/\(0:Int)<=60000000)⟩
def e8(a:Int)(qs:List Pp):Int:=dL a (qs.map Pp.ht)
def hI(a:Int)(qs:List Pp):Int:=dL a (qs.map Pp.dp)
def fI(qs:List Pp):Int:=(qs.map Pp.wd).sum
noncomputable abbrev z4:V:= .fl [.int 0,.int 0,.int 0,.int 0]
abbrev zP(n:Int):List<|Nat×SV:=[(0,.int n .no),(1,.op z4),(2,.op z4)]
noncomputable abbrev rj(vs:List V)(t:ai)(a b:Int)(x:Option V):SL:=[U<|.op<|.fl vs,U<|.ref 0 t,U<|.int a .no,U<|.int b .no,x.map .op]
theorem FC{g:G}(e: ∃o,ah g 0=U (t,o)):a8 g<|rj vs t a b x:=aB (aT e<|aT tI<|aT tI<|bJ bk)
section
abbrev C_(t:ai)(n:Int):G:=[(t,.aK 0<|zP n)]
theorem fu.by{C:V->Prop}(i:fu (f.v j) v p)(a:nk f p)(ew:pw f p=w)(o: ∀b c y l,(∀h,(bu (ff f.sz f.M.b 0 f.M.ls) c).getD h=den (gH f.sz y l))->w=(a9 l.1 f.sz,a9 l.2.1 f.sz,a9 l.2.2 f.sz)->C (.fz b 2 [(16,f.v j),(17,.int c)]))
  (k2: ∀b c ps l1 r1 y l,(∀h,(bu (ff f.sz f.M.b 0 f.M.ls) c).getD h=den (gH f.sz y l))->w=(a9 l.1 f.sz,a9 l.2.1 f.sz,a9 l.2.2 f.sz)->C (.fz b 3 [(16,f.v j),(17,.int c),(18,.aj ps),(19,.bool l1),(20,.bool r1)])) (q: ∀b i,w=(i,0,0)->C (.fz b 5 [(22,.int i),(30,.int 0)])):C v:=
 fu.casesOn i (λb c a ew=>v4 a λy l e g _=>o b c y l e<|ew.symm.trans g) (λb c ps l1 r1 a ew=>v4 a λy l e g _=>k2 b c ps l1 r1 y l e<|ew.symm.trans g) (λb i _ ew=>q b i ew.symm) a ew
set_option smartUnfolding false in
theorem az2{R}(q:nk f p)(i:fu (f.v o) v p)(ew:pw f p=w)(ht:h t=U (.aK 0<|bZ<|zP n))
  (k: ∀y,w=y-> ∀v h',Hd h [t] (C_ t<|n+y.1) h'->a8 (C_ t<|n+y.1) (rj j t (dL a [y.2.1]) (dL b [y.2.2])<|U v)->R .next (aq<|rj j t (dL a [y.2.1]) (dL b [y.2.2])<|U v) h'):cn (al I<|d+3) (Tg.x 4) wV v (aq<|rj j t a b x) h R:=
 have D:=Hd.of (g:=C_ t n) (Fa.is ht bj (c5 tI<|dH<|dH dX) Fa.nl)
 i.by (C:=λv=>cn (al I<|d+3) (Tg.x 4) wV v (aq<|rj j t a b x) h R) q ew (λb c y l e w=>dy [] [.v<|gH f.sz y l,.v<|gH f.sz y l,.v<|gH f.sz y l] D (FC ⟨_,rfl⟩) (v:= .op<|.fz b 2 [(16,f.v o),(17,.int c)]) tI<|.c (mY e)<|.c (mY e)<|.c (mY e)<|.d<|k _ w _)
  (λb c ps l1 r1 y l e w=>dy [] [.v<|gH f.sz y l,.v<|gH f.sz y l,.v<|gH f.sz y l] D (FC ⟨_,rfl⟩) (v:= .op<|.fz b 3 [(16,f.v o),(17,.int c),(18,.aj ps),(19,.bool l1),(20,.bool r1)]) tI<|.c (mY e)<|.c (mY e)<|.c (mY e)<|.d<|k _ w _)
  λb i w=>dy [] [] D (FC ⟨_,rfl⟩) (v:= .op<|.fz b 5 [(22,.int i),(30,.int 0)]) tI (.d<|k _ w _)
theorem ar5(i:d7 vs l): ∀n a b x h,h t=U (.aK 0<|bZ<|zP n)->(∀x h',h' t=U (.aK 0<|bZ<|zP<|n+fI l)->Fr h h' [t]->P .next (aq<|rj j t (e8 a l) (hI b l) x) h')->
  dg (cn (al I<|d+3) (Tg.x 4) wV) bP vs (aq<|rj j t a b x) h P:=by
 induction i with
 |nil=>exact λn a b x h e k=>⟨tI,k x h (e.trans<|by rw[show n+fI []=n from eZ n]) λ_ _ e _=>e⟩
 |cons i o _ ih=>exact λn a b x h e k=>⟨tI,az2 o.p i rfl e λy w=>w▸λv h' D _=>⟨h',H.le_refl _,ih _ _ _ _ h' (D.am 0 t _ rfl) λx h2 e2 f2=>k x h2 (e2.trans<|by rw[gp];rfl)<|Fr.tr D.f f2⟩⟩
end
theorem Ku(h:d7 vs a): -2100000*(a.length:Int)<=fI a/\fI a<=60000000*(a.length:Int):=by
 induction h with
 |nil=>exact⟨aU _,aU _⟩
 |cons _ o _ ih=>
  have h1:=(AE o).1
  unfold fI at ih⊢
  rw[kK,aR3,eT,qU,qT,qT,iu<|Pp.wd _]
  exact⟨fS ih.1 h1.1,fS ih.2 h1.2⟩
theorem ww: ∀{l:List Int} {a:Int},a<=m->0<=a->(∀x∈l,x<=m)->0<=dL a l/\dL a l<=m
 |[],_,h1,h2,_=>⟨h2,h1⟩
 |x::r,a,h1,h2,h3=>by
  show 0<=dL (if a <x then x else a) r/\dL (if a <x then x else a) r<=m
  by_cases c:a <x
  ·rw[aM c];exact ww (h3 x<|.head _) (az h2<|eR c) λy m=>h3 y (.tail _ m)
  ·rw[aE c];exact ww h1 h2 λy m=>h3 y (.tail _ m)
theorem w8(h:d7 vs a):0<=e8 0 a/\e8 0 a<=60000000:=ww dd dd λ_ m=>(AS.mp m).elim λq e=>e.2▸(AE<|h.El q e.1).2.1.2
theorem Ff(h:d7 vs a):0<=hI 0 a/\hI 0 a<=60000000:=ww dd dd λ_ m=>(AS.mp m).elim λq e=>e.2▸(AE<|h.El q e.1).2.2.2
noncomputable abbrev gm(w t b:Int)(vs:List V):List<|Nat×V:=[(21,.int 2),(22,.int w),(23,.int t),(24,.int b),(25,.fl vs),(26,.int 0),(27,.int 0),(28,.int 0),(29,.aj [.int 0,.int 1])]
abbrev Aj(n:Int):SO:= .aK 0 [(0,.int n<|.b (-33600000) 960000000),(1,.op z4),(2,.op z4)]
abbrev On(vs:List V)(qs:List Pp)(t:ai)(x:Option V):SL:=[U<|.op<|.fl vs,U<|.ref 0 t,U<|.int (e8 0 qs)<|.b 0 60000000,U<|.int (hI 0 qs)<|.b 0 60000000,x.map .op]
theorem Go(i:d7 vs a)(l:a.length<=16): -33600000<=fI a/\fI a<=960000000:=
 have l:=bS.mpr l
 ⟨az (aR6 dd l) (Ku i).1,az (Ku i).2<|pA l dd⟩
theorem Tw(i:d7 vs a)(l:a.length<=16):tf d hb B 3 (.for (.x 4) (.x 0) wV) [U<|.op<|.fl vs,U<|.ref 0 t,U<|aL 0,U<|aL 0,Y] [(t,.aK 0 [(0,aL 0),(1,.fl [aL 0,aL 0,aL 0,aL 0]),(2,.fl [aL 0,aL 0,aL 0,aL 0])])] (Option V) (λ_=>True) λx=>(.next,On vs a t x,[(t,Aj<|fI a)]):=
 have w:=Go i l
 ⟨λx _=>⟨tI,aB<|bG rfl<|i8 (w8 i).1 (w8 i).2<|i8 (Ff i).1 (Ff i).2<|bJ bk,i6 [(0,Aj<|fI a)] _⟩,
  λh P D k=>kq<|jM<|ap rfl<|.fJ<|ar5 i 0 0 0 Y h (D.am 0 t _ rfl) λx h' e f=>k x h' tI<|D.go (u:=[(0,Aj<|fI a)]) f<|dj rfl tI (e.trans<|by rw[qR];rfl) (lJ<|Pi w.1 w.2<|dH<|dH dX) d8⟩
set_option smartUnfolding false in
theorem TC(i:d7 vs j)(l:j.length<=16)(k: ∀a r h',H.le h h'->Q (.aj [.fz a 4<|gm (fI j) (e8 0 j) (hI 0 j) vs,r]) h'):al I (d+5) 49 [.fl vs] h Q:=by
 have w:=Go i l
 rw[<-eZ<|fI j] at k
 refine b_ [] [.s (Option V) (λ_=>True) λg x=>(.next,On vs j (gu g 0) x,[(gu g 0,Aj<|fI j)])] (Hd.of Fa.nl) (bD aY) (.c ?_<|.b (.b (.b (.c ?_<|.d ?_)<|.c ?_<|.d ?_)<|.d ?_)<|.d ?_)
 ·exact λt=>Tw i l
 ·exact λt x _ a _ _ _ _ h' D=>k a _ h' (a7 D.f)
 ·exact λt x _ a _ _ _ _ h' D=>k a _ h' (a7 D.f)
 ·exact λt x _ a _ _ c _=>c (by rw[eZ,aS1])
 ·exact λt x _ a _ _ c _=>c (by rw[eZ,aS1])
 ·exact λt x _ a _ c=>c (az (g8 w.2 0) dd)
 ·exact λt x _ a c=>c (az dd<|g8 w.1 0)
noncomputable def pP(n:Int):List Pp->List Int
 |[]=>[]
 |q::qs=>(n+q.wd)::pP (n+q.wd) qs
noncomputable def pU:Int->List V->List Pp->List V
 |n,v::vs,q::qs=> .aj [v,.int n,.int<|n+q.wd]::pU (n+q.wd) vs qs
 |_,_,_=>[]
abbrev gY(a:ai)(w t b:Int)(vs:List V):SV:= .op (.fz a 4<|gm w t b vs)
abbrev pZ(a:SV)(fo:ai)(n:Int)(x:Option V):SL:=[U a,U<|.ref 0 fo,U<|.int n .no,U<|aL 0,x.map .op]
theorem yB{g:G}(e: ∃o,ah g 0=U (a,o)):a8 g<|pZ (.op h) a n x:=aB (aT e<|aT tI<|gx<|bJ bk)
section
set_option smartUnfolding false in
theorem W6(k: ∀h',H.le h h'->Q (.int 0) h'):al I (d+2) 44 [.fz a 4<|gm p j l o,.int 0] h Q:=
 b_ [] [.f,.f] (Hd.of Fa.nl) (bD<|bU aY) (.c (dd:(-9223372036854775808)<=0/\(0:Int)<=9223372036854775808)<|.c (dd: ¬(1:Int)<=0)<|.c (dd: ¬(0*0:Int) <0)<|.c (dd:(1:Int)<=2*1/\(2*1:Int)<=1073741823)<|.d λh' D=>k h'<|a7 D.f)
theorem Cf:il d hb B (n+2) 44 [gY a p j l o,aL 0] g (aL 0) []:=cI (o7 _) λh Q k=>W6 k
variable{R:Fl->L->H->Prop}
set_option smartUnfolding false in
theorem Y_{L}(q:nk f p)(i:fu (f.v A) v p)(ew:pw f p=w)(ht:h j=U (.list L))(hl:L.length<=90)
  (k: ∀y,w=y-> ∀v h',Hd h [j] [(j,.list<|L++[.int<|n+y.1+0])] h'->a8 [(j,.list<|L++[.int<|n+y.1+0])] (pZ (gY a z o u t) j (n+y.1)<|U v)->R .next (aq<|pZ (gY a z o u t) j (n+y.1)<|U v) h'):cn (al I<|d+3) (Tg.x 4) zd v (aq<|pZ (gY a z o u t) j n x) h R:=
 have D:=Hd.of (g:=[(j,.list L)]) (Fa.ls ht bj Fa.nl)
 have l:=cz (ak (cf hl) dd)
 i.by (C:=λv=>cn (al I<|d+3) (Tg.x 4) zd v (aq<|pZ (gY a z o u t) j n x) h R) q ew (λb c y l' e w=>dy [44] [.t,.v<|gH f.sz y l',.d (aL 0) []] D (yB ⟨_,rfl⟩) (v:= .op<|.fz b 2 [(16,f.v A),(17,.int c)]) tI<|.c rfl<|.c (mY e)<|.c Cf<|.c l<|.d<|k _ w _)
  (λb c ps l1 r1 y l' e w=>dy [44] [.t,.v<|gH f.sz y l',.d (aL 0) []] D (yB ⟨_,rfl⟩) (v:= .op<|.fz b 3 [(16,f.v A),(17,.int c),(18,.aj ps),(19,.bool l1),(20,.bool r1)]) tI<|.c rfl<|.c (mY e)<|.c Cf<|.c l<|.d<|k _ w _)
  λb i w=>dy [44] [.t,.d (aL 0) []] D (yB ⟨_,rfl⟩) (v:= .op<|.fz b 5 [(22,.int i),(30,.int 0)]) tI (.c rfl<|.c Cf<|.c l<|.d<|k _ w _)
theorem aA5(i:d7 vs l): ∀n L x h,L.length+l.length<=90->h j=U (.list L)->(∀b x h',h' j=U (.list<|L++vi (pP n l))->Fr h h' [j]->R .next (aq<|pZ (gY a z p u t) j b x) h')->
  dg (cn (al I<|d+3) (Tg.x 4) zd) bP vs (aq<|pZ (gY a z p u t) j n x) h R:=by
 induction i with
 |nil=>exact λn L x h _ e k=>⟨tI,k n x h (e.trans<|by rw[show vi (pP n [])=[] from rfl,c8]) λ_ _ e _=>e⟩
 |cons i o _ ih=>exact λn L x h hl e k=>⟨tI,Y_ o.p i rfl e (ak (cg _ _) hl) λy w=>w▸λv h' D _=>⟨h',H.le_refl _,ih _ _ _ h' (by rw[aC,cG,c4 [_].length];exact hl) (D.am 0 j _ rfl) λb x h2 e2 f2=>k b x h2 (e2.trans<|by rw[aX,eZ];rfl)<|Fr.tr D.f f2⟩⟩
end
noncomputable abbrev qx(a:SV)(os:List V)(fo:ai)(x3 x4 x5 x6 x7:Option V)(k:Nat:=0):SL:=[U a,U<|.op<|.fl os,U<|.ref k fo,x3.map .op,x4.map .op,x5.map .op,x6.map .op,x7.map .op]
theorem yT{g:G}{a}(e: ∃o,ah g k=U (h,o)):a8 g<|qx (.op j) a h l x4 x5 x6 x7 k:=aB (aB<|aT e<|bJ<|bJ<|bJ<|bJ<|bJ bk)
theorem BC(e:o=U v):o=U (den<|.op v)/\aN g (.op v):=⟨e,tI⟩
theorem sq(e:o=U (.int i)):o=U (den<|.int i .no)/\aN g (.int i .no):=⟨e,tI⟩
section
variable{a:ai}{wb tb bb:Int}{R:Fl->L->H->Prop}{os:List V}
noncomputable abbrev yP(v:V)(n n2:Int):List V:=[.aj [v,.int n,.int n2]]
noncomputable abbrev Cw(v:V)(n n2:Int):List bI:=[.v<|.op v,.v<|.int n .no,.v<|.int n2 .no]
set_option smartUnfolding false in
theorem ak3{L}(q:nk f p)(j:fu (f.v y) v p)(ht:h o=U (.list L))(hl:L.length<=90)(i0:0<=i)(e:i<=90)(e1:ah t i.toNat=U v)(e2:ah os i.toNat=U (.int n))(e3:ah os (i+1).toNat=U (.int u))
  (k: ∀x4 x5 h',Hd h [o] [(o,.list<|L++yP v n u)] h'->R .next (aq<|qx (gY a wb tb bb t) os o (U<|.int i) x4 x5 x6 x7) h'):cn (al I<|d+4) (Tg.x 3) zt (.int i) (aq<|qx (gY a wb tb bb t) os o z x4 x5 x6 x7) h R:=
 have D:=Hd.of (g:=[(o,.list L)]) (Fa.ls ht bj Fa.nl)
 have l:=cz (ak (cf hl) dd)
 fu.by (C:=λv=>ah t i.toNat=U v->(∀h',Hd h [o] [(o,.list<|L++yP v n u)] h'->R .next (aq<|qx (gY a wb tb bb t) os o (U<|.int i) (U v) (U<|.int n) x6 x7) h')->cn (al I<|d+4) (Tg.x 3) zt (.int i) (aq<|qx (gY a wb tb bb t) os o z x4 x5 x6 x7) h R) j q rfl
  (λb c _ _ _ _ e1 k=>dy [] (Cw (.fz b 2 [(16,f.v y),(17,.int c)]) n u) D (yT ⟨_,rfl⟩) (v:= .int i<|.b 0 90) ⟨i0,e⟩<|.c (BC e1)<|.c (sq e2)<|.c (sq e3)<|.c l<|.d λh' D _=>k h' D)
  (λb c ps l1 r1 _ _ _ _ e1 k=>dy [] (Cw (.fz b 3 [(16,f.v y),(17,.int c),(18,.aj ps),(19,.bool l1),(20,.bool r1)]) n u) D (yT ⟨_,rfl⟩) (v:= .int i<|.b 0 90) ⟨i0,e⟩<|.c (BC e1)<|.c (sq e2)<|.c (sq e3)<|.c l<|.d λh' D _=>k h' D)
  (λb w _ e1 k=>dy [] (Cw (.fz b 5 [(22,.int w),(30,.int 0)]) n u) D (yT ⟨_,rfl⟩) (v:= .int i<|.b 0 90) ⟨i0,e⟩<|.c (BC e1)<|.c (sq e2)<|.c (sq e3)<|.c l<|.d λh' D _=>k h' D)
  e1 (k _ _)
theorem Ji x y B: ∀A:List α,ah (A++x::y::B) (A.length+1)=U y
 |[]=>rfl
 |_::A=>Ji x y B A
theorem aC9(i:d7 vs p): ∀A B n x3 x4 x5 L h,l=A++vs->os=B++vi (n::pP n p)->B.length=A.length->L.length+vs.length<=90->A.length+vs.length<=90->h j=U (.list L)->
  (∀x3 x4 x5 h',h' j=U (.list<|L++pU n vs p)->Fr h h' [j]->R .next (aq<|qx (gY a wb tb bb l) os j x3 x4 x5 Y Y) h')->
  dg (cn (al I<|d+4) (Tg.x 3) zt) bP (eh A.length 1 vs.length) (aq<|qx (gY a wb tb bb l) os j x3 x4 x5 Y Y) h R:=by
 induction i with
 |nil=>exact λA B n x3 x4 x5 L h _ _ _ _ _ e k=>⟨tI,k x3 x4 x5 h (e.trans<|by rw[show pU n [] []=[] from rfl,c8]) λ_ _ e _=>e⟩
 | @cons v _ q _ i o _ ih=>exact λA B n x3 x4 x5 L h e1 e2 b hl hA e k=>⟨tI,ak3 o.p i e (ak (cg _ _) hl) (du _) (bS.mpr<|Nat.le_trans (cg _ _) hA) (by rw[e1];exact qw _ _ A) (by rw[e2,<-b];exact qw _ _ B) (by rw[e2,<-b];exact Ji (.int n) (.int<|n+q.wd) _ B)
   λx4 x5 h' D=>⟨h',H.le_refl _,by
    have z:=ih (A++[v]) (B++[.int n]) (n+q.wd) (U<|.int<|A.length) x4 x5 (L++yP v n (n+q.wd)) h' (by rw[e1,aX];rfl) (by rw[e2,aX];rfl) (by rw[aC,aC,b];rfl) (by rw[aC,cG,c4 (yP _ _ _).length];exact hl) (by rw[aC,cG,c4 [_].length];exact hA) (D.am 0 j _ rfl) λy3 y4 y5 h2 e2 f2=>k y3 y4 y5 h2 (e2.trans<|by rw[aX];rfl) (Fr.tr D.f f2)
    rw[aC] at z
    exact z⟩⟩
abbrev h68(vs:List V)(qs:List Pp):List bI:=[.f,.s (Int×Option V) (λ_=>True) λg x=>(.next,pZ (gY a wb tb bb vs) (gu g 0) x.1 x.2,[(gu g 0,.list<|vi<|0::pP 0 qs)]),
 .s (Option V×Option V×Option V) (λ_=>True) λg x=>(.next,qx (gY a wb tb bb vs) (vi<|0::pP 0 qs) (gu g 1) x.1 x.2.1 x.2.2 Y Y 1,[(gu g 0,.fW),(gu g 1,.list<|pU 0 vs qs)])]
set_option smartUnfolding false in
theorem au1{Q:V->H->Prop}(i:d7 vs j)(hl:j.length<=16)(k: ∀h',H.le h h'->Q (.fl<|pU 0 vs j) h'):al I (d+5) 68 [.fz a 4<|gm wb tb bb vs] h Q:=
 have hv:=i.len▸hl
 b_ [] (h68 vs j) (Hd.of Fa.nl) (bD aY) (.c (dd: ¬(2:Int)=3) (.c (λfo=>⟨λx _=>⟨tI,yB ⟨_,rfl⟩,i6 [(0,.list<|vi<|0::pP 0 j)] _⟩,λh P D q=>kq<|z2<|cJ<|ap rfl<|.iA rfl<|.fJ<|aA5 i 0 [.int 0] Y h (by rw[c4];exact ak (cf hl) dd) (D.am 0 fo _ rfl) λn x h' e f=>q (n,x) h' tI<|D.go (u:=[(0,.list<|vi<|0::pP 0 j)]) f<|dj rfl tI e tI d8⟩)
  (.c (λfo x _ b=>⟨λx _=>⟨tI,yT ⟨_,rfl⟩,i6 [(1,.list<|pU 0 vs j)] _⟩,λh P D q=>kq<|iY<|ay<|eJ<|ay<|cJ<|ap rfl<|.iA rfl<|bh<|.xQ (cz<|ak hv dd)<|bh<|.ma ⟨az dd<|du _,az (bS.mpr hv) dd⟩<|aC9 i [] [] 0 Y Y Y [] h rfl rfl rfl (ak (jC<|gK _)<|ak hv dd) (ak (jC<|gK _)<|ak hv dd) (D.am 1 b _ rfl) λx3 x4 x5 h' e f=>q (x3,x4,x5) h' tI<|D.go (u:=[(1,.list<|pU 0 vs j)]) f<|dj rfl tI e tI d8⟩)<|.d λfo x _ b y _ h' D=>k h'<|a7 D.f)))
end
theorem gy stop hs(D:Hd hb B g h)(o:a8 g ρ)(k:dG (lf d hb B (FP hb B P) (rS (rC stop n) n s ρ g .done) hs) []):ex I (al I<|d+n) s (aq ρ) h P:=
 tz (mr stop n) s _ _ _ _ _ D o (rR _ hs (λ_ x=>x) k) λ_ h' _ _ _ D' o' _ t=>t h' D' o'
def UR(hb:H)(B:List ai){α:Type}(p:α->Prop)(r:α->SF×SL×G)(P:Fl->L->H->Prop):Prop:= ∀x h',p x->Hd hb B (r x).2.2 h'->P (wN (r x).1) (aq (r x).2.1) h'
theorem oT{d n:Nat}{hb:H}{B:List ai}{s:S}{ρ:SL}{g:G}{α:Type}{p:α->Prop}{r:α->SF×SL×G}(o: ∀x,p x->a8 (r x).2.2 (r x).2.1)(l: ∀x,p x->G.le g (r x).2.2)(k: ∀h P,Hd hb B g h->UR hb B p r P->ex I (al I<|d+n) s (aq ρ) h P)(f: ∀x,p x->zv (r x).2.2 (r x).1:=by exact λ_ _=>tI):tf d hb B n s ρ g α p r:=
 ⟨λx y=>⟨f x y,o x y,l x y⟩,k⟩
noncomputable def aO(n:Int):Nat->List Int
 |0=>[]
 |r+1=>n/256^r% 256::aO n r
theorem cH n: ∀r,(aO n r).length=r
 |0=>rfl
 |r+1=>aA (· +1) (cH n r)
theorem as0(n:Nat):rt ((n:Int) -1) (-1) (-1)=n:=by
 cases n with
 |zero=>rfl
 |succ n=>
  rw[show((n+1:Nat):Int) -1=n from mn n 1]
  show(if(-1:Int) >0 then _ else(if(n:Int) > -1 then((n:Int) - -1 -1)/(- -1)+1 else 0)).toNat=n+1
  rw[aE dd,aM<|Int.lt_of_lt_of_le dd<|Int.natCast_nonneg n,show((n:Int) - -1 -1)=n from mn n 1,show(- -1:Int)=1 by decide,GE];rfl
noncomputable abbrev itD(n:E):E:= .bi .range (.cons (.dY .sub n<|.c<|.int 1)<|.cons (.neg<|.c<|.int 1)<|.cons (.neg<|.c<|.int 1) .nil)
theorem Bs{n:Nat}(l:n<=1000000)(he: ∀{Q},Q (.int n) h->(ao I C e ρ).v h Q)(k:K (eh ((n:Int) -1) (-1) n) bP h):(ao I C (itD e) ρ).i h K:=
 iY (ay<|eE<|he<|bl<|.wZ<|ay<|v1<|bl<|.sG<|ay<|v1<|bl<|.sG<|bh<|.Ca ⟨az dd<|Rc (du n) 1,az (aR5 _ dd)<|az (bS.mpr l) dd⟩ ⟨dd,dd⟩ dd dd<|by rw[as0];exact k)
theorem cZ(h:n<=9000):a_ n:=ak h dd
section
variable{o:ai}{n:Int}
noncomputable abbrev xM(o:ai)(n r:Int)(x:Option V):SL:=[U<|.ref 0 o,U<|.int n .no,U<|.int r<|.b 0 4,x.map .op]
theorem ME(r0:0<=r)(r1:r<=4):a8 [(o,y)]<|xM o n r x:=bG rfl (aT tI<|i8 r0 r1<|bJ bk)
theorem aB6(h:r<=3):(1:Int)<=256^r/\(256:Int) ^r<=1073741823:=by
 rcases show r=0\/r=1\/r=2\/r=3 by lia with rfl|rfl|rfl|rfl <;>decide
set_option smartUnfolding false in
theorem ak2{R}(r0:0<=R)(a:R<=4): ∀r (L:List V) x h,r<=4->L.length+r<=9000->h o=U (.list L)->(∀x h',h' o=U (.list<|L++vi (aO n r))->Fr h h' [o]->P .next (aq<|xM o n R x) h')->
  dg (cn (al I d) (Tg.x 3) Oa) bP (eh ((r:Int) -1) (-1) r) (aq<|xM o n R x) h P:=λr=>by
 induction r with
 |zero=>exact λL x h _ _ e k=>⟨tI,k x h (e.trans<|by rw[show vi (aO n 0)=[] from rfl,c8]) λ_ _ e _=>e⟩
 |succ r ih=>
  intro L x h hr hl e k
  rw[show((r+1:Nat):Int) -1=r from mn r 1]
  exact⟨tI,dy (n:=0) [] [] (Hd.of (g:=[(o,.list L)])<|Fa.ls e bj Fa.nl) (ME r0 a) (v:= .int r<|.b 0 3) ⟨du r,bS.mpr<|Nat.le_of_succ_le_succ hr⟩<|.c (aB6<|Nat.le_of_succ_le_succ hr)<|.c (cZ<|Nat.le_trans (eG (cf<|Nat.zero_le r) _) hl)<|.d λh' D _=>⟨h',H.le_refl _,ih _ (U<|.int r) h' (lD hr) (by rw[aC,cG,c4 [_].length];exact hl) (D.am 0 o _ rfl) λx h2 e2 f2=>k x h2 (e2.trans<|by rw[aX];rfl)<|Fr.tr D.f f2⟩⟩
set_option smartUnfolding false in
theorem yJ{L}(ho:h o=U (.list L))(hl:L.length<=8000)(hr:r<=4)(k: ∀h',h' o=U (.list<|L++vi (aO n r))->Fr h h' [o]->Q .none h'):al I (d+1) 50 [.ref o,.int n,.int r] h Q:=
 b_ (n:=1) (vs:=[.ref 0 o,.int n .no,.int r<|.b 0 4]) [] [.s (Option V) (λ_=>True) λ_ x=>(.next,xM o n r x,[(o,.list<|L++vi (aO n r))])] (Hd.of (g:=[(o,.list L)])<|Fa.ls ho bj Fa.nl) (h_ rfl<|bL tI<|cD (du r) (bS.mpr hr) aY)
  (.c (oT (λx _=>ME (du r)<|bS.mpr hr) (λx _=>i6 [(0,.list<|L++vi (aO n r))] _) λh P D q=>kq<|Bs (n:=r) (ak hr dd) (ap rfl)<|ak2 (d:=d) (du r) (bS.mpr hr) r L Y h hr (ak (gM hl hr) dd) (D.am 0 o _ rfl) λx h' e f=>q x h' tI<|D.go (u:=[(0,.list<|L++vi (aO n r))]) f<|dj rfl tI e tI d8)
  (.d λx _ h' D=>k h' (D.am 0 o _ rfl) D.f))
theorem r_{m i r:Nat}{g:G}{L}(e:ah g i=U (o,.list L))(hl:L.length<=8000)(hr:r<=4):il d hb B (m+1) 50 [.ref i o,.int n b,.int r a] g (.op .none) [(i,.list<|L++vi (aO n r))]:=
 ⟨tI,λh Q D k=>yJ (d:=d+m) (D.am i o _ e) hl hr λh' e' f=>k h'<|D.go (u:=[(i,.list<|L++vi (aO n r))]) (by unfold jm;rw[kK,e];exact f)<|dj e tI e' tI d8⟩
noncomputable def bF(s:Int):Nat:=if 128<=(s.natAbs:Int) then if 32768<=(s.natAbs:Int) then if 8388608<=(s.natAbs:Int) then 4 else 3 else 2 else 1
theorem k6 s:1<=bF s/\bF s<=4:=by
 unfold bF;split;split;split;all_goals decide
noncomputable abbrev s51(o:ai)(a n r:Int):SL:=[U<|.ref 0 o,U<|.int a .no,U<|.int n .no,U<|.int r<|.b 1 4]
set_option smartUnfolding false in
theorem P5{o}{L}{n a}(ho:h o=U (.list L))(hl:L.length<=7000)(k: ∀h',h' o=U (.list<|L++[V.int<|a+bF n -1]++vi (aO n<|bF n))->Fr h h' [o]->Q .none h'):
  al I (d+2) 51 [.ref o,.int a,.int n] h Q:=
 have r0:=(k6 n).1
 have r1:=(k6 n).2
 have l:(L++[V.int<|a+bF n -1]).length<=8000:=by rw[aC];exact ak (cK hl 1) dd
 b_ (n:=2) (vs:=[.ref 0 o,.int a .no,.int n .no]) [50] [.s Unit (λ_=>True) λ_ _=>(.next,s51 o a n<|bF n,[(o,.list L)]),.d (.op .none) [(0,.list<|L++[V.int<|a+bF n -1]++vi (aO n<|bF n))]] (Hd.of (g:=[(o,.list L)])<|Fa.ls ho bj Fa.nl) (h_ rfl<|bL tI<|bL tI aY)
  (.c (oT (λ_ _=>bG rfl<|aT tI<|aT tI<|i8 (bS.mpr r0) (bS.mpr r1) bk) (λ_ _=>G.le_refl _) λh P D q=>gy (n:=1) [] [.u] D (bG rfl<|aT tI<|aT tI<|gx bk) (.b (.b (.c (λc1 b c h' D _=>by
   have q:=q () h' tI D
   rw[show bF n=4 from(aM c1).trans<|(aM b).trans<|aM c] at q;exact q) (.d λc1 b c h' D _=>by
   have q:=q () h' tI D
   rw[show bF n=3 from(aM c1).trans<|(aM b).trans<|aE c] at q;exact q)) (.d λc1 b h' D _=>by
   have q:=q () h' tI D
   rw[show bF n=2 from(aM c1).trans<|aE b] at q;exact q)) (.d λc1 h' D _=>by
   have q:=q () h' tI D
   rw[show bF n=1 from aE c1] at q;exact q)))<|.c (λ_ _=>cZ<|ak (cf hl) dd)<|.c (λ_ _=>r_ rfl l r1)<|.d λ_ _ h' D=>k h' (D.am 0 o _ rfl) D.f)
end
theorem cU l:(vi l).length=l.length:=bN ..
theorem eC a b:vi (a++b)=vi a++vi b:=qW
theorem ln(h:A.length<=m):(A++vi (aO n r)).length<=m+r:=by rw[aC,cU,cH];exact cK h r
theorem yN{x:V}(h:A.length<=m):(A++[x]).length<=m+1:=by rw[aC];exact cK h 1
theorem DJ:Fr h (h.cq o x) [o]:=λb y e n=>(H.jZ λq=>n<|b9.mpr q).trans e
theorem Ks{R}(e0:ah (cX ρ 2<|.str ⟨#[c]⟩) 0=U (U<|.ref o))(e2:ah (cX ρ 2<|.str ⟨#[c]⟩) 2=U (U<|.str ⟨#[c]⟩))(ho:h o=U (.list l))(hl:l.length<=8000)
  (k: ∀h',h' o=U (.list<|l++[V.int c])->Fr h h' [o]->R .next (cX ρ 2<|.str ⟨#[c]⟩) h'):cn C (.x 2) Ps (.str ⟨#[c]⟩) ρ h R:=
 eH (bz<|ip<|gv<|ap e0<|.pL ho rfl<|ay<|eJ<|ay<|ap e2<|.vM<|bh<|.vq ho (cZ<|ak (cf hl) dd)<|k _ (H.kb ..) DJ)
theorem aL1{ρ:L}(e:ah ρ 1=U (U<|.fz a 1 o))(en:bc o 4=U (.str ⟨#[j,p]⟩))(h1:(j:Int)<=255)(h2:(p:Int)<=255)(k:Q (.fl []) h):
  (ao I C (.comp aa [] (.at (.x 1) 4) (.eW .gt (.bi .o5<|.cons (.x 0) .nil)<|.c<|.int 255)<|.x 0) ρ).v h Q:=
 have t: ∀{c:Nat} {T F:H->Prop},(c:Int)<=255->F h->(ao I C (.eW .gt (.bi .o5<|.cons (.x 0) .nil)<|.c<|.int 255) [U<|.str ⟨#[c]⟩]).t h T F:=λl k=>iS (eJ<|ay<|ap rfl<|.vM<|bl<|.qE<|gk (fF.mpr l) k)
 kx (z2<|cJ<|ap e<|.iA en<|.xN ⟨(dd:2<=1000000),jr ⟨tI,t h1 ⟨tI,t h2 ⟨tI,k⟩⟩⟩⟩)
def ni(f:Fd)(b:Nat):List Int:=243::(aO f.n 1++(aO f.M.ck 4++(aO f.sz 4++(aO f.M.de 4++[0,2,102,(b:Int)]))))
theorem an2{L}{b:Nat}:L++[V.int<|243+1 -1]++vi (aO f.n 1)++vi (aO f.M.ck 4)++vi (aO f.sz 4)++vi (aO f.M.de 4)++[V.int 0]++[V.int 2]++[V.int (102:Nat)]++[V.int b]=L++vi (ni f b):=by
 unfold ni
 rw[show∀x r,vi (x::r)=[V.int x]++vi r from λ_ _=>rfl,eC,eC,eC,eC]
 simp only[aX]
 rfl
noncomputable abbrev K1(o:ai)(l:List V):G:=[(o,.list l)]
abbrev s54(o a:ai)(f:Fd)(x:Option V):SL:=[U<|.ref 0 o,U<|.op<|f.v a,x.map .op]
set_option smartUnfolding false in
theorem I0{b:Nat}(n1:n<=255)(hb:(b:Int)<=255)(ho:h o=U (.list l))(hl:l.length<=5000)(k: ∀h',h' o=U (.list<|l++vi (ni ⟨M,n,⟨#[102,b]⟩,s⟩ b))->Fr h h' [o]->Q .none h'):
  al I (d+3) 54 [.ref o,Fd.v ⟨M,n,⟨#[102,b]⟩,s⟩ a] h Q:=by
 rw[<-an2] at k
 have l1:=yN (x:=V.int<|243+1 -1) hl
 have l2:=ln (n:=n) (r:=1) l1
 have l3:=ln (n:=M.ck) (r:=4) l2
 have l4:=ln (n:=s) (r:=4) l3
 have l5:=ln (n:=M.de) (r:=4) l4
 have c:=yN (x:=V.int 0) l5
 have e:=yN (x:=V.int 2) c
 have w: ∀{x y:Nat},x<=y->y<=8000->x<=8000:=ak
 refine b_ (vs:=[.ref 0 o,.op<|Fd.v ⟨M,n,⟨#[102,b]⟩,s⟩ a]) [50] [.u,.d (.op<|.fl []) [],.f,.u,.f,.d (.op .none) [(0,.list<|l++[V.int<|243+1 -1]++vi (aO n 1))],.d (.op .none) [(0,.list<|l++[V.int<|243+1 -1]++vi (aO n 1)++vi (aO M.ck 4))],.d (.op .none) [(0,.list<|l++[V.int<|243+1 -1]++vi (aO n 1)++vi (aO M.ck 4)++vi (aO s 4))],
   .d (.op .none) [(0,.list<|l++[V.int<|243+1 -1]++vi (aO n 1)++vi (aO M.ck 4)++vi (aO s 4)++vi (aO M.de 4))],.n,.u,.n,.s Unit (λ_=>True) λg x=>(.next,s54 o a ⟨M,n,⟨#[102,b]⟩,s⟩<|U<|.str ⟨#[b]⟩,K1 o<|l++[V.int<|243+1 -1]++vi (aO n 1)++vi (aO M.ck 4)++vi (aO s 4)++vi (aO M.de 4)++[V.int 0]++[V.int 2]++[V.int<|102]++[V.int b])] (Hd.of (g:=K1 o l)<|Fa.ls ho bj Fa.nl) (h_ rfl<|bD aY)
  (.c ⟨tI,λh Q D k=>aL1 rfl rfl dd hb<|k h D⟩ (.c (λq=>q rfl) (.c (n3.mpr<|g7 n1 dd) (.c (cZ<|ak (cf hl) dd) (.c (r_ rfl (w l1 dd) dd) (.c (r_ rfl (w l2 dd) dd) (.c (r_ rfl (w l3 dd) dd) (.c (r_ rfl (w l4 dd) dd)
   (.c (cZ<|ak (cf l5) dd) (.c (cZ<|ak (cf c) dd) (.c (oT (λ_ _=>bG rfl<|aB<|aB bk) (λ_ _=>i6 [(0,.list _)] _) λh P D q=>kq<|z2<|cJ<|ap rfl<|.iA rfl<|.xN ⟨tI,Ks rfl rfl (D.am 0 o _ rfl) (w e dd) λh1 e1 f1=>⟨h1,H.le_refl _,tI,Ks rfl rfl e1 (w (yN e) dd) λh2 e2 f2=>⟨h2,H.le_refl _,tI,q () h2 tI<|D.go (u:=[(0,.list _)]) (Fr.tr f1 f2)<|dj rfl tI e2 tI d8⟩⟩⟩)
    (.d λ_ _ h' D=>k h' (D.am 0 o _ rfl) D.f))))))))))))
structure Wt where
 M:aW
 s:Int->Int
 a:Int->ai
def Wt.f(W:Wt)(n:Int):Fd:=⟨W.M,n,⟨#[102,96+n.toNat]⟩,W.s n⟩
def Wt.v(W:Wt)(n:Int):V:=(W.f n).v (W.a n)
inductive Kd where
 |p
 |r (tx again:Bool)
inductive bm where
 |mv (s:Int) (k:Kd)
 |dn (s:Int)
 |fd (n:Int)
 |fn (n:Int)
 |ch (c:Int)
noncomputable def dl(a:Bool):Int:=cond a 10 5
noncomputable def Kd.dk:Kd->Int
 |.p=>0
 |.r tx _=>dl tx
noncomputable def Kd.rm(s:Int):Kd->Nat
 |.r _ aa=>0
 |_=>bF s
noncomputable def h7(W:Wt):bm->List Int
 |.mv s k=>(143+k.rm s+k.dk -1)::aO s (k.rm s)
 |.dn s=>(157+bF s -1)::aO s (bF s)
 |.fd n=>ni (W.f n) (96+n.toNat)
 |.fn n=>[171+n]
 |.ch c=>[c]
noncomputable def aH(W:Wt):List bm->List Int
 |[]=>[]
 |c::R=>aH W R++h7 W c
theorem pn(W c R):aH W (c::R)=aH W R++h7 W c:=rfl
noncomputable def rA(a:Bool):bm->Prop
 |.mv _ (.r t _)=>t=a
 |_=>False
noncomputable def dM(a:Bool):List bm->Int
 |[]=>0
 |.mv s (.r t ae)::R=>if t=a then s else dM a R
 |_::R=>dM a R
noncomputable def fC:List bm->Prop
 |[]=>True
 |.mv s k::R=>(-2147483648<=s/\s <2147483648)/\(match k with|.r t aa=>dM t R=s|_=>True)/\fC R
 |.dn s::R=>(-2147483648<=s/\s <2147483648)/\fC R
 |_::R=>fC R
noncomputable def er:bm->bm
 |.mv s _=> .mv s .p
 |c=>c
theorem aK5{R j}(h:dM a R=dM a j): ∀c,dM a (c::R)=dM a (c::j)
 |.mv _ (.r t ae)=>by show(if t=a then _ else _)=(if t=a then _ else _);rw[h]
 |.mv _ (.r _ aa)|.mv _ .p|.dn _|.fd _|.fn _|.ch _=>h
theorem W1{R}(h: ¬rA a c):dM a (c::R)=dM a R:=match c,h with
 |.mv _ (.r _ ae),h=>aE h
 |.mv _ (.r _ aa),_|.mv _ .p,_|.dn _,_|.fd _,_|.fn _,_|.ch _,_=>rfl
theorem Dg{R}(g:fC<|c::R):fC R:=match c,g with
 |.mv _ _,g=>g.2.2
 |.dn _,g=>g.2
 |.fd _,g|.fn _,g|.ch _,g=>g
theorem ah1{R a}(g:fC<|c::R)(g1:fC a)(h: ∀t,rA t c->dM t a=dM t R):fC<|c::a:=by
 rcases c with⟨_,_|⟨t,_|_⟩⟩|_|_|_|_
 ·exact⟨g.1,tI,g1⟩
 ·exact⟨g.1,tI,g1⟩
 ·exact⟨g.1,(h t rfl).trans g.2.1,g1⟩
 ·exact⟨g.1,g1⟩
 all_goals exact g1
theorem DN: ∀{S:List bm},fC (S++ .mv s (.r a j)::l)->(∀c∈S,¬rA a c)->dM a (S++ .mv s (.r a j)::l)=s
 |[],g,_=>match j,g with
  |ae,_=>aM rfl
  |aa,g=>g.2.1
 |c::S,g,h=>(W1<|h c<|.head _).trans (DN (Dg g) λc m=>h c<|.tail _ m)
theorem conv: ∀{S:List bm},fC (S++ .mv s .p::j)->(∀c∈S,¬rA a c)->fC (S++ .mv s (.r a ae)::j)/\(∀t,t≠a->dM t (S++ .mv s (.r a ae)::j)=dM t (S++ .mv s .p::j))
 |[],g,_=>⟨⟨g.1,tI,g.2.2⟩,λ_ n=>aE<|AT n⟩
 |c::S,g,h=>have ih:=conv (Dg g) λc m=>h c (.tail _ m)
  ⟨ah1 g ih.1 λt i=>ih.2 t λe=>h c (.head _)<|e▸i,λt n=>aK5 (ih.2 t n) c⟩
theorem yK W: ∀A B,aH W (A++B)=aH W B++aH W A
 |[],B=>(c8 _).symm
 |c::A,B=>by show aH W (A++B)++_=_++(aH W A++_);rw[yK W A B,aX]
theorem OO{R}:(aH W<|.mv s (.r a ae)::R).length=(aH W<|.mv s .p::R).length:=by
 rw[pn,pn,aC,aC];rfl
theorem Qv a x m: ∀l:List α,d_ (l++a::m) l.length x=l++x::m
 |[]=>rfl
 |b::l=>aA (b:: ·) (Qv a x m l)
theorem Jn: ∀l i x,d_ (vi l) i (.int x)=vi (d_ l i x)
 |[],_,_=>rfl
 |_::_,0,_=>rfl
 |_::r,i+1,x=>aA (_) (Jn r i x)
theorem yX{S h}:a++aH W (S++ .mv s k::h)=(a++aH W h)++(143+k.rm s+k.dk -1)::(aO s (k.rm s)++aH W S):=by
 rw[yK]
 show a++(aH W h++_++_)=_
 simp only[aX];rfl
theorem aK4{S l}:d_ (h++aH W (S++ .mv s .p::l)) (h.length+(aH W l).length) (143+bF s+0 -1+dl j)=h++aH W (S++ .mv s (.r j ae)::l):=by
 rw[yX,yX,<-aC]
 refine(Qv _ _ _ _).trans ?_
 show _++(143+(bF s)+0 -1+dl j)::_=_++(143+(bF s)+dl j -1)::_
 rw[eZ,show∀a b:Int,a -1+b=a+b -1 from λa b=>Int.add_right_comm a (-1) b];rfl
noncomputable def SO.dt(o:SO):Bool:=SO.casesOn o (λ_ _=>aa) (λ_=>aa) (λ_=>aa) (λ_=>aa) (λ_=>ae) ae
theorem SO.eq{o:SO}:o.dt=aa->o.at x->o.at y->x=y:=
 SO.casesOn o (λ_ _ _ p q=>p.trans q.symm) (λ_ _ p q=>p.trans q.symm) (λ_ _ p q=>p.trans q.symm) (λ_ _ p q=>p.trans q.symm) (λ_=>nofun) nofun
theorem ze{α β:Type}{f}{b:β}: ∀{l:List α},b∈l.map f-> ∃i x,ah l i=U x/\f x=b
 |x::l,m=>(bB.mp m).elim (λe=>⟨0,x,rfl,e.symm⟩) λm=>(ze m).elim λi w=>⟨i+1,w⟩
theorem Jg: ∀{l:List α} {i:Nat} {x:α},l.all p=aa->ah l i=U x->p x=aa
 |y::l,0,_,a,e=>by cases e;exact(fT.mp a).1
 |y::l,i+1,_,a,e=>Jg (fT.mp a).2 e
theorem Hd.fR(f:Fa h g g)(a:g.all (λx=>x.2.dt)=aa)(D:Hd h (g.map (·.1)) g h'):H.le h h':=λb y e=>by
 by_cases m:b∈g.map (·.1)
 ·obtain⟨i,x,ei,rfl⟩:=ze m
  exact(SO.eq (Jg (p:=λx=>x.2.dt) a ei) (f.am ei).1<|D.am i _ _ ei).symm.trans e
 ·exact D.f b y e m
noncomputable abbrev row(s p t:Int):O:= .list [.int s,.int p,.int t]
noncomputable def tv(a:Bool):Int:=cond a 5 4
noncomputable def cls:Kd->Int->Prop
 |.p,t=>t=0\/t=1\/t=2\/t=3
 |.r tx _,t=>t=tv tx
noncomputable def Nd(c:bm):Bool:=bm.casesOn c (λ_ _=>aa) (λ_=>ae) (λ_=>ae) (λ_=>ae) λ_=>ae
inductive eQ (W:Wt) (h0 h:H) (P:Nat):List bm->List V->Prop
 |nil:eQ W h0 h P [] []
 |skip {c:bm} {R:List bm} {as:List V}:Nd c=ae->eQ W h0 h P R as->eQ W h0 h P (c::R) as
 |mv {R:List bm} {as:List V} {s:Int} {k:Kd} {a:ai} {t:Int}:eQ W h0 h P R as->h0 a=Y->h a=U (row s (P+(aH W R).length:Nat) t)->cls k t->eQ W h0 h P (.mv s k::R) (as++[.ref a])
theorem ka{R}:(aH W<|c::R).length=(aH W R).length+(h7 W c).length:=aC
theorem eQ.fr{R}(r:eQ W a h P R as)(k: ∀b s t p,p <P+(aH W R).length->h b=U (row s p t)->h' b=U (row s p t)):eQ W a h' P R as:=by
 induction r with
 |nil=>exact .nil
 |skip e _ ih=>exact .skip e (ih λb s t p l=>k b s t p<|Nat.lt_of_lt_of_le l<|by rw[ka,<-cG];exact cg _ _)
 |mv _ n e c ih=>exact .mv (ih λb s t p l=>k b s t p<|Nat.lt_of_lt_of_le l<|by rw[ka,<-cG];exact cg _ _) n (k _ _ _ _ (by rw[ka,<-cG];exact Rd<|Nat.succ_pos _) e) c
theorem W8{s j p h t a}(e:U (row s p t)=U (row j h a)):s=j/\p=h/\t=a:=by
 injection e with q;injection q with q;injection q with q1 q;injection q with q2 q;injection q with q3;injection q1 with q1;injection q2 with q2;injection q3 with q3
 exact⟨q1,q2,q3⟩
theorem eQ.bar{R}(r:eQ W l h P R as)(f:Fr h h' [b])(e:h b=U (row s p t))(e':h' b=U (row s p j))(c: ∀k,cls k t->cls k j):eQ W l h' P R as:=by
 induction r with
 |nil=>exact .nil
 |skip i _ ih=>exact .skip i ih
 | @mv _ _ _ _ a _ _ n w k ih=>
  by_cases z:a=b
  ·subst z
   have q:=W8 (e.symm.trans w)
   exact .mv ih n (q.1▸q.2.1▸e') (c _<|q.2.2▸k)
  ·exact .mv ih n (f _ _ w λm=>z<|List.mem_singleton.mp m) k
theorem eQ.mem{R}(r:eQ W a h P R as): ∀v∈as,∃b s p t k,v= .ref b/\h b=U (row s p t)/\cls k t/\a b=Y:=by
 induction r with
 |nil=>exact λ_ m=>dz m
 |skip _ _ ih=>exact ih
 |mv _ n e c ih=>exact λv m=>(pB.mp m).elim (ih v) λm=>⟨_,_,_,_,_,b9.mp m,e,c,n⟩
abbrev uI(ar:ai):List<|Nat×SV:=[(34,aL 143),(35,.ref 1 ar)]
abbrev qf(ac ar o a:ai)(rl os:List V)(s p t:Int):G:=[(ac,.aK 6<|uI ar),(ar,.list rl),(o,.list os),(a,.ls [.int s .no,.int p<|.b 0 5000,aL t])]
noncomputable abbrev vr(ac o:ai)(z a:Int)(x4 x5 x6 x7:Option V):SL:=[U<|.ref 0 ac,U<|.ref 2 o,U<|.int z .no,U<|.int a<|.b 0 2,x4.map .op,x5.map .op,x6.map .op,x7.map .op]
noncomputable def sv(a:Bool):Int:=cond a 2 1
theorem Fr.cu{h h'}{b}{A}(f:Fr h h'<|b::A)(e:h' b=h b):Fr h h' A:=λc y m n=>by
 by_cases q:c=b
 ·rw[q] at m⊢;exact e.trans m
 ·exact f c y m λm=>(bB.mp m).elim q n
theorem FZ{g:G}{x}{k}{a}{o}(e:x=U (.ref a))(w:ah g k=U (a,o)):x=U (den<|.ref k a)/\aN g (.ref k a):=⟨e,o,w⟩
section
variable{rl os:List V}
theorem NN{g:G}{x4 x5 x6 x7}(e: ∃x,ah g 0=U (h,x))(e': ∃x,ah g 2=U (o,x))(s0:0<=a/\a<=2):a8 g<|vr h o z a x4 x5 x6 x7:=aT e (aT e'<|aT tI<|i8 s0.1 s0.2<|bJ<|bJ<|bJ<|bJ bk)
structure rr(h:H)(ac ar o a:ai)(rl os:List V)(s p sn i t:Int):Prop where
 f:Fa h (qf ac ar o a rl os s p t) (qf ac ar o a rl os s p t)
 s0:0<=sn/\sn<=2
 i0:0<=i/\i<=100
 e:ah rl i.toNat=U (.ref a)
theorem rr.fr{h'}{t y}{l}(T:rr h j u o a rl os s p z i t)(D:Hd h [j,u,o,a] (qf j u o a rl l s p y) h'):Fr h h' [o,a]:=
 Fr.cu (Fr.cu D.f<|(D.am 0 j _ rfl).trans (T.f.am (k:=0) rfl).1.symm) ((D.am 1 u _ rfl).trans (T.f.am (k:=1) rfl).1.symm)
abbrev Mx(d:Nat)(h:H)(Q:Fl->L->H->Prop)(ac o:ai)(z a i:Int)(x4 x5 x6 x7:Option V):Prop:=cn (al I d) (Tg.x 4) wg (.int i) (aq<|vr ac o z a x4 x5 x6 x7) h Q
abbrev vZ(h:H)(Q:Fl->L->H->Prop)(ac o:ai)(z a i:Int):Prop:= ∀x5 x6 x7 h',H.le h h'->Q .next (aq<|vr ac o z a (U<|.int i) (U x5) (U x6)<|U x7) h'
theorem rr.nx{t}(T:rr h l u o a rl os s p y i t){j}(k:vZ h Q l o z j i){h'}(D:Hd h [l,u,o,a] (qf l u o a rl os s p t) h'):Q .next (aq<|vr l o z j (U<|.int i) (U<|.int s) (U<|.int p)<|U<|.int t) h':=k _ _ _ h' (Hd.fR T.f rfl D)
abbrev K59(h:H)(Q:Fl->L->H->Prop)(o a:ai)(os:List V)(s p z e b i:Int):Prop:= ∀c h' ρ,s=z-> ¬e=sv c->h' o=U (.list<|d_ os p.toNat<|.int<|b+dl c)->h' a=U (row s p<|tv c)->Fr h h' [o,a]->Q (.ret<|.int i) ρ h'
set_option smartUnfolding false in
theorem aq7{t}(T:rr h j u o a rl os s p l i t)(c:cls .p t)(hb:ah os p.toNat=U (.int b))(hp:(0<=p/\p <(os.length:Int))/\a_ os.length)(kc:K59 h Q o a os s p z l b i)(kn:vZ h Q j o z l i):Mx d h Q j o z l i x4 x5 x6 x7:=by
 have D:=Hd.of T.f
 have f:=NN (z:=z) (x4:=x4) (x5:=x5) (x6:=x6) (x7:=x7) (g:=qf j u o a rl os s p t) ⟨_,rfl⟩ ⟨_,rfl⟩ T.s0
 have p1: ∀{g y},ah g 3=U (a,y)->ah rl i.toNat=U (den<|.ref 3 a)/\aN g (.ref 3 a):=FZ T.e
 have p2: ∀{g},ah os p.toNat=U (den<|.int b .no)/\aN g (.int b .no):=sq hb
 have k4:=λe n ρ h' D=>kc ae h' ρ e n (D.am 2 o _ rfl) (D.am 3 a _ rfl) (T.fr D)
 have q:=λe n ρ h' D=>kc aa h' ρ e n (D.am 2 o _ rfl) (D.am 3 a _ rfl) (T.fr D)
 rcases c with rfl|rfl|rfl|rfl
 ·exact dy (n:=0) (v:= .int i<|.b 0 100) [] [.v<|.ref 3 a,.v<|.int b .no,.v<|.ref 3 a] D f T.i0 (.c (p1 rfl)<|.b (.b (.c (λ_ _=>p2)<|.c (λ_ _=>hp)<|.c (λ_ _=>p1 rfl)<|.d λe n h' D _=>k4 e n _ h' D)<|.b (.c (λ_ _ _=>p2)<|.c (λ_ _ _=>hp)<|.c (λ_ _ _=>p1 rfl)<|.d λe _ n h' D _=>q e n _ h' D)<|.d λ_ _ _ h' D _=>T.nx kn D)<|.d λ_ h' D _=>T.nx kn D)
 ·exact dy (n:=0) (v:= .int i<|.b 0 100) [] [.v<|.ref 3 a,.v<|.int b .no,.v<|.ref 3 a] D f T.i0 (.c (p1 rfl)<|.b (.b (.c (λ_ _=>p2)<|.c (λ_ _=>hp)<|.c (λ_ _=>p1 rfl)<|.d λe n h' D _=>k4 e n _ h' D)<|.d λ_ _ h' D _=>T.nx kn D)<|.d λ_ h' D _=>T.nx kn D)
 ·exact dy (n:=0) (v:= .int i<|.b 0 100) [] [.v<|.ref 3 a,.v<|.int b .no,.v<|.ref 3 a] D f T.i0 (.c (p1 rfl)<|.b (.b (.c (λ_ _=>p2)<|.c (λ_ _=>hp)<|.c (λ_ _=>p1 rfl)<|.d λe n h' D _=>q e n _ h' D)<|.d λ_ _ h' D _=>T.nx kn D)<|.d λ_ h' D _=>T.nx kn D)
 ·exact dy (n:=0) (v:= .int i<|.b 0 100) [] [.v<|.ref 3 a] D f T.i0 (.c (p1 rfl)<|.c (λ_ h' D _=>T.nx kn D)<|.d λ_ h' D _=>T.nx kn D)
abbrev OT(h:H)(Q:Fl->L->H->Prop)(x:Int):Prop:= ∀ρ h',H.le h h'->Q (.ret<|.int x) ρ h'
set_option smartUnfolding false in
theorem W7{j}(T:rr h t u o a rl os s p l i<|tv j)(q:s=z-> ¬l=sv j->OT h Q i)(c:OT h Q (-1))(kn:s=z-> ¬¬l=sv j->vZ h Q t o z l i)(f: ¬s=z-> ¬l=sv (!j)->vZ h Q t o z (sv j) i):Mx d h Q t o z l i x4 x5 x6 x7:=by
 have D:=Hd.of T.f
 have b:=NN (z:=z) (x4:=x4) (x5:=x5) (x6:=x6) (x7:=x7) (g:=qf t u o a rl os s p<|tv j) ⟨_,rfl⟩ ⟨_,rfl⟩ T.s0
 cases j
 ·exact dy (n:=0) (v:= .int i<|.b 0 100) [] [.v<|.ref 3 a] D b T.i0 (.c (FZ T.e rfl)<|.b (.c (λe n h' D _=>q e n _ h'<|Hd.fR T.f rfl D)<|.d λe n h' D _=>T.nx (kn e n) D)<|.c (λ_ _ h' D _=>c _ h'<|Hd.fR T.f rfl D)<|.d λe n h' D _=>T.nx (f e n) D)
 ·exact dy (n:=0) (v:= .int i<|.b 0 100) [] [.v<|.ref 3 a] D b T.i0 (.c (FZ T.e rfl)<|.b (.c (λe n h' D _=>q e n _ h'<|Hd.fR T.f rfl D)<|.d λe n h' D _=>T.nx (kn e n) D)<|.c (λ_ _ h' D _=>c _ h'<|Hd.fR T.f rfl D)<|.d λe n h' D _=>T.nx (f e n) D)
end
structure Ax(W:Wt)(h0 h:H)(ac ar o:ai)(pre:List Int)(R:List bm)(rl:List V):Prop where
 ha:h ac=U (.aK 6<|bZ<|uI ar)
 hr:h ar=U (.list rl)
 ho:h o=U (.list<|vi<|pre++aH W R)
 rw:eQ W h0 h pre.length R rl
 p4:4<=pre.length
 ol:(pre++aH W R).length<=3000
 ll:rl.length<=60
 gd:fC R
theorem bO{h:H}(e:h a=U x)(e':h b=U y)(n:x=y->False):a≠b:=λq=>by rw[q,e'] at e;exact n (bM e).symm
theorem Cz(h:4<=l.length)(e:O.list (vi l)=row s p t):False:=by
 injection e with e
 have e:=aA aS2 e
 rw[cU] at e
 exact absurd (ak h<|jC e) (dd: ¬4<=3)
theorem X0(n:p≠a)(e:row s p t=row j a h):False:=by
 injection e with e;injection e with _ e;injection e with e;injection e with e;exact n e
theorem Ax.C7{R}(A:Ax W y h u z o a R j)(e:O.list j=O.list (.int i::l)):False:=by
 injection e with e
 have m:=A.rw.mem (.int i) (e▸ .head _)
 obtain⟨b,s,p,t,k,e,_⟩:=m
 cases e
theorem Ax.pT{R}(A:Ax W l h j p o a R t):4<=(a++aH W R).length:=by rw[aC];exact ak A.p4 (cg _ _)
theorem Ax.tO{R}(A:Ax W t h p j o a R u):j≠o:=bO A.hr A.ho λe=>by
 have q:=A.pT
 cases z:a++aH W R with
 |nil=>rw[z] at q;cases q
 |cons i l=>rw[z] at e;exact A.C7 e
theorem Ax.fa{R}(A:Ax W z h l u o j R y)(e:h a=U (row s p t))(p0:0<=p)(p1:p<=5000):Fa h (qf l u o a y (vi<|j++aH W R) s p t)<|qf l u o a y (vi<|j++aH W R) s p t:=
 Fa.is A.ha (b8 (bO A.ha A.hr nofun)<|b8 (bO A.ha A.ho nofun)<|b8 (bO A.ha e nofun) bj) (dN<|ki rfl dX) (Fa.ls A.hr (b8 A.tO<|b8 (bO A.hr e A.C7) bj)<|Fa.ls A.ho (b8 (bO A.ho e<|Cz A.pT) bj)<|Fa.ss e bj (bL tI<|cD p0 p1<|bU aY) Fa.nl)
structure zm(W:Wt)(h0 h h':H)(o a:ai)(pre:List Int)(R R1:List bm)(rl:List V)(z:Int)(i:Int)(tx:Bool)(p:Nat):Prop where
 rw:eQ W h0 h' pre.length R1 rl
 ho:h' o=U (.list<|vi<|pre++aH W R1)
 gd:fC R1
 er:R1.map er=R.map er
 rg:dM tx R1=z
 ea:ah rl i.toNat=U (.ref a)
 ha:h' a=U (row z p<|tv tx)
 fr:Fr h h' [o,a]
 ln:(aH W R1).length=(aH W R).length
 na:h0 a=Y
 p1:p<=3000
 i0:0<=i/\i<=100
def Sn(a:Int)(S:List bm):Prop:= ∀t,¬a=sv t-> ∀c∈S,¬rA t c
theorem Sn.nx{S}(h:Sn a S)(k: ∀t,¬a=sv t-> ¬rA t c):Sn a<|S++[c]:=λt n x m=>(pB.mp m).elim (h t n x) λm=>b9.mp m▸k t n
theorem ac5:Nd c=ae-> ¬rA t c:=bm.casesOn c (λ_ _=>nofun) (λ_ _=>id) (λ_ _=>id) (λ_ _=>id) λ_ _=>id
theorem Wn{α:Type}{A B}{x:α}:A.length <(A++x::B).length:=by rw[aC];exact Rd (sS _)
theorem aJ0(h: ¬sv a=sv t):t= !a:=by cases t <;>cases a <;>first|rfl|exact absurd rfl h
section
def F59(W:Wt)(h0 h:H)(P:Nat)(R:List bm)(as:List V)(S:List bm)(rl:List V):Prop:= ∀h' X,(aH W X).length=(aH W R).length->(∀b s t (p:Nat),P+(aH W R).length<=p->h b=U (row s p t)->h' b=U (row s p t))->eQ W h0 h' P X as->eQ W h0 h' P (S++X) rl
noncomputable def Zv(d n:Nat)(P:Fl->L->H->Prop):Fl->L->H->Prop:=λf ρ h'=>match f with|.next=> ∃a,H.le a h'/\dg (cn (al I d) (Tg.x 4) wg) bP (eh ((n:Int) -1) (-1) n) ρ a P|.cont=> ∃a,H.le a h'/\dg (cn (al I d) (Tg.x 4) wg) bP (eh ((n:Int) -1) (-1) n) ρ a P|.brk=>P .next ρ h'|.ret v=>P (.ret v) ρ h'
theorem Xf(A:Ax W h0 h ac ar o j D Q)(k1: ∀h' ρ i u a p R1,zm W h0 h h' o a j D R1 Q z i u p->P (.ret<|.int i) ρ h')(k0: ∀h' ρ,H.le h h'->P (.ret<|.int (-1)) ρ h')(kn: ∀ρ,P .next ρ h){R}(r:eQ W h0 h j.length R as): ∀S rest g x4 x5 x6 x7,D=S++R->Q=as++rest->Sn g S->0<=g/\g<=2->j.length+(aH W R).length<=3000->
  F59 W h0 h j.length R as S Q->
  dg (cn (al I d) (Tg.x 4) wg) bP (eh ((as.length:Int) -1) (-1) as.length) (aq<|vr ac o z g x4 x5 x6 x7) h P:=by
 induction r with
 |nil=>exact λ_ _ _ _ _ _ _ _ _ _ _ _ _=>⟨tI,kn _⟩
 | @skip c R as ic r ih=>
  intro S rest g x4 x5 x6 x7 e el hs hn hl F
  have l:j.length+(aH W R).length<=j.length+(aH W<|c::R).length:=by rw[ka,<-cG];exact cg _ _
  exact ih (S++[c]) rest g x4 x5 x6 x7 (by rw[aX];exact e) el (hs.nx λt _=>ac5 ic) hn (ak l hl) λh' X lx fr rX=>by
   rw[aX]
   exact F h' (c::X) (by rw[ka,ka,lx]) (λb s t p q=>fr b s t p<|Nat.le_trans l q) (.skip ic rX)
 | @mv R as s k a t r n w c ih=>
  intro S rest g x4 x5 x6 x7 e el hs hn hl F
  have l1:j.length+(aH W R).length <j.length+(aH W<|.mv s k::R).length:=by rw[ka,<-cG];exact Rd (sS _)
  have p3:=ak (uU l1) hl
  rw[show(as++[V.ref a]).length=as.length+1 from aC,show((as.length+1:Nat):Int) -1=as.length from mn as.length 1]
  have ih:=λg x4 x5 x6 x7 hs hn=>ih (S++[.mv s k]) ([.ref a]++rest) g x4 x5 x6 x7 (by rw[aX];exact e) (by rw[<-aX];exact el) hs hn p3 λh' X lx fr rX=>by
   rw[aX]
   exact F h' (.mv s k::X) (by rw[ka,ka,lx]) (λb s t p q=>fr b s t p<|Nat.le_trans (uU l1) q) (.mv rX n (by rw[lx];exact fr a s t _ (dO _) w) c)
  have ea:ah Q as.length=U (.ref a):=by rw[el,aX];exact qw _ _ as
  have i1:=bS.mpr (ak (by have:=A.ll;rw[el,aC,aC,cG] at this;exact ak (cg _ _) this) (dd:60<=100))
  have T:rr h ac ar o a Q (vi<|j++aH W D) s (j.length+(aH W R).length:Nat) g as.length t:=⟨A.fa w (du _)<|Int.le_trans (bS.mpr p3) dd,hn,⟨du _,i1⟩,ea⟩
  have nx: ∀f,Sn f (S++[.mv s k])->0<=f/\f<=2->vZ h (Zv d as.length P) ac o z f as.length:=λf N Z x5 x6 x7 h' l=>⟨h,l,ih f _ _ _ _ N Z⟩
  refine⟨tI,?_⟩
  cases k with
  |p=>
   have eo:ah (vi<|j++aH W D) (j.length+(aH W R).length)=U (.int<|143+bF s+0 -1):=by
    rw[e,yX,<-aC,eC,<-cU];exact qw _ _ _
   have lo:j.length+(aH W R).length <(vi<|j++aH W D).length:=by rw[e,yX,cU,<-aC];exact Wn
   refine aq7 T c eo ⟨⟨du _,mm.mpr lo⟩,cZ<|by rw[cU];exact ak A.ol dd⟩ (λu h' ρ es ns eo K fr=>k1 h' ρ as.length u a (j.length+(aH W R).length) (S++ .mv s (.r u ae)::R) ?_) (nx g (hs.nx λ_ _=>id) hn)
   have cv:=conv (e▸A.gd) (hs u ns)
   have fz: ∀b s' y (p),p≠j.length+(aH W R).length->h b=U (row s' p y)->h' b=U (row s' p y):=λb s' y p np w'=>fr b _ w' λm=>(bB.mp m).elim (bO w' A.ho λe=>Cz A.pT e.symm) λm=>bO w' w (X0 λq=>np<|Int.ofNat.inj q) (b9.mp m)
   have gR:=e▸A.gd
   subst es
   exact⟨F h' _ OO (λb s' y p q=>fz b s' y p<|Nat.ne_of_gt<|Nat.lt_of_lt_of_le l1 q)<|.mv (r.fr λb s' y p q=>fz b s' y p<|Nat.ne_of_lt q) n K rfl,by rw[eo,show((j.length+(aH W R).length:Nat):Int).toNat=j.length+(aH W R).length from rfl,Jn,e,aK4],cv.1,by rw[e,qW,qW];rfl,DN cv.1<|hs u ns,ea,K,fr,by rw[e,yK,yK,aC,aC,OO],n,p3,T.i0⟩
  |r u ag=>
   have tv_:=c
   subst tv_
   refine W7 T (λes ns ρ h' l=>k1 h' ρ as.length u a (j.length+(aH W R).length) D ?_) (λρ h' l=>k0 h' ρ l) (λ_ ns=>nx g (hs.nx λt n i=>ns λ_=>n<|i▸ ‹_›) hn) λ_ ns=>nx (sv u) ?_ (by cases u <;>decide)
   ·subst es
    exact⟨A.rw.fr λb _ _ _ _ e=>l b _ e,l _ _ A.ho,A.gd,rfl,(e▸DN (e▸A.gd) (hs u ns)),ea,l _ _ w,λb _ e _=>l b _ e,rfl,n,p3,T.i0⟩
   ·exact λt n c m=>(pB.mp m).elim (λm=>hs t (aJ0 n▸ns) c m) λm i=>by
     rw[b9.mp m] at i
     exact n (aA sv i)
end
theorem al0{R}(A:Ax W y h t D o j R u)(e: ∀h' i b a p R1,zm W y h h' o a j R R1 u z i b p->Q (.int i) h')(c: ∀h',H.le h h'->Q (.int (-1)) h'):al I (d+1) 59 [.ref t,.ref o,.int z] h Q:=by
 refine e_ (fn:=B6) rfl rfl (j1<|oa rfl<|bz<|iE<|Bs (ak A.ll dd) (λk=>eJ<|ay<|cJ<|ap rfl<|.eN A.ha rfl<|bh<|.wy A.hr (ak A.ll dd) k) ?_)
 exact Xf (rest:=[]) A (λh' ρ i b a p R1 H1=>⟨h',H.le_refl _,e h' i b a p R1 H1⟩) (λh' ρ l=>⟨h',H.le_refl _,c h' l⟩) (λρ=>bz<|mH<|v1<|bl<|.sG ⟨h,H.le_refl _,c h<|H.le_refl _⟩) A.rw [] 0 Y Y Y Y rfl (c8 _).symm (λ_ _ _ m=>dz m) dd (by have:=A.ol;rw[aC] at this;exact this) λh' X _ _ r=>r
def kF(y:O):Prop:= ∃s p t,y=row s p t
structure Fx(h0 h h':H)(X:List ai):Prop where
 le: ∀b y,h0 b=U y->h b=U y->h' b=U y
 fx: ∀b y,h b=U y->b∉X->h' b=U y\/(kF y/\ ∃y',h' b=U y'/\kF y')
theorem Fx.tr(f:Fx a h j X)(g:Fx a j l X):Fx a h l X:=
 ⟨λb y e e'=>g.le b y e<|f.le b y e e',λb y e n=>(f.fx b y e n).elim (λe=>g.fx b y e n) λw=> .inr ⟨w.1,w.2.elim λc w=>(g.fx b c w.1 n).elim (λe=>⟨c,e,w.2⟩) λw=>w.2⟩⟩
theorem Fx.of(f:Fr h h' A)(k: ∀a∈A,j a=Y/\(a∈X\/ ∃y c,h a=U y/\kF y/\h' a=U c/\kF c)):Fx j h h' X where
 le b y e e':=by
  by_cases m:b∈A
  ·rw[(k b m).1] at e;cases e
  ·exact f b y e' m
 fx b y e n:=by
  by_cases m:b∈A
  ·exact(k b m).2.elim (λm=>absurd m n) λw=>w.elim λz w=>w.elim λg w=> .inr ⟨bM (w.1.symm.trans e)▸w.2.1,g,w.2.2⟩
  ·exact .inl (f b y e m)
theorem wC:kF<|row s p t:=⟨s,p,t,rfl⟩
theorem Kp u(h:t=0)(c:cls k t):cls k<|cond u 1 2:=match k,c with
 |.p,_=>by cases u;exact .inr (.inr<|.inl rfl);exact .inr (.inl rfl)
 |.r tx _,c=>by cases tx <;>cases(c) <;>cases h
theorem K6(h:t=1\/t=2)(c:cls k t):cls k 3:=match k,c with
 |.p,_=> .inr (.inr<|.inr rfl)
 |.r tx _,c=>by cases tx <;>cases(c) <;>exact h.elim nofun nofun
section
variable{d:Nat}{b:ai}{s p t:Int}{h:H}{R:Fl->L->H->Prop}
abbrev uk(ac o:ai)(z i t:Int)(x:Option V):SL:=[U<|.op<|.ref ac,U<|.op<|.ref o,U<|.int z .no,U<|.int i .no,U<|aL t,x.map .op]
theorem PL:a8 g<|uk a o z i t x:=aB (aB<|aT tI<|aT tI<|gx<|bJ bk)
set_option smartUnfolding false in
theorem ZZ(e:h b=U (row s p t))(k: ∀f h',(∀k,cls k t->cls k f)->h' b=U (row s p f)->Fr h h' [b]->R .next (aq<|uk j o z i (tv a)<|U<|.ref b) h'):cn (al I<|d+1) (Tg.x 5) C1 (.ref b) (aq<|uk j o z i (tv a) x) h R:=by
 have D:=Hd.of (g:=[(b,.ls [.int s .no,.int p .no,.int t .no])]) (Fa.ss e bj (bL tI<|bL tI<|bL tI aY) Fa.nl)
 cases a
 ·exact dy [] [] D PL (v:= .ref 0 b) ⟨_,rfl⟩ (.c (λc h' D _=>k 2 h' (λk=>Kp ae c) (D.am 0 b _ rfl) D.f)<|.c (λ_ c h' D _=>k 3 h' (λk=>K6<|.inl c) (D.am 0 b _ rfl) D.f)<|.d λ_ _ h' D _=>k t h' (λk=>id) (D.am 0 b _ rfl) D.f)
 ·exact dy [] [] D PL (v:= .ref 0 b) ⟨_,rfl⟩ (.c (λc h' D _=>k 1 h' (λk=>Kp aa c) (D.am 0 b _ rfl) D.f)<|.c (λ_ c h' D _=>k 3 h' (λk=>K6<|.inr c) (D.am 0 b _ rfl) D.f)<|.d λ_ _ h' D _=>k t h' (λk=>id) (D.am 0 b _ rfl) D.f)
theorem Nb: ∀vs x h,(∀v∈vs,v∈j)->eQ W l h P A j->(∀x h',eQ W l h' P A j->Fx l h h' X->R .next (aq<|uk y o z i (tv u) x) h')->
  dg (cn (al I<|d+1) (Tg.x 5) C1) bP vs (aq<|uk y o z i (tv u) x) h R
 |[],x,h,_,r,k=>⟨tI,k x h r ⟨λ_ _ _ e=>e,λ_ _ e _=> .inl e⟩⟩
 |v::vs,x,h,m,r,k=>⟨tI,(r.mem v<|m v<|.head _).elim λb w=>w.elim λs w=>w.elim λp w=>w.elim λt w=>w.elim λ_ w=>by
   rw[w.1]
   exact ZZ w.2.1 λq h' c e f=>⟨h',H.le_refl _,Nb vs _ h' (λv g=>m v<|.tail _ g) (r.bar f w.2.1 e c) λx h2 r2 f2=>k x h2 r2<|(Fx.of f λa m=>b9.mp m▸⟨w.2.2.2,.inr ⟨_,_,w.2.1,wC,e,wC⟩⟩).tr f2⟩⟩
end
theorem Fx.kp(f:Fx a h h' X)(e:h b=U y)(n:b∉X)(k:kF y->False):h' b=U y:=(f.fx b y e n).elim id λw=>(k w.1).elim
theorem pp: ∀{l:List α} {i:Nat},ah l i=U x->x∈l
 |_::_,0,e=>by cases e;exact .head _
 |_::l,i+1,e=> .tail _ (pp e)
theorem hJ{a b:ai}(h:a≠b):a∉[b]:=λm=>h (b9.mp m)
section
variable{h0 h h':H}{R R1:List bm}
theorem Ax.nr(A:Ax W h0 h l u o a R j):kF (.list j)->False:=λw=>w.elim λs w=>w.elim λp w=>w.elim λt w=>A.C7 w
theorem Ax.no(A:Ax W h0 h j l o a R u):kF (.list<|vi<|a++aH W R)->False:=λw=>w.elim λs w=>w.elim λp w=>w.elim λt w=>Cz A.pT w
theorem Ax.mv(A:Ax W h0 h l p o a R j)(f:Fx h0 h h' [o])(ho:h' o=U (.list<|vi<|a++aH W R1))(r:eQ W h0 h' a.length R1 j)(g:fC R1)(ln:(aH W R1).length=(aH W R).length):Ax W h0 h' l p o a R1 j:=
 ⟨f.kp A.ha (hJ<|bO A.ha A.ho nofun) λw=>w.elim λ_ w=>w.elim λ_ w=>w.elim nofun,f.kp A.hr (hJ A.tO) A.nr,ho,r,A.p4,by rw[aC,ln,<-aC];exact A.ol,A.ll,g⟩
theorem zm.fx(A:Ax W h0 h y D o j R l)(T:zm W h0 h h' o a j R R1 l z i u p)(n0:h0 o=Y):Fx h0 h h' [o]:=
 (A.rw.mem _<|pp T.ea).elim λc w=>w.elim λs w=>w.elim λf w=>w.elim λt w=>w.elim λk w=>Fx.of T.fr λb m=>(bB.mp m).elim (λe=>by rw[e];exact⟨n0,.inl<|.head _⟩) λm=>by
  rw[b9.mp m]
  exact⟨T.na,.inr ⟨_,_,(aA h (show a=c by injection w.1)).trans w.2.1,wC,T.ha,wC⟩⟩
abbrev MN(ac ar o:ai)(rl os:List V):G:=[(ac,.aK 6<|uI ar),(ar,.list rl),(o,.list os)]
theorem Ax.fb(A:Ax W h0 h j l o a R p):Fa h (MN j l o p<|vi<|a++aH W R)<|MN j l o p<|vi<|a++aH W R:=
 Fa.is A.ha (b8 (bO A.ha A.hr nofun)<|b8 (bO A.ha A.ho nofun) bj) (dN<|ki rfl dX) (Fa.ls A.hr (b8 A.tO bj)<|Fa.ls A.ho bj Fa.nl)
theorem Ax.push{le:H.le h0 h}(A:Ax W h0 h D l o j R u)(na:h a=Y)(n0:h0 l=Y/\h0 o=Y)(e0:h' D=U (.aK 6<|bZ<|uI l))(e1:h' l=U (.list<|u++[.ref a]))(e2:h' o=U (.list<|vi<|j++aH W (.mv z k::R)))(e3:h' a=U (row z (vi<|j++aH W R).length t))(c:cls k t)
  (f: ∀b y,h b=U y->b≠l->b≠o->h' b=U y) (ol:(j++aH W R).length<=2900) (ll:u.length<=50) (gd:fC<|.mv z k::R) (lo:(h7 W<|.mv z k).length<=5):Ax W h0 h' D l o j (.mv z k::R) (u++[.ref a])/\Fx h0 h h' [l,o]:=
 have nr: ∀{b s p t},h b=U (row s p t)->h' b=U (row s p t):=λe=>f _ _ e (bO e A.hr λe=>A.nr ⟨_,_,_,e.symm⟩) (bO e A.ho λe=>A.no ⟨_,_,_,e.symm⟩)
 have g:=by
  cases q:h0 a with
  |none=>rfl
  |some y=>exact bQ <|na.symm.trans (le a y q)
 ⟨⟨e0,e1,e2,.mv (A.rw.fr λb s t p _=>nr) g (e3.trans<|by rw[cU,aC]) c,A.p4,by rw[pn,<-aX,aC];exact ak (gM ol lo) dd,by rw[aC];exact ak (cK ll 1) dd,gd⟩,
  ⟨λb y e e'=>f b y e' (λq=>by rw[q,n0.1] at e;cases e) (λq=>by rw[q,n0.2] at e;cases e),λb y e n=> .inl<|f b y e (λq=>n<|q▸ .head _) λq=>n<|q▸ .tail _ (.head _)⟩⟩
end
theorem TR{W}{a}{R}{z}:vi (a++aH W R)++[V.int<|143+bF z -1]++vi (aO z<|bF z)=vi (a++aH W (.mv z .p::R)):=by
 rw[pn,<-aX,eC<|a++aH W R,aX]
 show _++(V.int (143+(bF z) -1)::vi (aO z<|bF z))=_++(V.int (143+(bF z)+0 -1)::vi (aO z<|bF z))
 rw[eZ]
theorem aq6{W}{a}{R}{z}{h}:vi (a++aH W R)++[V.int<|143+(dl h -1)]=vi (a++aH W (.mv z (.r h aa)::R)):=by
 rw[pn,<-aX,eC<|a++aH W R]
 cases h <;>rfl
def sy(W:Wt)(h0 h:H)(ac ar o:ai)(pre:List Int)(R:List bm)(rl:List V)(z:Int)(Q:V->H->Prop):Prop:= ∀h' R' rl',Ax W h0 h' ac ar o pre R' rl'->Fx h0 h h' [ar,o]->R'.map er= .mv z .p::R.map er->rl'.length=rl.length+1->(aH W R').length<=(aH W R).length+5->Q .none h'
section
variable{R:List bm}
theorem Pd{g}{a}{x}{h'}(D:Hd h [l,p,o] g h')(e:ah g 3=U (a,x))(lx:x.lv){j x1 x2}(e0:ah g 0=U (l,j))(e1:ah g 1=U (p,x1))(e2:ah g 2=U (o,x2))(l0:j.lv)(l1:x1.lv)(l2:x2.lv):h a=Y:=
 D.im e λm=>(bB.mp m).elim (D.ne e e0 lx l0 dd) λm=>(bB.mp m).elim (D.ne e e1 lx l1 dd) λm=>D.ne e e2 lx l2 dd (b9.mp m)
theorem JM{g}{h'}(A:Ax W t h a j o l R p)(D:Hd h [a,j,o] g h')(e:ah g 0=U (a,.aK 6<|uI j)): ∀b y,h b=U y->b≠j->b≠o->h' b=U y:=λb y w n1 n2=>
 Fr.cu D.f ((D.am 0 a _ e).trans A.ha.symm) b y w λm=>(bB.mp m).elim n1 λm=>n2 (b9.mp m)
theorem HA{z}:(h7 W<|.mv z .p).length<=5:=by
 show(aO z<|bF z).length+1<=5
 rw[cH];exact cf (k6 z).2
set_option smartUnfolding false in
theorem ao1(A:Ax W l h p t o j R u)(le:H.le l h)(n0:l t=Y/\l o=Y)(ol:(j++aH W R).length<=2900)(ll:u.length<=50)(b: -2147483648<=z/\z <2147483648)(k:sy W l h p t o j R u z Q):
  aZ I (al I<|d+2) Bm (aq [U<|.ref 0 p,U<|.ref 2 o,U<|.int z .no,U<|aL (-1),Y,Y]) h<|ie Q:=
 have lo:=by rw[cU];exact ak ol dd
 gF [51] [.d (.op .none) [(2,.list<|vi<|j++aH W (.mv z .p::R))]] (Hd.of A.fb) (bG rfl<|bG rfl<|aT tI<|gx<|aD<|aD bk)
  (.c (cZ<|ak lo dd) (.c (λa=>cZ<|ak (cf ll) dd) (.c (λa=>⟨tI,λh Q D k=>P5 (D.am 2 o _ rfl) lo λh' e f=>k h'<|D.go f<|dj rfl tI (e.trans<|by rw[TR]) tI d8⟩)
   (.d λa h' D _=>⟨h',H.le_refl _,have P:=A.push (le:=le) (Pd D rfl tI rfl rfl rfl tI tI tI) n0 (D.am 0 p _ rfl) (D.am 1 t _ rfl) (D.am 2 o _ rfl) (D.am 3 a _ rfl) (.inl rfl) (JM A D rfl) ol ll ⟨b,tI,A.gd⟩ HA
    k h' _ _ P.1 P.2 rfl aC<|by rw[ka];exact eG HA _⟩))))
set_option smartUnfolding false in
theorem TQ{p}{i}{x}(A:Ax W u h l t o j R y)(le:H.le u h)(n0:u t=Y/\u o=Y)(ol:(j++aH W R).length<=2900)(ll:y.length<=50)(b: -2147483648<=z/\z <2147483648)(rg:dM p R=z)(k:sy W u h l t o j R y z Q):
  aZ I (al I<|d+2) Qs (aq<|uk l o z i (tv p) x) h<|ie Q:=by
 have lo:(vi<|j++aH W R).length<=7000:=by rw[cU];exact ak ol dd
 have l1:=cZ (ak lo dd)
 have l2:=cZ (ak (cf ll) dd)
 have l3:=cZ (ak (cf lo) dd)
 have kl:=(dd:1<=5)
 have gI: ∀a h',Hd h [l,t,o] [(l,.aK 6<|uI t),(t,.list<|y++[.ref a]),(o,.list<|vi (j++aH W R)++[V.int<|143+(dl p -1)]),(a,.list [.int z,.int (vi<|j++aH W R).length,.int<|tv p])] h'->ie Q .next [] h':=λa h' D=>⟨h',H.le_refl _,have P:=A.push (le:=le) (Pd D rfl tI rfl rfl rfl tI tI tI) n0 (D.am 0 l _ rfl) (D.am 1 t _ rfl) ((D.am 2 o _ rfl).trans<|by rw[aq6]) (D.am 3 a _ rfl) (k:= .r p aa) rfl (JM A D rfl) ol ll ⟨b,rg,A.gd⟩ kl
    k h' _ _ P.1 P.2 rfl aC<|by rw[ka];exact eG kl _⟩
 cases p
 ·exact gF (ρ:=[U<|.ref 0 l,U<|.ref 2 o,U<|.int z .no,U<|.int i .no,U<|aL 4,x.map .op]) [] [] (Hd.of A.fb) (bG rfl<|bG rfl<|aT tI<|aT tI<|gx<|bJ bk) (.c l1<|.c (λ_=>l2)<|.c (λ_=>l3)<|.d λa h' D _=>gI a h' D)
 ·exact gF (ρ:=[U<|.ref 0 l,U<|.ref 2 o,U<|.int z .no,U<|.int i .no,U<|aL 5,x.map .op]) [] [] (Hd.of A.fb) (bG rfl<|bG rfl<|aT tI<|aT tI<|gx<|bJ bk) (.c l1<|.c (λ_=>l2)<|.c (λ_=>l3)<|.d λa h' D _=>gI a h' D)
theorem sy.mv{p}{j}(f:Fx t h p [u,o])(e:j.map er=R.map er)(l:(aH W j).length=(aH W R).length)(k:sy W t h y u o a R D z Q):sy W t p y u o a j D z Q:=λh' R' rl' A F e1 e2 e3=>k h' R' rl' A (f.tr F) (e1.trans<|aA _ e) e2 (l▸e3)
theorem Fx.sub{X Yqv}{j}(f:Fx l h j X)(s: ∀a∈X,a∈Yqv):Fx l h j Yqv:=⟨f.le,λb y e n=>f.fx b y e λm=>n<|s b m⟩
theorem Fx.qy{a}{X}(le:H.le j h)(f:Fx j h a X):H.le j a:=λb y e=>f.le b y e (le b y e)
theorem Fx.AB{a}{X}(l:H.le h a):Fx j h a X:=⟨λb y _ e=>l b y e,λb y e _=> .inl<|l b y e⟩
theorem al7{α}{x}{l:List α}{a b}(m:x∈cu l a b):x∈l:=aS3 (aS4 m)
theorem W9{a}:a∉([]:List ai):=λm=>dz m
theorem aB9{i}{u}{a}{p:Nat}(A:Ax W l h y D o j R t)(le:H.le l h)(n0:l D=Y/\l o=Y)(ol:(j++aH W R).length<=2900)(ll:t.length<=50)(c: -2147483648<=z/\z <2147483648)(rg:dM u R=z)(i0:0<=i/\i<=100)(ea:ah t i.toNat=U (.ref a))(ha:h a=U (row z p<|tv u))(k:sy W l h y D o j R t z Q):
  aZ I (al I<|d+2) Bm [U<|.ref y,U<|.ref o,U<|.int z,U<|.int i,Y,Y] h<|ie Q:=
 have b:=az i0.2 dd
 iM (iS (ap rfl (bl (.OB (gk (fF.mpr i0.1) (f_ (j1 (iC (iC (cJ (ap rfl (.eN A.ha rfl (ap rfl (.o_ A.hr i0.1 b ea (bl (.o_ ha dd dd rfl
  (bz (iE (YG (qn (cJ (ap rfl (.eN A.ha rfl (eE (ap rfl (bl (.jb (bl (.K4 A.hr (cZ<|ak ll dd) (GH i0.1 dd) (.fJ (Nb (X:=[]) _ Y h (λv m=>al7 m) A.rw λx h2 r2 f2=>
   have f3:=f2.sub λ_ m=>dz m
   TQ (A.mv f3 (f2.kp A.ho W9 A.no) r2 A.gd rfl) (f2.qy le) n0 ol ll c rg<|k.mv (f2.sub λ_ m=>dz m) rfl rfl)))))))))))))))))))))))))))))))
theorem ak4(A:Ax W t h u D o j R y)(le:H.le t h)(n0:t D=Y/\t o=Y)(ol:(j++aH W R).length<=2900)(ll:y.length<=50)(c: -2147483648<=z/\z <2147483648)(k:sy W t h u D o j R y z Q):al I (d+3) 58 [.ref u,.ref o,.int z] h Q:=
 e_ (fn:=Ow) rfl rfl (j1 (gv (ap rfl (.jn A.ha rfl rfl (ay (ap rfl (ay (ap rfl (al0 A (λh1 i g a p R1 T=>
  have f1:=T.fx A n0.2
  have f:=A.mv f1 T.ho T.rw T.gd T.ln
  have f2:=f1.sub λa m=> .tail _ m
  aB9 f (f1.qy le) n0 (by rw[aC,T.ln,<-aC];exact ol) ll c T.rg T.i0 T.ea T.ha<|k.mv f2 T.er T.ln) λh1 l=>
  have f1:=Fx.AB l
  ao1 (A.mv f1 (l _ _ A.ho) (A.rw.fr λb _ _ _ _ e=>l b _ e) A.gd rfl) (f1.qy le) n0 ol ll c<|k.mv (Fx.AB l) rfl rfl)))))))))
end
structure Ad where
 pg:ai
 o:ai
 fd:ai
 ac:ai
 dn:ai
 ar:ai
 dr:ai
def Ad.l(x:Ad):List ai:=[x.pg,x.o,x.fd,x.ac,x.dn,x.ar,x.dr]
abbrev wm(x:Ad)(so a:SV)(hh vv fn:Int):List<|Nat×SV:=[(36,so),(37,a),(24,aL 2),(38,.int hh .no),(39,.int vv .no),(16,.int fn .no),(40,.op<|.ref x.ac),(41,.op<|.ref x.dn),(42,aL 0)]
abbrev nW(x:Ad)(hh vv fn:Int):List<|Nat×SV:=wm x (.op<|.ref x.o) (.op<|.ref x.fd) hh vv fn
theorem zG(a:aN g j)(b:aN g h):h9 g<|wm x j h l o fn:=c5 a (c5 b<|dN<|c5 tI<|c5 tI<|c5 tI<|dH<|dH<|dN dX)
abbrev dnO(x:Ad):List<|Nat×SV:=[(34,aL 157),(35,.op<|.ref x.dr)]
def kI(h:H)(rd:List V):Prop:=rd=[]\/ ∃a y,rd=[.ref a]/\h a=U y/\kF y
structure Pg(W:Wt)(h0 h:H)(x:Ad)(pre:List Int)(R:List bm)(rl rd:List V)(D:List Int)(hh vv fn:Int):Prop where
 hp:h x.pg=U (.aK 7<|bZ<|nW x hh vv fn)
 hf:h x.fd=U (.dict<|D.map λn=>(n,W.v n))
 A:Ax W h0 h x.ac x.ar x.o pre R rl
 hd:h x.dn=U (.aK 6<|bZ<|dnO x)
 hr:h x.dr=U (.list rd)
 rd:kI h rd
 nd:x.ar≠x.dr
 le:H.le h0 h
 n0: ∀a∈x.l,h0 a=Y
section
variable{W:Wt}{h0 h h':H}{x:Ad}{pre:List Int}{R R':List bm}{rl rl' rd:List V}{D:List Int}{hh vv fn:Int}
theorem kI.nr(r:kI h rd):kF (.list rd)->False:=λw=>w.elim λs w=>w.elim λp w=>w.elim λt w=>by
 injection w with w
 rcases r with e|⟨a,y,e,_⟩ <;>rw[e] at w <;>cases w
theorem kI.no(r:kI h rd){j}(l:4<=j.length)(e:O.list rd= .list (vi j)):False:=by
 injection e with e
 cases j with
 |nil=>cases l
 |cons i j=>rcases r with z|⟨a,y,z,_⟩ <;>rw[z] at e <;>cases e
theorem kI.mv(r:kI h rd)(f:Fx h0 h h' X)(n: ∀b∈X,∀y,h b=U y->kF y->False):kI h' rd:=r.elim .inl λw=> .inr (w.elim λa w=>w.elim λy w=>(f.fx a y w.2.1 λm=>n a m y w.2.1 w.2.2).elim (λe=>⟨a,y,w.1,e,w.2.2⟩) λe=>e.2.elim λc e=>⟨a,c,w.1,e⟩)
theorem yI:kF (.aK c a)->False:=λw=>w.elim λ_ w=>w.elim λ_ w=>w.elim nofun
theorem MW:kF (.dict a)->False:=λw=>w.elim λ_ w=>w.elim λ_ w=>w.elim nofun
theorem kh{a b c:ai}(h:a≠b)(k:a≠c):a∉[b,c]:=λm=>(bB.mp m).elim h λm=>k (b9.mp m)
theorem Pg.mv(P:Pg W h0 h x pre R rl rd D hh vv fn)(f:Fx h0 h h' [x.ar,x.o])(A:Ax W h0 h' x.ac x.ar x.o pre R' rl'):Pg W h0 h' x pre R' rl' rd D hh vv fn where
 hp:=f.kp P.hp (kh (bO P.hp P.A.hr nofun)<|bO P.hp P.A.ho nofun) yI
 hf:=f.kp P.hf (kh (bO P.hf P.A.hr nofun)<|bO P.hf P.A.ho nofun) MW
 A:=A
 hd:=f.kp P.hd (kh (bO P.hd P.A.hr nofun)<|bO P.hd P.A.ho nofun) yI
 hr:=f.kp P.hr (kh (AT P.nd)<|bO P.hr P.A.ho<|P.rd.no P.A.pT) P.rd.nr
 rd:=P.rd.mv f λb m y e i=>(bB.mp m).elim (λq=>P.A.nr<|bM (e.symm.trans<|q▸P.A.hr)▸i) λm=>P.A.no (bM (e.symm.trans<|b9.mp m▸P.A.ho)▸i)
 nd:=P.nd
 le:=f.qy P.le
 n0:=P.n0
theorem Pg.na(P:Pg W h0 h x pre R rl rd D hh vv fn):h0 x.ar=Y/\h0 x.o=Y:=⟨P.n0 _<|.tail _<|.tail _<|.tail _<|.tail _<|.tail _<|.head _,P.n0 _<|.tail _<|.head _⟩
theorem Pg.set(P:Pg W h0 h x pre R rl rd D hh vv fn)(f:Fr h h' [x.pg])(e:h' x.pg=U (.aK 7<|bZ<|nW x a b c)):Pg W h0 h' x pre R rl rd D a b c:=
 have k: ∀{b y},h b=U y->(y= .aK 7 (bZ<|nW x hh vv fn)->False)->h' b=U y:=λe n=>f _ _ e (hJ<|bO e P.hp n)
 have fx:=Fx.of f λa m=>⟨b9.mp m▸P.n0 _ (.head _),.inl m⟩
 have A:=P.A
 ⟨e,k P.hf nofun,⟨k A.ha nofun,k A.hr nofun,k A.ho nofun,A.rw.fr λb _ _ _ _ e=>k e nofun,A.p4,A.ol,A.ll,A.gd⟩,k P.hd nofun,k P.hr nofun,P.rd.mv fx λb m y e i=>yI<|bM (e.symm.trans<|b9.mp m▸P.hp)▸i,P.nd,fx.qy P.le,P.n0⟩
end
def cR(a:Int):Prop:= -1073741823<=a/\a<=1073741823
theorem P1(x:cR a)(y:cR b): -2147483648<=a -b/\a -b <2147483648:=⟨az dd<|xi x.1 y.2,g7 (xi x.2 y.1) dd⟩
theorem M_(x:cR a)(k:Q (.int a) h):al I (d+1) 55 [.int a] h Q:=
 e_ (fn:=ID) rfl rfl (iM<|iS<|eJ<|ay<|ap rfl<|.LX<|oa rfl<|.qE<|gk (λc=>absurd c<|fF.mpr<|by have:=x.1;have:=x.2;lia)<|f_<|bz<|mH<|ap rfl ⟨h,H.le_refl h,k⟩)
noncomputable def An(a b:Int)(E:List bm):List bm:=if a=b then E else .mv (a -b) .p::E
noncomputable def ql(a b:Int)(E:List bm):List bm:=if a=b then E else .dn (a -b)::E
section
variable{R:List bm}{rl rd:List V}
theorem Pg.fa(P:Pg W o h x l R rl rd D j a fn):Hd h [x.pg] [(x.pg,.aK 7<|nW x j a fn)] h:=Hd.of (g:=[(x.pg,.aK 7<|nW x j a fn)]) (Fa.is P.hp bj (zG tI tI) Fa.nl)
set_option smartUnfolding false in
theorem aF2{S:Fl->L->H->Prop}(P:Pg W o h x j R rl rd D p l fn)(k: ∀ρ h',Pg W o h' x j R rl rd D a l fn->S .next ρ h'):aZ I (al I d) Nt [U<|.ref x.pg,U<|.int a] h S:=
 gF (n:=0) (ρ:=[U<|.ref 0 x.pg,U<|.int a .no]) [] [] P.fa (bG rfl<|aT tI bk) (.d λh' D _=>k _ h'<|P.set D.f<|D.am 0 x.pg _ rfl)
set_option smartUnfolding false in
theorem Uz{S:Fl->L->H->Prop}(P:Pg W l h x j R rl rd D o p fn)(k: ∀ρ h',Pg W l h' x j R rl rd D o a fn->S .next ρ h'):aZ I (al I d) OX [U<|.ref x.pg,U<|.int a] h S:=
 gF (n:=0) (ρ:=[U<|.ref 0 x.pg,U<|.int a .no]) [] [] P.fa (bG rfl<|aT tI bk) (.d λh' D _=>k _ h'<|P.set D.f<|D.am 0 x.pg _ rfl)
theorem T1(P:Pg W p h x j R rl rd D l o fn)(ha:cR a)(hc:cR l)(ol:(j++aH W R).length<=2900)(ll:rl.length<=50)
  (k: ∀h' R' rl',Pg W p h' x j R' rl' rd D a o fn->R'.map er=An a l (R.map er)->rl'.length<=rl.length+1->(aH W R').length<=(aH W R).length+5->Q .none h'):al I (d+4) 64 [.ref x.pg,.int a] h Q:=
 e_ (fn:=KQ) rfl rfl (bz (ip (eI (ay (ap rfl (M_ ha (iM (iS (ap rfl (cJ (ap rfl (.eN P.hp rfl (.Am ⟨λn=>bz (ip (gv (cJ (ap rfl (.eN P.hp rfl (.jn P.A.ha rfl rfl (ay (cJ (ap rfl (.eN P.hp rfl (ay (eE (ap rfl (cJ (ap rfl (.eN P.hp rfl (.wZ (ak4 P.A P.le P.na ol ll (P1 ha hc) λh2 R' rl' b F e l1 l2=>
  aF2 (P.mv F b) λρ h3 P3=>⟨h3,H.le_refl _,k h3 R' rl' P3 (e.trans (aE n).symm) (jC l1) l2⟩)))))))))))))))))),
  λn=>have e:=GI.mp n
   f_ ⟨h,H.le_refl h,k h R rl (e▸P) (aM e).symm (jj _)<|cg _ _⟩⟩)))))))))))))
end
section
variable{Q:V->H->Prop}
theorem av2(e:h j=U (.aK 6 l))(e1:bc l 35=U (.ref a))(e2:h a=U (.list []))(k:Q (.int (-1)) h):al I (d+1) 59 [.ref j,v,z] h Q:=
 e_ (fn:=B6) rfl rfl (j1<|oa rfl<|bz<|iE<|Bs dd (λk=>eJ<|ay<|cJ<|ap rfl<|.eN e e1<|bh<|.wy e2 (j3 _) k) ⟨tI,bz<|mH<|v1<|bl<|.sG ⟨h,H.le_refl h,k⟩⟩)
variable{h0 h':H}{R:List bm}
abbrev Pl(x:Ad)(a b:SO):G:=[(x.dn,.aK 6 [(34,aL 157),(35,.ref 1 x.dr)]),(x.dr,a),(x.o,b)]
theorem N4:(h7 W<|.dn z).length<=5:=by
 show(aO z<|bF z).length+1<=5
 rw[cH];exact cf (k6 z).2
theorem Pg.down(P:Pg W h0 h x j R o [] D u l fn)(f: ∀b y,h b=U y->b≠x.dr->b≠x.o->h' b=U y)(e1:h' x.dr=U (.list [.ref a]))(e2:h' x.o=U (.list<|vi<|j++aH W (.dn z::R)))(e3:h' a=U (row z p t))(ol:(j++aH W R).length<=2900)(c: -2147483648<=z/\z <2147483648):Pg W h0 h' x j (.dn z::R) o [.ref a] D u l fn:=
 have A:=P.A
 have k: ∀{b y},h b=U y->(y= .list []->False)->(y= .list (vi<|j++aH W R)->False)->h' b=U y:=λe n m=>f _ _ e (bO e P.hr n) (bO e A.ho m)
 have n1:=P.n0 x.dr (.tail _<|.tail _<|.tail _<|.tail _<|.tail _<|.tail _<|.head _)
 ⟨k P.hp nofun nofun,k P.hf nofun nofun,⟨k A.ha nofun nofun,f _ _ A.hr P.nd A.tO,e2,.skip rfl<|A.rw.fr λb s t p _ e=>k e nofun λe=>A.no ⟨_,_,_,e.symm⟩,A.p4,by rw[pn,<-aX,aC];exact ak (gM ol N4) dd,A.ll,⟨c,A.gd⟩⟩,k P.hd nofun nofun,e1,.inr ⟨a,_,rfl,e3,wC⟩,P.nd,
  λb y e=>f b y (P.le b y e) (λq=>by rw[q,n1] at e;cases e) (λq=>by rw[q,P.na.2] at e;cases e),P.n0⟩
set_option smartUnfolding false in
theorem VV(P:Pg W h0 h x j R o [] D p l fn)(ol:(j++aH W R).length<=2900)(c: -2147483648<=z/\z <2147483648)(k: ∀h' a,Pg W h0 h' x j (.dn z::R) o [.ref a] D p l fn->Q .none h'):al I (d+3) 58 [.ref x.dn,.ref x.o,.int z] h Q:=by
 have lo:(vi<|j++aH W R).length<=7000:=by rw[cU];exact ak ol dd
 have f:Fa h (Pl x (.ls [])<|.list<|vi<|j++aH W R)<|Pl x (.ls [])<|.list<|vi<|j++aH W R:=Fa.is P.hd (b8 (bO P.hd P.hr nofun)<|b8 (bO P.hd P.A.ho nofun) bj) (dN<|ki rfl dX) (Fa.ss P.hr (b8 (bO P.hr P.A.ho<|P.rd.no P.A.pT) bj) aY<|Fa.ls P.A.ho bj Fa.nl)
 refine b_ (vs:=[.ref 0 x.dn,.ref 2 x.o,.int z .no]) [51,59] [.d (aL (-1)) [],.d (.op .none) [(2,.list<|vi<|j++aH W (.dn z::R))]] (Hd.of f) (h_ rfl<|h_ rfl<|bL tI aY)
  (.c ⟨o7 _,λh Q D k=>av2 (D.am 0 x.dn _ rfl) rfl (D.am 1 x.dr _ rfl)<|k h D⟩ (.c (cZ<|ak lo dd) (.c (λa=>(dd:1<=1000000)) (.c (λa=>⟨tI,λh Q D k=>P5 (D.am 2 x.o _ rfl) lo λh' e f=>k h'<|D.go f<|dj rfl tI (e.trans ?_) tI d8⟩)
   (.d λa h' D=>k h' a<|P.down (λb y w n1 n2=>Fr.cu D.f ((D.am 0 x.dn _ rfl).trans P.hd.symm) b y w<|kh n1 n2) (D.am 1 x.dr _ rfl) (D.am 2 x.o _ rfl) (D.am 3 a _ rfl) ol c)))))
 rw[pn,<-aX,eC<|j++aH W R,aX];rfl
theorem ah4(P:Pg W h0 h x j R o rd D p l fn)(ha:cR a)(hc:cR l)(ol:(j++aH W R).length<=2900)(rk:rd=[]\/a=l)
  (k: ∀h' c,Pg W h0 h' x j (ql a l R) o c D p a fn->Q .none h'):al I (d+4) 65 [.ref x.pg,.int a] h Q:=by
 have z:a=l->Pg W h0 h x j (ql a l R) o rd D p a fn:=λe=>by unfold ql;rw[aM e,e];exact P
 refine e_ (fn:=PE) rfl rfl (bz<|ip<|eI<|ay<|ap rfl<|M_ ha<|iM<|iS<|ap rfl<|cJ<|ap rfl<|.eN P.hp rfl<|.Am ⟨λn=> ?_,λn=>f_ ⟨h,H.le_refl h,k h _<|z<|GI.mp n⟩⟩)
 exact rk.elim (λe=>by
  subst e
  exact(bz (ip (gv (cJ (ap rfl (.eN P.hp rfl (.jn P.hd rfl rfl (ay (cJ (ap rfl (.eN P.hp rfl (ay (eE (ap rfl (cJ (ap rfl (.eN P.hp rfl (.wZ (VV (d:=d) P ol (P1 ha hc) λh2 b f=>
   Uz f λρ h3 P3=>⟨h3,H.le_refl _,k h3 _ (show Pg W h0 h3 x j (if a=l then R else .dn (a -l)::R) o _ D p a fn by rw[aE n];exact P3)⟩)))))))))))))))))))) λe=>absurd e n
end
noncomputable def qd(n:Int)(D:List Int)(R:List bm):List bm:=if n∈D then R else .fd n::R
noncomputable def ku(n:Int)(D:List Int):List Int:=if n∈D then D else D++[n]
noncomputable def qq(n fn:Int)(R:List bm):List bm:=if n=fn then R else .fn n::R
section
variable{W:Wt}{R R':List bm}{rl rd:List V}
theorem CP c:vi (a++aH W R)++vi (h7 W c)=vi (a++aH W (c::R)):=by rw[pn,<-aX,eC<|a++aH W R]
theorem Gc{c}(l:(a++aH W R).length<=m)(e:(h7 W c).length=k):(a++aH W (c::R)).length<=m+k:=by rw[pn,<-aX,aC,e];exact cK l k
theorem Pg.up(P:Pg W o h x j R rl rd D Q u fn)(f:Fr h h' [x.pg,x.o,x.fd])(e0:h' x.pg=U (.aK 7<|bZ<|nW x a b c))(e1:h' x.o=U (.list<|vi<|j++aH W R'))(e2:h' x.fd=U (.dict<|z.map λn=>(n,W.v n)))(s: ∀{h},eQ W o h j.length R rl->eQ W o h j.length R' rl)(g:fC R')(ol:(j++aH W R').length<=3000):Pg W o h' x j R' rl rd z a b c:=
 have A:=P.A
 have k: ∀{b y},h b=U y->(y= .aK 7 (bZ<|nW x Q u fn)->False)->(y= .list (vi<|j++aH W R)->False)->(y= .dict (D.map λn=>(n,W.v n))->False)->h' b=U y:=λe n m l=>f _ _ e λq=>(bB.mp q).elim (bO e P.hp n) (kh (bO e A.ho m)<|bO e P.hf l)
 have fx:=Fx.of f λa m=>⟨(bB.mp m).elim (λe=>e▸P.n0 _ (.head _)) λm=>(bB.mp m).elim (λe=>e▸P.na.2) λm=>b9.mp m▸P.n0 _ (.tail _<|.tail _<|.head _),.inl m⟩
 ⟨e0,e2,⟨k A.ha nofun nofun nofun,f _ _ A.hr λq=>(bB.mp q).elim (bO A.hr P.hp nofun)<|kh A.tO<|bO A.hr P.hf nofun,e1,s<|A.rw.fr λb s t p _ e=>k e nofun (λe=>A.no ⟨_,_,_,e.symm⟩) nofun,A.p4,ol,A.ll,g⟩,k P.hd nofun nofun nofun,f _ _ P.hr λq=>(bB.mp q).elim (bO P.hr P.hp nofun)<|kh (bO P.hr A.ho<|P.rd.no A.pT)<|bO P.hr P.hf nofun,
  P.rd.mv fx λb m y e i=>(bB.mp m).elim (λq=>yI<|bM (e.symm.trans<|q▸P.hp)▸i) λm=>(bB.mp m).elim (λq=>A.no<|bM (e.symm.trans<|q▸A.ho)▸i) λm=>MW<|bM (e.symm.trans<|b9.mp m▸P.hf)▸i,P.nd,fx.qy P.le,P.n0⟩
abbrev gP(x:Ad)(hh vv fn:Int)(os:List V)(ds:List<|Int×V):G:=[(x.pg,.aK 7<|wm x (.ref 1 x.o) (.ref 2 x.fd) hh vv fn),(x.o,.list os),(x.fd,.dict ds)]
theorem Pg.fp(P:Pg W o h x a R rl rd D l j fn):Fa h (gP x l j fn (vi<|a++aH W R)<|D.map λn=>(n,W.v n))<|gP x l j fn (vi<|a++aH W R)<|D.map λn=>(n,W.v n):=
 Fa.is P.hp (b8 (bO P.hp P.A.ho nofun)<|b8 (bO P.hp P.hf nofun) bj) (zG ⟨_,rfl⟩ ⟨_,rfl⟩) (Fa.ls P.A.ho (b8 (bO P.A.ho P.hf nofun) bj)<|Fa.di P.hf bj Fa.nl)
theorem Dz: ∀{D:List Int} {m:Int},(m∈D->bu (D.map λn=>(n,W.v n)) m=U (W.v m))/\(m∉D->bu (D.map λn=>(n,W.v n)) m=Y):=λ{D}=>by
 induction D with
 |nil=>exact⟨nofun,λ_=>rfl⟩
 |cons n D ih=>
  intro m
  show(m∈n::D->(if n=m then U (W.v n) else _)=_)/\(m∉n::D->(if n=m then U (W.v n) else _)=_)
  by_cases e:n=m
  ·rw[aM e,e];exact⟨λ_=>rfl,λh=>absurd (.head _) h⟩
  ·rw[aE e];exact⟨λh=>ih.1<|(bB.mp h).elim (λq=>absurd q.symm e) id,λh=>ih.2 λm=>h<|.tail _ m⟩
theorem IU: ∀{D:List Int},n∉D->eX (D.map λn=>(n,W.v n)) n (W.v n)=(D++[n]).map λn=>(n,W.v n):=λ{D}=>by
 induction D with
 |nil=>exact λ_=>rfl
 |cons m D ih=>
  intro h
  show(if m=n then _ else(m,W.v m)::eX (D.map λn=>(n,W.v n)) n (W.v n))=_
  rw[aE λe:m=n=>h<|e▸ .head _,ih λm=>h<|.tail _ m];rfl
end
theorem Sy{v:V}(e:o=Y):o.getD v=v:=by rw[e];rfl
section
variable{R R':List bm}
theorem OZ:(h7 W<|.fd n).length=18:=rfl
abbrev CH(W:Wt)(n:Int):SV:= .op (W.v n)
abbrev wc(W:Wt)(h0:H)(x:Ad)(pre:List Int)(R:List bm)(rl rd:List V)(D:List Int)(hh vv fn n:Int)(Q:V->H->Prop):Prop:= ∀h',Pg W h0 h' x pre (qq n fn<|qd n D R) rl rd (ku n D) hh vv n->Q .none h'
theorem Iz(o:(a++aH W R).length<=2950)(P:Pg W l h x a R' j rd u t p fn)(f:Fr h h' [x.pg,x.o,x.fd])(e0:h' x.pg=U (.aK 7<|bZ<|nW x t p n))(e1:h' x.o=U (.list<|vi (a++aH W R)++[V.int<|171+n]))(e2:h' x.fd=U (.dict<|D.map λn=>(n,W.v n)))(s: ∀{h},eQ W l h a.length R' j->eQ W l h a.length R j)(g:fC R):Pg W l h' x a (.fn n::R) j rd D t p n:=
 P.up f e0 (e1.trans<|by rw[<-CP];rfl) e2 (λr=> .skip rfl<|s r) g (ak (Gc (k:=1) o rfl) dd)
set_option smartUnfolding false in
theorem aM3(P:Pg W o h x a R l rd D p j fn)(b:n <64)(ol:(a++aH W R).length<=2900)(m:n∈D)(k:wc W o x a R l rd D p j fn n Q):al I (d+4) 66 [.ref x.pg,W.v n] h Q:=by
 unfold wc qd ku qq at k
 rw[aM m,aM m] at k
 refine b_ (vs:=[.ref 0 x.pg,CH W n]) [54] [.v<|CH W n] (Hd.of P.fp) (h_ rfl<|bD aY) (.c ⟨sr<|Dz.1 m,tI⟩<|.c (λc=>c rfl)<|.b (.b (.c (λ_ _ _=>cZ<|by rw[cU];exact ak (cf ol) dd)<|.d λ_ c _ h' D=> ?_)<|.d λ_ _ c=>(c b))<|.d λ_ c h' D=> ?_)
 ·have c: ¬n=fn:=c
  rw[aE c] at k
  exact k h' (Iz (ak ol dd) P D.f (D.am 0 x.pg _ rfl) (D.am 1 x.o _ rfl) (D.am 2 x.fd _ rfl) id P.A.gd)
 ·have e:n=fn:=GI.mp c
  rw[aM e] at k
  exact k h' (P.up D.f ((D.am 0 x.pg _ rfl).trans<|by rw[e];rfl) (D.am 1 x.o _ rfl) (D.am 2 x.fd _ rfl) id P.A.gd P.A.ol)
set_option smartUnfolding false in
theorem Tz(P:Pg W p h x a R o rd D t j fn)(b:n <64)(ol:(a++aH W R).length<=2900)(dl:D.length<=100)(n0:n.toNat<=100)(m:n∉D)(k:wc W p x a R o rd D t j fn n Q):al I (d+4) 66 [.ref x.pg,W.v n] h Q:=by
 have lo:(vi<|a++aH W R).length<=5000:=by rw[cU];exact ak ol dd
 have o1:=Gc (c:= .fd n) ol OZ
 unfold wc qd ku qq at k
 rw[aE m,aE m] at k
 refine b_ (vs:=[.ref 0 x.pg,CH W n]) [54] [.v<|.op .none,.d (.op .none) [(1,.list<|vi<|a++aH W (.fd n::R))],.n] (Hd.of P.fp) (h_ rfl<|bD aY) (.c ⟨Sy<|Dz.2 m,tI⟩<|.c ⟨tI,λh Q D k=> ?_⟩<|.c (cZ<|by rw[bN];exact ak dl dd)<|.b (.b (.c (λ_ _=>cZ<|by rw[cU];exact ak (cf o1) dd)<|.d λc _ h' D=> ?_)<|.d λ_ c=>(c b))<|.d λc h' D=> ?_)
 ·exact I0 (az (eR b) dd) (az (bS.mpr<|eG n0 96) dd) (D.am 1 x.o _ rfl) lo λh' e f=>k h' (D.go f<|dj rfl tI (e.trans<|by rw[<-CP];rfl) tI d8)
 ·have c: ¬n=fn:=c
  rw[aE c] at k
  exact k h' (Iz (ak o1 dd) P D.f (D.am 0 x.pg _ rfl) (D.am 1 x.o _ rfl) ((D.am 2 x.fd _ rfl).trans<|aA (λl=>U<|O.dict l)<|IU m) (λr=> .skip rfl r) P.A.gd)
 ·have e:n=fn:=GI.mp c
  rw[aM e] at k
  exact k h' (P.up D.f ((D.am 0 x.pg _ rfl).trans<|by rw[e];rfl) (D.am 1 x.o _ rfl) ((D.am 2 x.fd _ rfl).trans<|aA (λl=>U<|O.dict l)<|IU m) (λr=> .skip rfl r) P.A.gd<|ak o1 dd)
end
def Dn(n c a b hh vv fn:Int)(D:List Int)(E:List bm):List bm:= .ch c::qq n fn (qd n D<|ql b vv<|An a hh E)
theorem CF{p}{i:Decidable p}{R}{c}:(if p then R else c::R).map er=if p then R.map er else er c::R.map er:=by split <;>rfl
theorem Y2{n fn}{R}:(qq n fn R).map er=qq n fn (R.map er):=CF
theorem X3{n}{D}{R}:(qd n D R).map er=qd n D (R.map er):=CF
theorem aL0{a b}{R}:(ql a b R).map er=ql a b (R.map er):=CF
theorem Cq{W}{p}{i:Decidable p}{R}{c}{k}(h:(h7 W c).length<=k):(aH W (if p then R else c::R)).length<=(aH W R).length+k:=by
 split
 ·exact cg _ _
 ·rw[ka];exact eG h _
theorem vy{a}{W}{R j}{m k}(l:(a++aH W R).length<=m)(h:(aH W j).length<=(aH W R).length+k):(a++aH W j).length<=m+k:=by
 rw[aC] at l⊢
 exact ak (eG h _) (by rw[<-cG];exact cK l k)
theorem PG{i}(x:cR i): ¬1073741823 <(i.natAbs:Int):=λc=>absurd c (fF.mpr<|by have:=x.1;have:=x.2;lia)
section
variable{W:Wt}{x:Ad}{R R':List bm}{rl rd:List V}{Q:V->H->Prop}
theorem aF8(P:Pg W l h x a R rl rd D o j fn)(b:n <64)(ol:(a++aH W R).length<=2900)(dl:D.length<=100)(n0:n.toNat<=100)(k:wc W l x a R rl rd D o j fn n Q):al I (d+4) 66 [.ref x.pg,W.v n] h Q:=
 if m:n∈D then aM3 P b ol m k else Tz P b ol dl n0 m k
abbrev H9(x:Ad)(hh vv fn:Int)(os:List V):G:=[(x.pg,.aK 7<|wm x (.ref 1 x.o) (.op<|.ref x.fd) hh vv fn),(x.o,.list os)]
set_option smartUnfolding false in
theorem XS{T:Fl->L->H->Prop}(p:(W.f n).dB c)(k: ∀h',H.le h h'->T .next [U<|.ref x.pg,U<|W.v n,U<|.int c,U<|.int a,U<|.int b] h'):ex I (al I<|d+4) (.ite (.nt<|.me (.x 1) 15<|.cons (.x 2) .nil) NQ .nil) [U<|.ref x.pg,U<|W.v n,U<|.int c,U<|.int a,U<|.int b] h T:=
 gy (ρ:=[U<|.op<|.ref x.pg,U<|.op<|W.v n,U<|.int c .no,U<|.int a .no,U<|.int b .no]) [] [.t] (Hd.of Fa.nl) (aB<|aB<|aT tI<|aT tI<|aT tI bk) (.c (Gl p)<|.d λh' D _=>k h'<|a7 D.f)
set_option smartUnfolding false in
theorem V9{w}(P:Pg W u h x j R rl rd D t o fn)(ok:(W.f n).ok)(p:(W.f n).dB c)(ew:iV (W.f n) c=w)(dw:cR<|a+w.1)(ol:(j++aH W R).length<=2940)
  (k: ∀h',Pg W u h' x j (.ch c::R) rl rd D (a+w.1) o fn->Q .none h'):aZ I (al I<|d+4) NK [U<|.ref x.pg,U<|W.v n,U<|.int c,U<|.int a,U<|.int b] h<|ie Q:=by
 refine v4 p λy l e g _=> ?_
 cases ew.symm.trans g
 have f:Fa h (H9 x t o fn<|vi<|j++aH W R)<|H9 x t o fn<|vi<|j++aH W R:=Fa.is P.hp (b8 (bO P.hp P.A.ho nofun) bj) (zG ⟨_,rfl⟩ tI) (Fa.ls P.A.ho bj Fa.nl)
 exact gF (ρ:=[U<|.ref 0 x.pg,U<|.op<|W.v n,U<|.int c<|.b 65 68,U<|.int a .no,U<|.int b .no]) [] [.v<|gH (W.f n).sz y l,.f] (Hd.of f) (bG rfl<|aB<|i8 p.1 (k8 ok p)<|aT tI<|aT tI bk)
  (.c (cZ<|by rw[cU];exact ak (cf ol) dd)<|.c (mY e)<|.c (PG dw)<|.d λh' D _=>⟨h',H.le_refl _,k h'<|P.up (λb y w m=>D.f b y w λq=>m<|(bB.mp q).elim (λe=>e▸ .head _) λq=>b9.mp q▸ .tail _ (.head _)) (D.am 0 x.pg _ rfl) ((D.am 1 x.o _ rfl).trans<|by rw[<-CP];rfl) (D.f _ _ P.hf<|kh (bO P.hf P.hp nofun)<|bO P.hf P.A.ho nofun) (λr=> .skip rfl r) P.A.gd<|Nat.le_trans (Gc (k:=1) ol rfl) dd⟩)
theorem Ax.aG{j p o}(A:Ax W t h j p o a R rl)(l:H.le h h'):Ax W t h' j p o a R rl:=A.mv (Fx.AB l) (l _ _ A.ho) (A.rw.fr λ_ _ _ _ _ e=>l _ _ e) A.gd rfl
theorem Pg.aG(P:Pg W o h x a R rl rd D p j fn)(l:H.le h h'):Pg W o h' x a R rl rd D p j fn:=P.mv (Fx.AB l) (P.A.aG l)
structure L67(W:Wt)(n c a b hh vv:Int)(w:Int×Int×Int)(D:List Int)(rd:List V)(lo lr:Nat):Prop where
 ok:(W.f n).ok
 p:(W.f n).dB c
 ew:iV (W.f n) c=w
 da:cR a
 db:cR b
 dh:cR hh
 dv:cR vv
 dw:cR (a+w.1)
 n2:n<=2
 dl:D.length<=90
 ol:lo<=2850
 ll:lr<=50
 rk:rd=[]\/b=vv
theorem aj9{w}(P:Pg W t h x j R rl rd D o l fn)(q:L67 W n c a b o l w D rd (j++aH W R).length rl.length)
  (k: ∀h' R' rl' e,Pg W t h' x j R' rl' e (ku n D) (a+w.1) b n->R'.map er=Dn n c a b o l fn D (R.map er)->rl'.length<=rl.length+1->(aH W R').length<=(aH W R).length+30->Q .none h'):al I (d+5) 67 [.ref x.pg,W.v n,.int c,.int a,.int b] h Q:=
 have n2:=uV.mpr q.n2
 e_ (fn:=NF) rfl rfl (bz (XS q.p λh1 l1=>
  have i:=P.aG l1
  bz (ip (gv (ap rfl (.jn i.hp rfl rfl (ay (ap rfl (T1 i q.da q.dh (ak q.ol dd) q.ll λh2 R1 f g e1 m1 m2=>
  have o1:=vy q.ol m2
  bz (ip (gv (ap rfl (.jn g.hp rfl rfl (ay (ap rfl (ah4 g q.db q.dv (ak o1 dd) q.rk λh3 e P3=>
  have m3:=Cq N4
  have o2:=vy o1 m3
  bz (ip (gv (ap rfl (.jn P3.hp rfl rfl (ay (ap rfl (aF8 P3 (g7 q.n2 dd) (ak o2 dd) (ak q.dl dd) (ak n2 dd) λh4 s=>
  have m4:=Cq (jC OZ)
  have m5:=Cq (dO 1)
  V9 s q.ok q.p q.ew q.dw (ak (vy (vy o2 m4) m5) dd) λu p=>k u _ f e p (by rw[kK,Y2,X3,aL0,e1];rfl) m1 (by
   rw[ka]
   exact ak (cK (ak m5<|cK (ak m4<|cK (ak m3<|cK m2 5) 18) 1) 1)<|dO _))))))))))))))))))))))))
end
section
theorem mZ{ρ:L}(hx:ah ρ i=U (U<|.int a))(c:I.gw k=U (.int b))(q:(a=b->T h)/\(¬a=b->F h)):(ao I C (.eW .eq (.x i)<|.g k) ρ).t h T F:=iS (ap hx<|oa c<|.Mr q)
theorem Vw{ρ:L}(hx:ah ρ 7=U (U<|.int 5))(k:T (.ret<|.fl []) ρ h):aZ I (al I d) (.cons (.ite (.or (.eW .eq (.x 7)<|.g 21)<|.eW .eq (.x 7)<|.g 22) O9 Mo) Gu) ρ h T:=
 (iM<|vH<|mZ hx rfl<|gk dd<|mZ hx rfl<|gk dd<|iM<|vH<|mZ hx rfl<|gk dd<|mZ hx rfl<|gk dd<|iM<|mZ hx rfl<|gk dd<|iM<|vH<|mZ hx rfl<|gk dd<|Jq<|mZ hx rfl<|gk dd<|iM<|iS<|ap hx<|oa rfl<|.ZE (l:=[5,6,7,9,10,11,12])<|gk (λq=>q dd)<|f_<|f_<|f_<|f_<|f_<|bz<|mH<|wO<|bh k)
structure kN where
 hh:Int
 vv:Int
 fn:Int
 D:List Int
 E:List bm
noncomputable def iH(bX a:Int)(q:Pp)(s:kN):kN:=match q.p with
 |.kn _=>s
 |.lt c=>⟨a+q.wd,bX,q.f.n,ku q.f.n s.D,Dn q.f.n c a bX s.hh s.vv s.fn s.D s.E⟩
structure kD(W:Wt)(q:Pp):Prop where
 ok:q.ok
 n1:1<=q.f.n
 n2:q.f.n<=2
 f:q.f=W.f q.f.n
 a:q.a=W.a q.f.n
structure jc(W:Wt)(h0 h:H)(x:Ad)(pre:List Int)(bX:Int)(s:kN)(lo lr:Nat):Prop where
 w: ∃R rl rd,Pg W h0 h x pre R rl rd s.D s.hh s.vv s.fn/\R.map er=s.E/\(rd=[]\/bX=s.vv)/\(pre++aH W R).length<=lo/\rl.length<=lr
theorem jc.aG(P:jc W o h x j a s p t)(l:H.le h h'):jc W o h' x j a s p t:=⟨P.w.elim λR w=>w.elim λrl w=>w.elim λrd w=>⟨R,rl,rd,w.1.aG l,w.2⟩⟩
theorem jc.hp(P:jc W l h x j a s o p):h x.pg=U (.aK 7<|bZ<|nW x s.hh s.vv s.fn):=P.w.elim λ_ w=>w.elim λ_ w=>w.elim λ_ w=>w.1.hp
structure vC(bX a:Int)(q:Pp)(s:kN)(lo lr:Nat):Prop where
 da:cR a
 db:cR bX
 dh:cR s.hh
 dv:cR s.vv
 dw:cR (a+q.wd)
 dl:s.D.length<=90
 ol:lo<=2850
 ll:lr<=50
theorem Ph{y z:ai}(P:jc W X h x u j s A D)(o:kD W q)(ep:q.p= .lt c)(l:vC j a q s A D)(e1:bc t 16=U (W.v q.f.n))(e2:bc t 17=U (.int c))(k: ∀h',jc W X h' x u j (iH j a q s) (A+30) (D+1)->Q (.fl []) h'):
  aZ I (al I<|d+5) (.cons (.expr<|.me (.x 0) 19<|.cons (.at (.x 5) 16)<|.cons (.at (.x 5) 17)<|.cons (.x 6)<|.cons (.x 4) .nil) .nil) [U<|.ref x.pg,U bv,U<|.aj [.fz z y t,.int n,.int n2],U<|.int left,U<|.int j,U<|.fz z y t,U<|.int a,U<|.int b,Y,Y,Y,Y,Y] h<|og (al I<|d+5) Gu<|ie Q:=
 P.w.elim λR w=>w.elim λrl w=>w.elim λrd w=>
 have p:nk q.f<|.lt c:=ep▸o.ok.p
 have p:=o.f▸p
 have ew:q.wd=(iV (W.f q.f.n) c).1:=(aA (λp=>(pw q.f p).1) ep).trans (aA (λf=>(iV f c).1) o.f)
 (bz (ip (gv (ap rfl (.jn w.1.hp rfl rfl (ay (cJ (ap rfl (.iA e1 (ay (cJ (ap rfl (.iA e2 (ay (ap rfl (ay (ap rfl (aj9 w.1 ⟨o.f▸o.ok.f,p,rfl,l.da,l.db,l.dh,l.dv,ew▸l.dw,o.n2,l.dl,ak w.2.2.2.1 l.ol,ak w.2.2.2.2 l.ll,w.2.2.1⟩ λh' R' rl' g i e m1 m2=>
  bz (mH (wO (bh ⟨h',H.le_refl _,k h' (by
   unfold iH
   rw[ep,ew]
   exact⟨R',rl',g,i,e.trans (by rw[w.2.1]),.inr rfl,vy w.2.2.2.1 m2,ak m1<|cK w.2.2.2.2 1⟩)⟩)))))))))))))))))))))
end
section
theorem jc.wk(P:jc W o h x j a s p t)(l1:p<=l)(l2:t<=u):jc W o h x j a s l u:=⟨P.w.elim λR w=>w.elim λrl w=>w.elim λrd w=>⟨R,rl,rd,w.1,w.2.1,w.2.2.1,ak w.2.2.2.1 l1,ak w.2.2.2.2 l2⟩⟩
abbrev Qu(W:Wt)(h0:H)(x:Ad)(pre:List Int)(bX a:Int)(q:Pp)(s:kN)(lo b:Nat)(Q:V->H->Prop):Prop:= ∀h',jc W h0 h' x pre bX (iH bX a q s) (lo+30) (b+1)->Q (.fl []) h'
abbrev Jj(x:Ad)(b:V)(row:V)(left bX:Int)(v:V)(a:Int):L:=[U<|.ref x.pg,U b,U row,U<|.int left,U<|.int bX,U v,U<|.int a,Y,Y,Y,Y,Y,Y]
theorem Ti(P:jc W z h x t j s u y)(o:kD W q)(i:fu (q.f.v q.a) v q.p)(l:vC j a q s u y)(k:Qu W z x t j a q s u y Q):aZ I (al I<|d+5) FI (Jj x D (.aj [v,.int n,.int A]) left j v a) h<|ie Q:=
 have ev:=(aA (Fd.v q.f) o.a).trans (aA (λf=>Fd.v f<|W.a q.f.n) o.f)
 fu.casesOn (motive:=λv p _=>q.p=p->aZ I (al I<|d+5) FI (Jj x D (.aj [v,.int n,.int A]) left j v a) h (ie Q)) i
  (λb c ep=>j1<|cJ<|ap rfl<|.yA rfl rfl<|iM<|vH<|mZ rfl rfl<|Fy rfl<|Ph P o ep l (aA U ev) rfl k)
  (λb c ps l1 r1 ep=>j1<|cJ<|ap rfl<|.yA rfl rfl<|iM<|vH<|mZ rfl rfl<|gk dd<|mZ rfl rfl<|Fy rfl<|Ph P o ep l (aA U ev) rfl k)
  (λb w ep=>j1 (cJ (ap rfl (.yA rfl rfl (Vw rfl ⟨h,H.le_refl h,k h (by
   unfold iH
   rw[ep]
   exact P.wk (cg _ _)<|cg _ _)⟩))))) rfl
set_option smartUnfolding false in
theorem Xo(P:jc W u h x j a s p t)(o:kD W q)(i:fu (q.f.v q.a) v q.p)(l:vC a (left+n) q s p t)(k:Qu W u x j a (left+n) q s p t Q):al I (d+6) 69 [.ref x.pg,z,.aj [v,.int n,.int y],.int left,.int a] h Q:=
 e_ (fn:=P8) rfl rfl (bz (gy (ρ:=[U<|.op<|.ref x.pg,U<|.op z,U<|.aj [.op v,.int n .no,.int y .no],U<|.int left .no,U<|.int a .no,Y,Y,Y,Y,Y,Y,Y,Y]) [] [] (Hd.of Fa.nl) (aB<|aB<|aT (d4<|bD<|bL tI<|bL tI aY)<|aT tI<|aT tI<|aD<|aD<|aD<|aD<|aD<|aD<|aD<|aD bk)
  (.d λh' D _=>Ti (P.aG<|a7 D.f) o i l k)))
end
noncomputable def mJ(bX left:Int):Int->List Pp->kN->kN
 |_,[],s=>s
 |n,q::qs,s=>mJ bX left (n+q.wd) qs (iH bX (left+n) q s)
noncomputable def qm(bX left:Int):Int->List Pp->kN->Nat->Nat->Prop
 |_,[],_,_,_=>True
 |n,q::qs,s,lo,lr=>vC bX (left+n) q s lo lr/\qm bX left (n+q.wd) qs (iH bX (left+n) q s) (lo+30) (lr+1)
abbrev Pb(x:Ad)(b:V)(left bX a:Int)(x7 x8:Option V):L:=[U<|.ref x.pg,U b,U<|.int left,U<|.int bX,U<|.int 0,U<|.int a,U<|.bool ae,x7,x8,Y,Y,Y,Y,Y,Y]
section
theorem Zf(i:d7 vs j): ∀n s lo b x7 x8 h,(∀q∈j,kD W q)->qm a left n j s lo b->jc W t h x l a s lo b->
  (∀x7 x8 h',jc W t h' x l a (mJ a left n j s) (lo+30*j.length) (b+j.length)->T .next (Pb x u left a p x7 x8) h')->
  dg (cn (al I<|d+6) (Tg.x 7) Pv) bP (pU n vs j) (Pb x u left a p x7 x8) h T:=by
 induction i with
 |nil=>exact λn s lo b x7 x8 h _ _ P k=>⟨tI,k x7 x8 h P⟩
 | @cons v vs q j i o _ ih=>exact λn s lo b x7 x8 h ok r P k=>⟨tI,(eH (iM (t_x (ap rfl (Ed (j1 (eI (ay (ap rfl (ay (ap rfl (ay (ap rfl (ay (ap rfl (ay (ap rfl (Xo P (ok q<|.head _) i r.1 λh1 e=>
   f_ (bz (iE (jM (ap rfl (.fJ ⟨tI,f_ ⟨h1,H.le_refl _,ih _ _ _ _ _ _ h1 (λq m=>ok q<|.tail _ m) r.2 e λx7 x8 h2 c=>k x7 x8 h2 (by
    have e1:lo+30+30*j.length=lo+30*(q::j).length:=by rw[eT,py,cG,c4 30]
    have e2:b+1+j.length=b+(q::j).length:=by rw[eT,cG,c4 1]
    rw[e1,e2] at c;exact c)⟩⟩)))))))))))))))))))))))⟩
end
theorem W2{g:G}{ρ:SL}(e:ah ρ 0=U (U<|.ref i w))(ei:ah g i=U (w,.aK c p))(l:bc (bZ p) f=U (.ref a))(ej:ah g j=U (a,.list<|W++[den x]))(hW:W.length<=100)(ox:aN g x):
  vW d hb B n (.me (.at (.x 0) f) 1 .nil) ρ g x [(j,.list W)]:=
 ⟨ox,λh Q D k=>gv<|cJ<|ap (re e)<|.eN (D.am i _ _ ei) l<|.pL (D.am j _ _ ej) rfl<|bh<|.E8 (D.am j _ _ ej) (cz hW)<|k _<|D.go (λb o e n=>(H.jZ λq=>n<|by unfold jm;rw[kK];dsimp only;rw[ej,q];exact .head _).trans e)<|dj ej tI (H.kb ..) tI d8⟩
noncomputable abbrev JY(ac ar a:ai)(b:Int)(l:List V)(s p t:Int):G:=[(ac,.aK 6 [(34,.int b .no),(35,.ref 1 ar)]),(ar,.list l),(a,.ls [.int s .no,.int p .no,.int t .no])]
def vp(h:H)(l:List V):Prop:= ∀v∈l,∃a s p t,v= .ref a/\h a=U (row s p t)
theorem OQ(r:vp h l)(e:O.list l=row s p t):False:=by
 injection e with e
 obtain⟨_,_,_,_,q,_⟩:=r (.int s) (e▸ .head _)
 cases q
section
abbrev Xg(d m:Nat)(ρ:L)(h:H)(P:Fl->L->H->Prop):Prop:=iZ (λρ h a F=>(ao I (al I<|d+1) (.an (.eW .gt (.bi .len<|.cons (.at (.x 0) 35) .nil)<|.c<|.int 0)<|.eW .ge (.ix (.ix (.at (.x 0) 35)<|.neg<|.c<|.int 1)<|.c<|.int 1)<|.x 1) ρ).t h a F) (λρ h Q=>aZ I (al I<|d+1) L5 ρ h Q) m ρ h P
noncomputable abbrev L6(ac:ai)(a:Int):SL:=[U<|.ref 0 ac,U<|.int a .no]
theorem Fr.T_(f:Fr h h' [a,b,c])(e:h' a=h a)(e':h' c=h c):Fr h h' [b]:=λx y m n=>by
 by_cases q:x=c
 ·rw[q] at m⊢;exact e'.trans m
 ·exact Fr.cu f e x y m λz=>(bB.mp z).elim (λz=>n<|z▸ .head _) λz=>q (b9.mp z)
set_option smartUnfolding false in
theorem V_: ∀m l h,l.length=m->m<=90->vp h l->h o=U (.aK 6 [(34,.int u),(35,.ref j)])->h j=U (.list l)->(∀h' l',Fr h h' [j]->h' j=U (.list l')->P .next (aq<|L6 o y) h')->Xg d (m+1) (aq<|L6 o y) h P:=λm=>by
 induction m with
 |zero=>
  intro l h e _ _ ea er k
  cases l with
  |cons _ _=>cases e
  |nil=>
   exact fO [] [.n,.f] (Hd.of (g:=[(o,.aK 6 [(34,.int u .no),(35,.ref 1 j)]),(j,.list [])])<|Fa.is ea (b8 (bO ea er nofun) bj) (c5 tI<|ki rfl dX)<|Fa.ls er bj Fa.nl) (bG rfl<|aT tI bk)
    (.c (j3 _)<|.c (dd: ¬(0:Int) <0)<|.d λh' D _=>k h' [] (Fr.cu D.f<|(D.am 0 o _ rfl).trans ea.symm)<|D.am 1 j _ rfl)
 |succ m ih=>
  intro l h e m9 r ea er k
  rcases List.eq_nil_or_concat l with q|⟨l',v,q⟩
  ·rw[q] at e;cases e
  ·rw[List.concat_eq_append] at q
   subst q
   have el:=e
   rw[aC] at e
   have em:l'.length=m:=pC e
   have pos:(0) <((l'++[v]).length:Int):=by rw[el];exact mm.mpr (sS m)
   obtain⟨a,s,p,t,rfl,ew⟩:=r v (GJ _<|.head _)
   have D:=Hd.of (g:=JY o j a u (l'++[.ref a]) s p t) (Fa.is ea (b8 (bO ea er nofun)<|b8 (bO ea ew nofun) bj) (c5 tI<|ki rfl dX)<|Fa.ls er (b8 (bO er ew<|OQ r) bj)<|Fa.ss ew bj (bL tI<|bL tI<|bL tI aY) Fa.nl)
   have f: ∀{h' l2},Hd h [o,j,a] (JY o j a u l2 s p t) h'->Fr h h' [j]:=λD=>Fr.T_ D.f ((D.am 0 o _ rfl).trans ea.symm) ((D.am 2 a _ rfl).trans ew.symm)
   have l9:l'.length<=100:=em▸ak (jj m) (ak m9 dd)
   exact fO [] [.n,.t,.v<|.ref 2 a,.d (.ref 2 a) [(1,.list l')]] D (bG rfl<|aT tI bk)
    (.c (cz<|el▸ak m9 dd)<|.c pos<|.c ⟨⟨_,rfl⟩,_,rfl⟩<|.b (.c (λ_=>W2 rfl rfl rfl rfl l9 ⟨_,rfl⟩)<|.d λ_ h' D _=>⟨h',H.le_refl _,ih l' h' em (lD m9) (λv m=>(r v<|List.mem_append_left _ m).elim λb w=>w.elim λs w=>w.elim λp w=>w.elim λt w=>⟨b,s,p,t,w.1,f D b _ w.2<|hJ<|bO w.2 er λe=>OQ r e.symm⟩) (D.am 0 o _ rfl) (D.am 1 j _ rfl) λh2 l2 f2 e2=>k h2 l2 (Fr.tr (f D) f2) e2⟩)<|.d λ_ h' D _=>k h' _ (f D)<|D.am 1 j _ rfl)
theorem MB{Q:V->H->Prop}(l9:l.length<=90)(r:vp h l)(ea:h j=U (.aK 6 [(34,.int o),(35,.ref a)]))(er:h a=U (.list l))(k: ∀h' l',Fr h h' [a]->h' a=U (.list l')->Q .none h'):al I (d+2) 57 [.ref j,.int p] h Q:=
 e_ (fn:=JE) rfl rfl (bz<|ur<|V_ l.length l h rfl l9 r ea er λh' l' f e=>f_ ⟨h',H.le_refl _,k h' l' f e⟩)
end
section
variable{R:List bm}
structure DK(W:Wt)(h0 h:H)(x:Ad)(pre:List Int)(R:List bm)(D:List Int):Prop where
 hp: ∃hh vv fn,h x.pg=U (.aK 7<|bZ<|nW x hh vv fn)
 ho:h x.o=U (.list<|vi<|pre++aH W R)
 hf:h x.fd=U (.dict<|D.map λn=>(n,W.v n))
 le:H.le h0 h
 gd:fC R
theorem kI.cC(r:kI h rd):vp h rd:=λv m=>r.elim (λe=>dz <|e▸m) λw=>w.elim λa w=>w.elim λy w=>w.2.2.elim λs q=>q.elim λp q=>q.elim λt q=>⟨a,s,p,t,b9.mp<|w.1▸m,q▸w.2.1⟩
theorem eQ.cC(r:eQ W j h P R a):vp h a:=λv m=>(r.mem v m).elim λb w=>w.elim λs w=>w.elim λp w=>w.elim λt w=>w.elim λ_ w=>⟨b,s,p,t,w.1,w.2.1⟩
theorem kI.len(r:kI h rd):rd.length<=90:=r.elim (λe=>e▸j3 _) λw=>w.elim λa w=>w.elim λy w=>w.1▸(dd:1<=90)
theorem aa0(P:Pg W l h x j R p rd D u t fn)(k: ∀h',DK W l h' x j R D->Q .none h'):al I (d+3) 63 [.ref x.pg,.int o,.int 0] h Q:=
 have A:=P.A
 (e_ (fn:=Ok) rfl rfl (bz (ip (gv (cJ (ap rfl (.eN P.hp rfl (.jn A.ha rfl rfl (ay (ap rfl (MB (ak A.ll dd) A.rw.cC A.ha A.hr λh1 l1 f1 e1=>
  have n1: ∀{b y},h b=U y->(y= .list p->False)->h1 b=U y:=λe n=>f1 _ _ e (hJ<|bO e A.hr n)
  have c:=n1 P.hp nofun
  have f:=f1 _ _ P.hr (hJ<|AT P.nd)
  have rd1:kI h1 rd:=P.rd.elim .inl λw=> .inr (w.elim λa w=>w.elim λy w=>⟨a,y,w.1,n1 w.2.1 λe=>A.nr<|e▸w.2.2,w.2.2⟩)
  bz (ip (gv (cJ (ap rfl (.eN c rfl (.jn (n1 P.hd nofun) rfl rfl (ay (ap rfl (MB rd1.len rd1.cC (n1 P.hd nofun) f λh2 l2 f2 e2=>
  have n2: ∀{b y},h1 b=U y->(y= .list rd->False)->h2 b=U y:=λe n=>f2 _ _ e (hJ<|bO e f n)
  have ho:=n2 (f1 _ _ A.ho<|hJ<|AT A.tO) λe=>P.rd.no A.pT e.symm
  have f0:=Fx.of f1 λa m=>⟨b9.mp m▸P.na.1,.inl m⟩
  have f3:=Fx.of f2 λa m=>⟨b9.mp m▸P.n0 _ (.tail _<|.tail _<|.tail _<|.tail _<|.tail _<|.tail _<|.head _),.inl m⟩
  iM<|Jq<|iS<|ap rfl<|bl<|.qE<|gk dd<|iM<|iS<|ap rfl<|bl<|.qE<|gk dd<|f_<|f_<|f_ ⟨h2,H.le_refl _,k h2 ⟨⟨_,_,_,n2 c nofun⟩,ho,n2 (n1 P.hf nofun) nofun,f3.qy<|f0.qy P.le,A.gd⟩⟩))))))))))))))))))))
theorem ap7(P:Pg W l h x a R o rd D p j fn)(k: ∀i,Q (.int i) h):al I (d+1) 62 [.ref x.pg,.int 0] h Q:=
 (e_ (fn:=Iy) rfl rfl<|iM<|iS<|ap rfl<|cJ<|ap rfl<|.eN P.hp rfl<|.qE<|gk dd<|f_<|iM<|iS<|ap rfl<|bl<|.qE<|gk dd<|f_<|bz<|mH<|eJ<|ay<|cJ<|ap rfl<|.eN P.hp rfl<|bh<|.wy P.A.ho (cZ<|by rw[cU];exact ak P.A.ol dd) ⟨h,H.le_refl h,k _⟩)
end
section
set_option smartUnfolding false in
theorem Wh{T:Fl->L->H->Prop}(k: ∀h',H.le h h'->T .next [U t,U<|.fz a 4<|gm u j p vs,U y,U z,U o,U<|.int l,U<|.bool ae,Y,Y,Y,Y,Y,Y,Y,Y] h'):
  ex I (al I<|d+6) (.af (.x 6)<|.eW .eq (.at (.x 1) 21)<|.g 17) [U t,U<|.fz a 4<|gm u j p vs,U y,U z,U o,U<|.int l,Y,Y,Y,Y,Y,Y,Y,Y,Y] h T:=
 gy (ρ:=[U<|.op t,U<|gY a u j p vs,U<|.op y,U<|.op z,U<|.op o,U<|.int l .no,Y,Y,Y,Y,Y,Y,Y,Y,Y]) [] [.f] (Hd.of Fa.nl) (aB<|aB<|aB<|aB<|aB<|aT tI<|aD<|aD<|aD<|aD<|aD<|aD<|aD<|aD<|aD bk) (.c (dd: ¬(2:Int)=3)<|.d λh' D _=>k h'<|a7 D.f)
theorem ZF(P:jc W u h x o j s p t)(i:d7 vs l)(hl:l.length<=16)(ok: ∀q∈l,kD W q)(r:qm j left 0 l s p t)(k: ∀h' R,DK W u h' x o R (mJ j left 0 l s).D->R.map er=(mJ j left 0 l s).E->(o++aH W R).length<=p+30*l.length->Q .none h'):
  al I (d+7) 70 [.ref x.pg,.fz a 4<|gm z y A vs,.int left,.int j,.int 0] h Q:=
 P.w.elim λR w=>w.elim λrl w=>w.elim λrd w=>
 (e_ (fn:=PZ) rfl rfl (j1 (gv (ap rfl (.jn P.hp rfl rfl (ay (ap rfl (ap7 w.1 λf=>bz (Wh λh1 l1=>
  bz (iE (Jw (eI (ay (ap rfl (au1 i hl λh2 l2=> .fJ (Zf i 0 s p t Y Y h2 ok r ((P.aG l1).aG l2) λx7 x8 h3 P3=>
   P3.w.elim λe w3=>w3.elim λb w3=>w3.elim λc w3=>
   bz<|ip<|gv<|ap rfl<|.jn P3.hp rfl rfl<|ay<|ap rfl<|ay<|ap rfl<|aa0 w3.1 λh4 E=>f_ ⟨h4,H.le_refl _,k h4 e E w3.2.1 w3.2.2.2.1⟩))))))))))))))))
end
noncomputable def tk:Nat->Ss->Ss
 |n+1,.cons s r=> .cons s (tk n r)
 |_,_=> .nil
noncomputable def dp:Nat->Ss->Ss
 |n+1,.cons _ r=>dp n r
 |_,b=>b
def PO(d:Nat)(hb:H)(B:List ai)(F:SF->SL->G->Prop)(Z:cW)(r:TS)(q b:Ss):Prop:= ∀ρ g h K P,Hd hb B g h->a8 g ρ->av d hb B F (r ρ g K)->Kf d hb B F g K (og Z q P)->aZ I Z b (aq ρ) h P
theorem LP:PO d hb B F Z (λρ g K=>K .next ρ g) b b:=λρ g h _ _ D o t z=>z g h ρ .next (G.le_refl g) D o tI t
theorem Tk(a:ja d hb B F j<|ex I Z x)(b:PO d hb B F Z h q y):PO d hb B F Z (λρ g K=>j ρ g λf ρ g=>match f with|.next=>h ρ g K|f=>K f ρ g) q<|.cons x y:=
 λ_ _ _ _ _ D o t z=>a _ _ _ _ _ D o t λg1 h1 c f l1 D1 o1 of t=>by
  cases f
  ·exact b _ _ _ _ _ D1 o1 t (z.up l1)
  ·exact z g1 h1 c .brk l1 D1 o1 tI t
  ·exact z g1 h1 c .cont l1 D1 o1 tI t
  ·exact z g1 h1 c (.ret v) l1 D1 o1 of t
theorem aH1(c:qp d hb B F C<|al I<|d+n) m b:PO d hb B F (al I<|d+n) (rS C n<|.tr<|tk m b) (dp m b) b:=by
 induction m generalizing b with
 |zero=>exact LP
 |succ m ih=>
  cases b
  ·exact LP
  ·exact(Tk (tz c _) (ih _):)
theorem jU m stop hs(D:Hd hb B g h)(o:a8 g ρ)(k:dG (lf d hb B (FP hb B<|og (al I<|d+n) (dp m b) P) (rS (rC stop n) n (.tr<|tk m b) ρ g .done) hs) []):aZ I (al I<|d+n) b (aq ρ) h P:=
 aH1 (mr stop n) m b _ _ _ _ _ D o (rR _ hs (λ_ x=>x) k) λ_ h' _ _ _ D' o' _ t=>t h' D' o'
section
structure Bx(w t b left lN:Int):Prop where
 w0: -33600000<=w
 w1:w<=960000000
 t0:0<=t
 t1:t<=60000000
 b0:0<=b
 b1:b<=60000000
 l0:0<=left
 l1:left<=1000
 p0:0<=lN
 p1:lN<=1000
theorem Db: ∀{l:List Int} {a:Int},a<=m->(∀x∈l,x<=m)->dL a l<=m
 |[],_,h,_=>h
 |x::r,a,h1,h3=>by
  show dL (if a <x then x else a) r<=m
  by_cases c:a <x
  ·rw[aM c];exact Db (h3 x<|.head _) λy m=>h3 y (.tail _ m)
  ·rw[aE c];exact Db h1 λy m=>h3 y (.tail _ m)
theorem Y8(B:Bx w t b left a): ¬1073741823 <dL t [b,t+b+a,w+left]:=
 fF.mpr (Db (az B.t1 dd) λx m=>(bB.mp m).elim (λe=>e▸az B.b1 dd) λm=>(bB.mp m).elim (λe=>e▸az (fS (fS B.t1 B.b1) B.p1) dd) λm=>b9.mp m▸az (fS B.w1 B.l1) dd)
theorem V4{ρ:L}(e0:ah ρ 0=U (U<|.fz a 4<|gm w t b vs))(e1:ah ρ 1=U (U<|.int left))(e2:ah ρ 2=U (U<|.int j))(k:Q (.int<|dL t [b,t+b+j,w+left]) h):
  (ao I C (.bi .max<|.cons (.at (.x 0) 23)<|.cons (.at (.x 0) 24)<|.cons (.dY .add (.dY .add (.at (.x 0) 23) (.at (.x 0) 24))<|.x 2)<|.cons (.dY .add (.at (.x 0) 22)<|.x 1) .nil) ρ).v h Q:=
 (eJ<|ay<|cJ<|ap e0<|.iA rfl<|ay<|cJ<|ap e0<|.iA rfl<|ay<|eE<|eE<|cJ<|ap e0<|.iA rfl<|cJ<|ap e0<|.iA rfl<|.jb<|ap e2<|.jb<|ay<|eE<|cJ<|ap e0<|.iA rfl<|ap e1<|.jb<|.aM5 k)
set_option smartUnfolding false in
theorem Vo(B:Bx w t b left j)(k: ∀h',H.le h h'->Q .none h'):al I (d+3) 71 [.fz a 4<|gm w t b vs,.int left,.int j] h Q:=
 b_ [] [.f,.d (.int (dL t [b,t+b+j,w+left]) .no) [],.f] (Hd.of Fa.nl) (bD<|cD B.l0 B.l1<|cD B.p0 B.p1 aY)
  (.c (λq=>q rfl)<|.c ⟨tI,λh Q D k=>V4 rfl rfl rfl<|k h D⟩<|.c (Y8 B)<|.d λh' D=>k h'<|a7 D.f)
end
noncomputable def boN(k:Nat):Int:=Nat.casesOn k 3 λ_=>0
def jQ(k:Nat):List V:=Gv [V.int 139] (λk l=>l++vi (aO (boN k) 4)) k
noncomputable def iW:List Int:=[139,0,0,0,3,0,0,0,0,0,0,0,0,0,0,0,0,0,0,0,0,0,0,0,0,0,0,0,0,0,0,0,0,0,0,0,0,0,0,0,0,255,255,255,255]
theorem ai5:jQ 10++vi (aO (-1) 4)=vi iW:=rfl
abbrev jJ(so a:SV)(pages mL tall wide:Int):List<|Nat×SV:=[(24,aL 2),(36,so),(37,a),(43,aL pages),(44,aL mL),(45,.int tall .no),(46,.int wide .no),(42,aL 0)]
abbrev Vk(w b pg:ai)(c tb bb left a:Int)(vs:List V)(kw kp:Nat)(x:Option V):SL:=[U<|.ref kw w,U<|gY b c tb bb vs,U<|.aj [aL 3],U<|.int left<|.b 0 1000,U<|.int a<|.b 0 1000,U<|.ref kp pg,x.map .op]
abbrev h73(w b:ai)(c tb bb left a:Int)(vs:List V):List bI:=[.u,.d (.op .none) [],.n,.u,.s (Option V) (λ_=>True) λg x=>(.next,Vk w b (gu g 2) c tb bb left a vs 0 2 x,d9 g [(3,.list<|jQ 10)]),.d (.op .none) [(3,.list<|vi iW)]]
abbrev IT(w oc fd:ai):G:=[(w,.aK 8<|jJ (.op<|.ref oc) (.ref 1 fd) 0 (-1) 0 0),(fd,.dict [])]
theorem i3{α:Type}{P:α->Prop}{a}{l}(x:P a)(y: ∀b∈l,P b): ∀b∈a::l,P b:=λb m=>(bB.mp m).elim (λe=>e▸x) (y b)
theorem FT{α:Type}{P:α->Prop}: ∀b∈([]:List α),P b:=λ_ m=>dz m
theorem Ms{h h'}{g}{w j a}{k}{x l x1}(D:Hd h [w,j] g h')(e:ah g (k+2)=U (a,x))(e0:ah g 0=U (w,l))(e1:ah g 1=U (j,x1))(lx:x.lv)(l0:l.lv)(l1:x1.lv):h a=Y:=
 D.im e (kh (D.ne e e0 lx l0<|aS5 _)<|D.ne e e1 lx l1 λq=>aS5 _<|pC q)
section
variable{w oc fd b:ai}{P:Fl->L->H->Prop}
theorem Gh{k}(h:k<=11):(jQ k).length<=8000:=by
 have: ∀k,(jQ k).length=1+4*k:=λk=>by
  induction k with
  |zero=>rfl
  |succ k ih=>show(jQ k++_).length=_;rw[aC,ih,cU,cH];rfl
 rw[this];exact ak (eG (ji 4 h) 1) dd
noncomputable abbrev gL(pg o:ai)(fs:List<|Nat×SV)(l:List V):G:=[(pg,.aK 7<|(36,.ref 1 o)::fs),(o,.list l)]
abbrev wW(w b pg:ai)(c tb bb left a:Int)(vs:List V)(x:Option V):SL:=[U<|.op<|.ref w,U<|gY b c tb bb vs,U<|.aj [aL 3],U<|.int left .no,U<|.int a .no,U<|.ref 0 pg,x.map .op]
theorem Qx{g:G}{a}{x}(e: ∃o,ah g 0=U (a,o)):a8 g<|wW w b a p j l left h vs x:=aB (aB<|aT (d4<|bU aY)<|aT tI<|aT tI<|aT e<|bJ bk)
section
set_option smartUnfolding false in
theorem aG4(c:k<=9)(D:Hd h [a,o] (gL a o u<|jQ k) h)(q: ∀h',Hd h [a,o] (gL a o u<|jQ<|k+1) h'->P .next (aq<|wW w b a t l p left j vs<|U<|.int k) h'):cn (al I<|d+5) (Tg.x 6) EH (.int k) (aq<|wW w b a t l p left j vs x) h P:=by
 cases k with
 |zero=>exact dy [50] [.u,.d (.op .none) [(1,.list<|jQ 1)]] D (Qx ⟨_,rfl⟩) (v:=aL 0) ⟨aU _,aU _⟩ (.c (r_ rfl (Gh (k:=0) dd) dd)<|.d λh' D _=>q h' D)
 |succ k=>exact dy [50] [.u,.d (.op .none) [(1,.list<|jQ<|k+2)]] D (Qx ⟨_,rfl⟩) (v:= .int (k+1)<|.b 1 9) ⟨bS.mpr<|Nat.succ_pos k,bS.mpr c⟩ (.c (r_ rfl (Gh<|Nat.le_trans c dd) dd)<|.d λh' D _=>q h' D)
theorem aJ7(of: ∀l,h9 (gL a o p l) p): ∀(m k:Nat) (x:Option V) (h:H),m+k=10->h a=U (.aK 7<|bZ<|(36,.ref 1 o)::p)->h o=U (.list<|jQ k)->(∀x h',Fr h h' [o]->h' o=U (.list<|jQ 10)->P .next (aq<|wW w b a y t u left j vs x) h')->
  dg (cn (al I<|d+5) (Tg.x 6) EH) bP (eh k 1 m) (aq<|wW w b a y t u left j vs x) h P:=λm=>by
 induction m with
 |zero=>exact λk x h e _ eo q=>⟨tI,q x h (λ_ _ e _=>e)<|by rw[<-(gK k).symm.trans e];exact eo⟩
 |succ m ih=>
  intro k x h e ep eo q
  have ek:m+(k+1)=10:=by rw[<-e,Q3];rfl
  exact⟨tI,aG4 (uT<|Nat.le_trans (uQ (k+1) m)<|Nat.le_of_eq ek) (Hd.of (g:=gL a o p<|jQ k)<|Fa.is ep (b8 (bO ep eo nofun) bj) (ki rfl<|of _)<|Fa.ls eo bj Fa.nl) λh' D'=>⟨h',H.le_refl _,ih (k+1) _ h' ek (D'.am 0 a _ rfl) (D'.am 1 o _ rfl) λx h2 f e=>q x h2 (Fr.tr (Fr.cu D'.f<|(D'.am 0 a _ rfl).trans ep.symm) f) e⟩⟩
end
set_option smartUnfolding false in
theorem aw6(B:Bx y t z left p)(hw:h w=U (.aK 8<|bZ<|jJ (.op<|.ref oc) (.op<|.ref fd) 0 (-1) 0 0))(hf:h fd=U (.dict []))
  (k: ∀h' x g,H.le h h'->Pg W h h' x iW [] [] [] [] 0 0 (-1)->aZ I (al I<|d+5) LM [U<|.ref w,U<|.fz b 4<|gm y t z vs,U<|.aj [.int 3],U<|.int left,U<|.int p,U<|.ref x.pg,g] h' P):
  aZ I (al I<|d+5) JC [U<|.ref w,U<|.fz b 4<|gm y t z vs,U<|.aj [.int 3],U<|.int left,U<|.int p,Y,Y] h P:=by
 have f:Fa h (IT w oc fd)<|IT w oc fd:=Fa.is hw (b8 (bO hw hf nofun) bj) (dN<|dH<|ki rfl<|dN<|dN<|c5 tI<|c5 tI<|dN dX) (Fa.di hf bj Fa.nl)
 refine jU (ρ:=[U<|.ref 0 w,U<|gY b y t z vs,U<|.aj [aL 3],U<|.int left<|.b 0 1000,U<|.int p<|.b 0 1000,Y,Y]) 6 [50,71] (h73 w b y t z left p vs) (Hd.of f) (bG rfl<|aB<|aT (d4<|bU aY)<|i8 B.l0 B.l1<|i8 B.p0 B.p1<|aD<|aD bk)
  (.c ?_<|.c ?_<|.c ?_<|.c ?_<|.d ?_)
 ·exact cI tI λh Q k=>Vo B k
 ·exact λ_ _=>j3 _
 ·intro pg o c ac ar dn dr
  exact oT (λx _=>bG rfl<|aB<|aT (d4<|bU aY)<|i8 B.l0 B.l1<|i8 B.p0 B.p1<|bG rfl<|bJ bk) (λx _=>i6 [(3,.list<|jQ 10)] _) λh1 P D q=>kq (iY<|ay<|bl<|bh<|.ma ⟨dd,dd⟩<|aJ7 (x:=Y) (λl=>dH<|dN<|dN<|dN<|dN<|dH<|dH<|dN dX) 10 0 h1 rfl (D.am 2 pg _ rfl) (D.am 3 o _ rfl) λx h2 f e=>q x h2 tI<|D.go (u:=[(3,.list<|jQ 10)]) f<|dj rfl tI e tI d8)
 ·exact λpg o c ac ar dn dr x _=>⟨tI,λh Q D k=>yJ (D.am 3 o _ rfl) (Gh dd) dd λh' e f=>k h'<|D.go f<|dj rfl tI (e.trans<|by rw[<-ai5]) tI d8⟩
 ·intro pg o c ac ar dn dr x _ h' D _
  have fr: ∀{a:ai} {k:Nat} {o:SO},ah _ (k+2)=U (a,o)->SO.lv o->h a=Y:=λ{a k x} e l=>Ms D e rfl rfl l tI tI
  exact k h' ⟨pg,o,c,ac,dn,ar,dr⟩ _ (a7<|Fr.cu (Fr.cu D.f<|(D.am 0 w _ rfl).trans hw.symm)<|(D.am 1 fd _ rfl).trans hf.symm)
   ⟨D.am 2 pg _ rfl,D.am 4 c _ rfl,⟨D.am 5 ac _ rfl,D.am 6 ar _ rfl,(D.am 3 o _ rfl).trans (by rw[show aH W []=[] from rfl,c8]),.nil,dd,(dd:(iW++[]).length<=3000),dd,tI⟩,D.am 7 dn _ rfl,D.am 8 dr _ rfl,.inl rfl,D.ne (i:=6) (j:=8) rfl rfl tI tI dd,a7<|Fr.cu (Fr.cu D.f<|(D.am 0 w _ rfl).trans hw.symm)<|(D.am 1 fd _ rfl).trans hf.symm,
    i3 (fr (k:=0) rfl tI)<|i3 (fr (k:=1) rfl tI)<|i3 (fr (k:=2) rfl tI)<|i3 (fr (k:=3) rfl tI)<|i3 (fr (k:=5) rfl tI)<|i3 (fr (k:=4) rfl tI)<|i3 (fr (k:=6) rfl tI) FT⟩
end
noncomputable def eP:List Int:=[247,2,1,131,146,192,28,59,0,0,0,0,3,232,8,103,108,117,101,112,97,103,101]
noncomputable def nJ:kN:=⟨0,0,-1,[],[]⟩
def iJ(W:Wt)(R:List bm):List Int:=iW++aH W R++[140]
section
variable{w oc fd b:ai}{Q:V->H->Prop}{R:List bm}
abbrev JI(w oc fd:ai)(x:Ad)(hh vv fn:Int)(os:List V):G:=[(w,.aK 8<|jJ (.ref 1 oc) (.op<|.ref fd) 0 (-1) 0 0),(oc,.list<|vi eP),(x.pg,.aK 7<|wm x (.ref 3 x.o) (.op<|.ref x.fd) hh vv fn),(x.o,.list os)]
structure Wr(W:Wt)(h h':H)(w oc:ai)(fd:ai)(R:List bm)(D:List Int)(tall wide:Int):Prop where
 hw:h' w=U (.aK 8<|bZ<|jJ (.op<|.ref oc) (.op<|.ref fd) 1 23 tall wide)
 ho:h' oc=U (.list<|vi<|eP++iJ W R)
 hf:h' fd=U (.dict<|D.map λn=>(n,W.v n))
 fr:Fr h h' [w,oc]
 gd:fC R
theorem e6(v:Option V):(v.map SV.op).map den=v:=by cases v <;>rfl
set_option smartUnfolding false in
theorem Xj(E:DK W h t x iW R D)(hw:h w=U (.aK 8<|bZ<|jJ (.op<|.ref oc) (.op<|.ref fd) 0 (-1) 0 0))(ho:h oc=U (.list<|vi eP))(n0:h x.o=Y/\h x.pg=Y)(ol:(iW++aH W R).length<=2900)
  (k: ∀h',Wr W h h' w oc x.fd R D (dL 0 [l+u+j]) (dL 0 [p+left])->Q .none h'):aZ I (al I<|d+7) Hy [U<|.ref w,U<|.fz b 4<|gm p l u vs,U<|.aj [.int 3],U<|.int left,U<|.int j,U<|.ref x.pg,o] t<|ie Q:=by
 obtain⟨hh,vv,fn,e⟩:=E.hp
 have c:=E.le _ _ hw
 have g:=E.le _ _ ho
 have nn: ∀{a b:ai} {y:O},h a=U y->h b=Y->a≠b:=λe n q=>gJ <|(q▸e).symm.trans n
 have f:Fa t (JI w oc fd x hh vv fn<|vi<|iW++aH W R)<|JI w oc fd x hh vv fn<|vi<|iW++aH W R:=Fa.is c (b8 (bO c g nofun)<|b8 (nn hw n0.2)<|b8 (nn hw n0.1) bj) (dN<|ki rfl<|dH<|dN<|dN<|c5 tI<|c5 tI<|dN dX) (Fa.ls g (b8 (nn ho n0.2)<|b8 (nn ho n0.1) bj)<|Fa.is e (b8 (bO e E.ho nofun) bj) (zG ⟨_,rfl⟩ tI)<|Fa.ls E.ho bj Fa.nl)
 rw[<-e6 o]
 exact gF (ρ:=[U<|.ref 0 w,U<|gY b p l u vs,U<|.op<|.aj [.int 3],U<|.int left .no,U<|.int j .no,U<|.ref 2 x.pg,o.map .op]) [] [.n,.u] (Hd.of f) (bG rfl<|aB<|aB<|aT tI<|aT tI<|bG rfl<|bJ bk)
  (.c (cZ<|by rw[cU];exact ak (cf ol) dd) (.c (cZ<|by rw[aC,aC,cU,cU];exact ak (eG (cf ol) _) dd)
   (.d λh' D _=>⟨h',H.le_refl _,k h' ⟨D.am 0 w _ rfl,(D.am 1 oc _ rfl).trans (by rw[iJ,eC eP,eC<|iW++aH W R];rfl),(D.f _ _ E.hf (i3 (bO E.hf c nofun) (i3 (bO E.hf g nofun)<|i3 (bO E.hf e nofun)<|i3 (bO E.hf E.ho nofun) FT) x.fd · rfl)),λa y m n=>D.f a y (E.le a y m) λq=>(bB.mp q).elim (λq=>n<|q▸ .head _) λq=>(bB.mp q).elim (λq=>n<|q▸ .tail _ (.head _)) λq=>(bB.mp q).elim (nn m n0.2) λq=>nn m n0.1<|List.mem_singleton.mp q,E.gd⟩⟩)))
theorem ag7(B:Bx p o t left a)(hw:h w=U (.aK 8<|bZ<|jJ (.op<|.ref oc) (.op<|.ref fd) 0 (-1) 0 0))(ho:h oc=U (.list<|vi eP))(hf:h fd=U (.dict []))(i:d7 vs j)(hl:j.length<=16)(ok: ∀q∈j,kD W q)(r:qm (a+o) left 0 j nJ 45 0)(es:mJ (a+o) left 0 j nJ=s)
  (k: ∀h' c R,Wr W h h' w oc c R s.D (dL 0 [o+t+a]) (dL 0 [p+left])->R.map er=s.E->(iW++aH W R).length<=45+30*j.length->Q .none h'):
  al I (d+8) 73 [.ref w,.fz b 4<|gm p o t vs,.aj [.int 3],.int left,.int a] h Q:=
 e_ (fn:=Qi) rfl rfl (aw6 B hw hf λh1 x f l P=>
  (bz (ip (eI (ay (ap rfl (ay (ap rfl (ay (ap rfl (ay (eE (ap rfl (cJ (ap rfl (.iA rfl (.jb (ay (bl (ZF ⟨[],[],[],P,rfl,.inl rfl,(dd:(iW++[]).length<=45),dd⟩ i hl ok r λh2 R E e1 e2=>
   Xj (es▸E) hw ho ⟨P.na.2,P.n0 _<|.head _⟩ (ak e2<|ak (eG (ji 30 hl) 45) dd) λh' e=>k h' x.fd R e (es▸e1) e2))))))))))))))))))))
end
theorem Zu(b:bc j 36=U (.ref o)): ∀(cs:List Nat) l x h,l.length+cs.length<=9000->h w=U (.aK c j)->h o=U (.list l)->(∀x h',h' o=U (.list (l++cs.map λc:Nat=>V.int c))->Fr h h' [o]->P .next [U<|.ref w,U a,x] h')->
  dg (cn C (.x 2) NP) bP (cs.map λc=>V.str ⟨#[c]⟩) [U<|.ref w,U a,x] h P:=λcs=>by
 induction cs with
 |nil=>exact λl x h _ _ e k=>⟨tI,k x h (e.trans<|by rw[List.map_nil,c8]) λ_ _ e _=>e⟩
 |cons c cs ih=>exact λl x h hl ew eo k=>⟨tI,eH (bz (ip (gv (cJ (ap rfl (.eN ew b (.pL eo rfl (ay (eJ (ay (ap rfl (.vM (bh (.vq eo (cZ<|Nat.le_trans (eG (cf<|Nat.zero_le _) _) hl)
   ⟨_,H.le_refl _,ih (l++[.int c]) _ _ (by rw[aC,cG,c4 [_].length];exact hl) ((H.jZ<|bO ew eo nofun).trans ew) (H.kb ..) λx h2 e2 f2=>k x h2 (e2.trans<|by rw[aX];rfl)<|Fr.tr DJ f2⟩))))))))))))))⟩
theorem C4{g:G}{L M}(e:ah g i=U (o,a))(es: ∀{x},a.at x->x=U (.list L))(lv:a.lv)(hl:L.length<=8000)(em:L++vi (aO n 4)=M):il d hb B (m+1) 50 [.ref i o,.int n b,.int 4 j] g (.op .none) [(i,.list M)]:=
 ⟨tI,λh Q D k=>yJ (es<|D.am i o _ e) hl dd λh' e' f=>k h'<|D.go (by unfold jm;rw[kK,e];exact f)<|dj e lv (e'.trans<|by rw[em]) tI d8⟩
set_option smartUnfolding false in
theorem Uu(hw:h w=U (.aK 8 []))(k: ∀h' oc fd,h' w=U (.aK 8<|bZ<|jJ (.op<|.ref oc) (.op<|.ref fd) 0 (-1) 0 0)->h' oc=U (.list<|vi eP)->h' fd=U (.dict [])->Fr h h' [w]->h oc=Y->h fd=Y->Q .none h'):al I (d+3) 72 [.ref w,.int 2] h Q:=
 b_ (vs:=[.ref 0 w,aL 2]) [50] [.d (.op .none) [(1,.list<|vi [247,2,1,131,146,192])],.d (.op .none) [(1,.list<|vi [247,2,1,131,146,192,28,59,0,0])],.d (.op .none) [(1,.list<|vi [247,2,1,131,146,192,28,59,0,0,0,0,3,232])],.n,.u,.n,.s (Option V) (λ_=>True) λg x=>(.next,[U<|.ref 0 w,U<|aL 2,x.map .op],d9 g [(1,.list<|vi eP)])] (Hd.of (g:=[(w,.aK 8 [])])<|Fa.is hw bj dX Fa.nl) (h_ rfl<|bU aY)
  (.c (λo=>C4 rfl (λe=>e) tI dd rfl)<|.c (λo=>C4 rfl (λe=>e) tI dd rfl)<|.c (λo=>C4 rfl (λe=>e) tI dd rfl)<|.c (λo=>cZ (dd:8<=9000))<|.c (λo=>oT (λx _=>bG rfl<|gx<|bJ bk) (λx _=>i6 [(1,.list<|vi eP)] _) λh1 P D q=>kq<|UF<|oa rfl<|.xN<|Zu rfl [103,108,117,101,112,97,103,101] (vi [247,2,1,131,146,192,28,59,0,0,0,0,3,232,8]) Y h1 dd (D.am 0 w _ rfl) (D.am 1 o _ rfl) λx h2 e f=>(e6 x).subst (motive:=λy=>P .next [U<|.ref w,U<|.int 2,y] h2)<|q x h2 tI<|D.go (u:=[(1,.list<|vi eP)]) f<|dj rfl tI e tI d8)<|.d λo x _ fd h' D=>k h' o fd (D.am 0 w _ rfl) (D.am 1 o _ rfl) (D.am 2 fd _ rfl) D.f (D.im (k:=1) rfl<|hJ<|D.ne (i:=1) (j:=0) rfl rfl tI tI dd)<|D.im (k:=2) rfl<|hJ<|D.ne (i:=2) (j:=0) rfl rfl tI tI dd)
noncomputable def nL(W:Wt):List Int->List Int
 |[]=>[]
 |n::r=>ni (W.f n) (96+n.toNat)++nL W r
noncomputable def q_:List Int:=[1,131,146,192,28,59,0,0,0,0,3,232]
noncomputable def nh(n:Nat):Nat:=(4+ -(n:Int)% 4).toNat
def oN(os:List Int)(ta a:Int):List Int:=os++[248]++aO 23 4++q_++aO ta 4++aO a 4++aO 0 2++aO 1 2
def uf(W:Wt)(os:List Int)(ta a:Int)(l:List Int):List Int:=oN os ta a++nL W l++[249]++aO os.length 4++[2]
def tc(W:Wt)(os:List Int)(ta a:Int)(l:List Int):List Int:=uf W os ta a l++gn (nh (uf W os ta a l).length) 223
theorem pe{g:G}{L}(e:ah g i=U (o,.list L))(el:L=vi X)(hl:X.length<=8000)(hr:r<=4)(em:X++aO n r=Yqv):il d hb B (m+1) 50 [.ref i o,.int n b,.int r a] g (.op .none) [(i,.list<|vi Yqv)]:=
 ⟨tI,λh Q D k=>yJ (D.am i o _ e) (by rw[el,cU];exact hl) hr λh' e' f=>k h'<|D.go (by unfold jm;rw[kK,e];exact f)<|dj e tI (e'.trans<|by rw[<-em,eC,el]) tI d8⟩
set_option smartUnfolding false in
theorem ai6(ho:h o=U (.list<|vi X))(hl:X.length<=7000)(k: ∀h',h' o=U (.list<|vi<|X++q_)->Fr h h' [o]->Q .none h'):al I (d+2) 53 [.ref o] h Q:=
 b_ [50] [.d (.op .none) [(0,.list<|vi<|X++aO 25400000 4)],.d (.op .none) [(0,.list<|vi<|X++aO 25400000 4++aO 473628672 4)],.d (.op .none) [(0,.list<|vi<|X++aO 25400000 4++aO 473628672 4++aO 1000 4)]] (Hd.of (g:=[(o,.list<|vi X)])<|Fa.ls ho bj Fa.nl) (h_ rfl aY)
  (.c (pe rfl rfl (ak hl dd) dd rfl) (.c (pe rfl rfl (by rw[aC];exact ak (cK hl 4) dd) dd rfl) (.c (pe rfl rfl (by rw[aC,aC];exact ak (cK (cK hl 4) 4) dd) dd rfl)
   (.d λh' D=>k h' ((D.am 0 o _ rfl).trans<|by rw[aX,aX];rfl) D.f))))
section
variable{D:List Int}
theorem KG:(ni f b).length=18:=rfl
theorem ax3(b:bc o 37=U (.ref j))(c:j≠q): ∀l X x h,(∀n∈l,n∈D/\1<=n/\n<=2)->X.length+18*l.length<=4000->h w=U (.aK 8 o)->h j=U (.dict<|D.map λn=>(n,W.v n))->h q=U (.list<|vi X)->(∀x h',h' q=U (.list<|vi<|X++nL W l)->Fr h h' [q]->P .next [U<|.ref w,U<|.ref q,x,Y] h')->
  dg (cn (al I<|d+3) (Tg.x 2) Ou) bP (vi l) [U<|.ref w,U<|.ref q,x,Y] h P:=λl=>by
 induction l with
 |nil=>exact λX x h _ _ _ _ e k=>⟨tI,k x h (e.trans<|by rw[show nL W []=[] from rfl,c8]) λ_ _ e _=>e⟩
 |cons n l ih=>
  intro X x h hn hl ew ed a k
  have n2:=hn n (.head _)
  have hx:=ak (cg _ _) hl
  exact⟨tI,(eH (bz (ip (eI (ay (ap rfl (ay (iC (cJ (ap rfl (.eN ew b (ap rfl (.OW ed (Dz.1 n2.1) (I0 (az n2.2.2 dd) (az (bS.mpr<|Nat.add_le_add_left (uV.mpr n2.2.2) 96) dd) a (by rw[cU];exact ak hx dd) λh1 e1 f1=>
   ⟨h1,H.le_refl _,ih (X++ni (W.f n) (96+n.toNat)) _ h1 (λm i=>hn m<|.tail _ i) (by rw[aC,KG,cG,c4 18,<-py];exact hl) (f1 _ _ ew<|hJ<|bO ew a nofun) (f1 _ _ ed<|hJ c) (e1.trans<|by rw[eC];rfl) λx h2 e2 f2=>k x h2 (e2.trans<|by rw[aX];rfl)<|Fr.tr f1 f2⟩))))))))))))))⟩
set_option smartUnfolding false in
theorem Ua: ∀m s X x h,X.length+m<=8000->h q=U (.list<|vi X)->(∀x h',h' q=U (.list<|vi<|X++gn m 223)->Fr h h' [q]->P .next [U<|.ref w,U<|.ref q,x2,x] h')->
  dg (cn (al I<|d+3) (Tg.x 3) QN) bP (eh s 1 m) [U<|.ref w,U<|.ref q,x2,x] h P:=λm=>by
 induction m with
 |zero=>exact λs X x h _ e k=>⟨tI,k x h (e.trans<|by rw[List.replicate_zero,c8]) λ_ _ e _=>e⟩
 |succ m ih=>
  intro s X x h hl e k
  exact⟨tI,(eH<|bz<|ip<|gv<|ap rfl<|.pL e rfl<|ay<|oa rfl<|.vq e (cZ<|by rw[cU];exact ak (eG (cf<|Nat.zero_le m) _)<|Nat.le_trans hl dd) ⟨_,H.le_refl _,ih (s+1) (X++[223]) _ _ (by rw[aC,cG,c4 [_].length];exact hl) ((H.kb ..).trans<|by rw[eC];rfl) λx h2 e2 f2=>k x h2 (e2.trans<|by rw[aX];rfl)<|Fr.tr DJ f2⟩)⟩
end
theorem gg(x:ef a)(y:ef b):ef<|a++b:=λi m=>(pB.mp m).elim (x i) (y i)
theorem aA7:ef<|gn n 223:=λi m=>by rw[List.eq_of_mem_replicate m];decide
section
variable{W:Wt}{w oc fd q:ai}{os D l:List Int}
abbrev g74(w oc fd q:ai)(os X:List Int)(ta a:Int):G:=[(w,.aK 8<|jJ (.ref 1 oc) (.op<|.ref fd) 1 23 ta a),(oc,.list<|vi os),(q,.list<|vi X)]
theorem pm(n:Nat):0<= -(n:Int)% 4/\ -(n:Int)% 4<=3:=⟨pr _ dd,iO (show -(n:Int)% 4 <3+1 from qQ _ dd)⟩
theorem Pf n:nh n<=7:=uV.mpr (fG (pm n).2 4)
theorem aj5(n:Nat):ir<|4+ -(n:Int)% 4:=⟨az dd<|fG (pm n).1 4,az (fG (pm n).2 4) dd⟩
theorem WC{ρ:L}(e:ah ρ 1=U (U<|.ref q))(ho:h q=U (.list<|vi X))(hl:X.length<=8000)(k:K (eh 0 1<|nh X.length) bP h):(ao I C (.bi .range<|.cons (.dY .add (.c<|.int 4)<|.dY .mG (.neg<|.bi .len<|.cons (.x 1) .nil)<|.c<|.int 4) .nil) ρ).i h K:=
 (iY<|ay<|eE<|bl<|eE<|v1<|eJ<|ay<|ap e<|.wy ho (cZ<|by rw[cU];exact ak hl dd)<|.sG<|bl<|.Hi dd<|.jb<|.ma (by rw[cU];exact aj5 _)<|by rw[cU];exact k)
set_option smartUnfolding false in
theorem XR{x:Option V}(hX:X.length<=4000)(a:os.length<=3000)(ew:h w=U (.aK 8<|bZ<|jJ (.op<|.ref oc) (.op<|.ref fd) 1 23 j o))(eo:h oc=U (.list<|vi os))(b:h q=U (.list<|vi X))(i:oc≠q)
  (ok:ef<|X++[249]++aO os.length 4++[2]) (k: ∀h',Fr h h' [q]->Q (.a6<|X++[249]++aO os.length 4++[2]++gn (nh (X++[249]++aO os.length 4++[2]).length) 223) h'):aZ I (al I<|d+3) Ce (aq [U<|.ref 0 w,U<|.ref 2 q,x.map .op,Y]) h<|ie Q:=by
 have l0:(X++[249]++aO os.length 4++[2]).length<=4006:=by rw[aC,aC,aC,cH];exact cK (cK (cK hX 1) 4) 1
 refine gF [50] [.n,.n,.d (.op .none) [(2,.list<|vi<|X++[249]++aO os.length 4)],.n,.s (Option V) (λ_=>True) λg y=>(.next,[U<|.ref 0 w,U<|.ref 2 q,x.map .op,y.map .op],d9 g [(2,.list<|vi<|X++[249]++aO os.length 4++[2]++gn (nh (X++[249]++aO os.length 4++[2]).length) 223)]),
   .d (.op<|.a6<|X++[249]++aO os.length 4++[2]++gn (nh (X++[249]++aO os.length 4++[2]).length) 223) []] (Hd.of (g:=g74 w oc fd q os X j o)<|Fa.is ew (b8 (bO ew eo nofun)<|b8 (bO ew b nofun) bj) (dN<|ki rfl<|dH<|dN<|dN<|c5 tI<|c5 tI<|dN dX)<|Fa.ls eo (b8 i bj)<|Fa.ls b bj Fa.nl) (bG rfl<|bG rfl<|bJ<|aD bk)
  (.c ?_<|.c ?_<|.c ?_<|.c ?_<|.c ?_<|.c ?_<|.d ?_)
 ·exact cZ (by rw[cU];exact ak (cf hX) dd)
 ·exact cZ (by rw[cU];exact ak a dd)
 ·exact pe rfl (eC X [249]).symm (by rw[aC];exact ak (cK hX 1) dd) dd (by rw[cU])
 ·exact cZ (by rw[cU];exact ak (by rw[aC,aC,cH];exact cf<|cK (cK hX 1) 4) (dd:4006<=9000))
 ·exact oT (λy _=>bG rfl<|bG rfl<|bJ<|bJ bk) (λy _=>i6 [(2,.list _)] _) λh1 P D c=>kq (WC rfl ((D.am 2 q _ rfl).trans<|by rw[eC<|X++[249]++aO os.length 4];rfl) (ak l0 dd)<|Ua _ 0 _ Y h1 (ak (gM l0<|Pf _) dd) ((D.am 2 q _ rfl).trans<|by rw[eC<|X++[249]++aO os.length 4];rfl) λy h2 e f=>(e6 y).subst (motive:=λy=>P .next [U<|.ref w,U<|.ref q,(x.map SV.op).map den,y] h2)<|c y h2 tI<|D.go (u:=[(2,.list _)]) f<|dj rfl tI e tI d8)
 ·exact λy _=>⟨tI,λh1 Q D k=>eJ<|ay<|ap rfl<|.ay6 (D.am 2 q _ rfl) (gg ok aA7) (cZ<|by rw[aC,GK];exact ak (gM l0<|Pf _) dd)<|k h1 D⟩
 ·exact λy _ h' D _=>⟨h',H.le_refl _,k h'<|Fr.cu (Fr.cu D.f<|(D.am 0 w _ rfl).trans ew.symm)<|(D.am 1 oc _ rfl).trans eo.symm⟩
end
section
variable{w oc fd:ai}{os D:List Int}
theorem jG(hx:0<=x/\x<=255)(ha:ef a):ef<|x::a:=λi m=>(bB.mp m).elim (λe=>e▸hx) (ha i)
theorem mK:ef []:=λ_ m=>dz m
theorem j_ n: ∀r,ef (aO n r)
 |0=>mK
 |r+1=>jG ⟨pr _ dd,iO (show _ <255+1 from qQ _ dd)⟩ (j_ n r)
theorem Nn(h:b<=255):ef<|ni f b:=jG dd (gg (j_ _ _)<|gg (j_ _ _)<|gg (j_ _ _)<|gg (j_ _ _)<|jG dd<|jG dd<|jG dd<|jG ⟨du b,bS.mpr h⟩ mK)
theorem Iq: ∀{l:List Int},(∀n∈l,1<=n/\n<=2)->ef (nL W l)
 |[],_=>mK
 |n::l,h=>gg (Nn<|ak (eG (uV.mpr (h n<|.head _).2) 96) dd) (Iq λm i=>h m<|.tail _ i)
theorem Dl: ∀{l:List Int},(nL W l).length=18*l.length
 |[]=>rfl
 |n::l=>by show(ni _ _++nL W l).length=_;rw[aC,Dl,KG,eT,py,c4]
theorem ao9(o:ef os):ef<|oN os h a:=gg (gg (gg (gg (gg (gg (gg o<|jG dd mK)<|j_ _ _) (show∀i∈q_,0<=i/\i<=255 by decide))<|j_ _ _)<|j_ _ _)<|j_ _ _) (j_ _ _)
theorem NT:(oN os h a).length=os.length+29:=by
 unfold oN
 simp only[aC,cH];rfl
abbrev aN0(w oc fd:ai)(os:List Int)(ta a:Int):G:=[(w,.aK 8<|jJ (.ref 1 oc) (.op<|.ref fd) 1 23 ta a),(oc,.list<|vi os)]
set_option smartUnfolding false in
theorem aE5(ew:h w=U (.aK 8<|bZ<|jJ (.op<|.ref oc) (.op<|.ref fd) 1 23 a o))(eo:h oc=U (.list<|vi os))(hl:os.length<=3000)(k: ∀h' q,H.le h h'->h q=Y->h' q=U (.list<|vi<|oN os a o)->oc≠q->aZ I (al I<|d+3) N1 [U<|.ref w,U<|.ref q,Y,Y] h' P):aZ I (al I<|d+3) Im [U<|.ref w,Y,Y,Y] h P:=by
 have w9: ∀{n m},n=os.length+m->m<=40->n<=3040:=λe l=>e▸gM hl l
 have lo:(vi os).length<=3000:=by rw[cU];exact hl
 refine jU (ρ:=[U<|.ref 0 w,Y,Y,Y]) 8 [50,53] [.n,.n,.d (.op .none) [(2,.list<|vi<|os++[248]++aO 23 4)],.d (.op .none) [(2,.list<|vi<|os++[248]++aO 23 4++q_)],.d (.op .none) [(2,.list<|vi<|os++[248]++aO 23 4++q_++aO a 4)],.d (.op .none) [(2,.list<|vi<|os++[248]++aO 23 4++q_++aO a 4++aO o 4)],.d (.op .none) [(2,.list<|vi<|os++[248]++aO 23 4++q_++aO a 4++aO o 4++aO 0 2)],.d (.op .none) [(2,.list<|vi<|oN os a o)]]
  (Hd.of (g:=aN0 w oc fd os a o)<|Fa.is ew (b8 (bO ew eo nofun) bj) (dN<|ki rfl<|dH<|dN<|dN<|c5 tI<|c5 tI<|dN dX)<|Fa.ls eo bj Fa.nl) (bG rfl<|aD<|aD<|aD bk)
  (.c ?_<|.c ?_<|.c ?_<|.c ?_<|.c ?_<|.c ?_<|.c ?_<|.c ?_<|.d ?_)
 ·exact cZ (ak lo dd)
 ·exact λq=>cZ (ak (cf lo) dd)
 ·exact λq=>pe rfl (eC os [248]).symm (ak (w9 aC dd) dd) dd rfl
 ·exact λq=>⟨tI,λh Q D k=>ai6 (D.am 2 q _ rfl) (ak (w9 (m:=5) (by simp only[aC,cH];rfl) dd) dd) λh' e f=>k h'<|D.go f<|dj rfl tI e tI d8⟩
 ·exact λq=>pe rfl rfl (ak (w9 (m:=17) (by simp only[aC,cH];rfl) dd) dd) dd rfl
 ·exact λq=>pe rfl rfl (ak (w9 (m:=21) (by simp only[aC,cH];rfl) dd) dd) dd rfl
 ·exact λq=>pe rfl rfl (ak (w9 (m:=25) (by simp only[aC,cH];rfl) dd) dd) dd rfl
 ·exact λq=>pe rfl rfl (ak (w9 (m:=27) (by simp only[aC,cH];rfl) dd) dd) dd rfl
 ·exact λq h' D _=>k h' q (a7<|Fr.cu (Fr.cu D.f<|(D.am 0 w _ rfl).trans ew.symm)<|(D.am 1 oc _ rfl).trans eo.symm) (Ms (k:=0) D rfl rfl rfl tI tI tI) (D.am 2 q _ rfl) (D.ne (i:=1) (j:=2) rfl rfl tI tI dd)
theorem an5(ew:h w=U (.aK 8<|bZ<|jJ (.op<|.ref oc) (.op<|.ref fd) 1 23 t j))(eo:h oc=U (.list<|vi os))(g:h fd=U (.dict<|D.map λn=>(n,W.v n)))(hl:os.length<=1000)(o:ef os)(hD: ∀n∈D,1<=n/\n<=2)(dl:D.length<=60)
  (k: ∀l h',H.le h h'->l.Perm D->l.reverse.Pairwise (· <= ·)->Q (.a6<|tc W os t j l) h'):al I (d+4) 74 [.ref w] h Q:=
 e_ (fn:=IJ) rfl rfl (aE5 ew eo (ak hl dd) λh1 q l1 u i ne=>
  have a:=l1 _ _ ew
  have c:=l1 _ _ g
  have em:(D.map λn=>(n,W.v n)).map (·.1)=D:=by rw[AU];exact List.map_id' D
  have fq:fd≠q:=λe=>gJ <|(e▸g).symm.trans u
  (bz (iE (VG (OV (eJ (ay (cJ (ap rfl (.eN a rfl (bh (.ay7 c (by rw[bN];exact mo dl dd) λl p s=> .U4 (cZ<|by rw[cU,p.length_eq,bN,bN];exact ak dl dd) (by
   rw[em] at p
   have hn: ∀n∈l.reverse,n∈D/\1<=n/\n<=2:=λn m=>have m:=p.mem_iff.mp (List.mem_reverse.mp m);⟨m,hD n m⟩
   have f:=λn m=>(hn n m).2
   have ll:l.reverse.length<=60:=by rw[sU,p.length_eq];exact dl
   have lx:(oN os t j).length+18*l.reverse.length<=4000:=by rw[NT];exact ak (gM (cK hl 29)<|ji 18 ll) dd
   rw[<-aR8]
   exact .fJ (ax3 rfl fq l.reverse (oN os t j) Y h1 hn lx a c i λx h2 e2 f2=>(e6 x).subst (motive:=λy=>aZ I (al I<|d+3) Ce [U<|.ref w,U<|.ref q,y,Y] h2<|ie Q) (XR (by rw[aC,Dl];exact lx) (ak hl dd) (f2 _ _ a<|hJ<|bO a i nofun) (f2 _ _ (l1 _ _ eo)<|hJ ne) e2 ne
    (gg (gg (gg (gg (ao9 o)<|Iq f)<|jG dd mK)<|j_ _ _)<|jG dd mK) λh3 f3=>k l.reverse h3 (λb y e=>Fr.tr f2 f3 b y (l1 b y e)<|hJ λz=>gJ <|(z▸e).symm.trans u) ((List.reverse_perm l).trans p)<|by rw[aS6];exact s)))))))))))))))
end
def At(T:List Int)(p:Nat)(X:List Int):Prop:= ∃A B,T=A++(X++B)/\A.length=p
noncomputable def CW(a:Int)(X:List Int):Int:=X.foldl (λa x=>256*a+x) a
abbrev be(X:List Int):Int:=CW 0 X
noncomputable abbrev kA(T:List Int)(p:Nat):List<|Nat×SV:=[(36,.op<|.a6 T),(47,.int p .no)]
abbrev eO(T:List Int)(p:Nat):SO:= .aK 9 (kA T p)
theorem At.hd(a:At T p<|x::X):ah (vi T) p=U (.int x):=a.elim λA w=>w.elim λB w=>by
 rw[w.1,<-w.2,eC,<-cU];exact qw _ _ _
theorem At.tl(a:At T p<|x::X):At T (p+1) X:=a.elim λA w=>w.elim λB w=>⟨A++[x],B,by rw[w.1,aX];rfl,by rw[aC,w.2];rfl⟩
theorem At.le(a:At T p X):p+X.length<=T.length:=a.elim λA w=>w.elim λB w=>by
 rw[w.1,aC,aC,w.2,<-cG];exact cg _ _
theorem At.gT(a:At T p<|X++Yqv):At T p X/\At T (p+X.length) Yqv:=a.elim λA w=>w.elim λB w=>
 ⟨⟨A,Yqv++B,by rw[w.1,aX],w.2⟩,⟨A++X,B,by rw[w.1];simp only[aX],by rw[aC,w.2]⟩⟩
section
theorem am6(hT:T.length<=100000)(ew:h j=U (.aK 9 l))(b:bc l 36=U (.a6 T)): ∀X p a x,At T p X->(∀x,P .next [U<|.ref j,U x1,U e,U<|.int<|CW a X,x] h)->
  dg (cn C (.x 4) Pw) bP (eh p 1 X.length) [U<|.ref j,U x1,U e,U<|.int a,x] h P:=λX=>by
 induction X with
 |nil=>exact λp a x _ k=>⟨tI,k x⟩
 |cons y X ih=>
  intro p a x t k
  have p9:(p:Int)<=4611686018427387904:=az (bS.mpr<|Nat.le_trans (ak (cg _ _) t.le) hT) dd
  exact⟨tI,(eH<|j1<|eE<|eE<|bl<|ap rfl<|.zR ⟨dd,dd⟩<|iC<|cJ<|ap rfl<|.eN ew b<|ap rfl<|.EA (du p) p9 t.hd<|.jb ⟨h,H.le_refl h,ih (p+1) _ _ t.tl k⟩)⟩
noncomputable abbrev s76(st:ai)(r e a:Int)(x:Option V):SL:=[U<|.ref 0 st,U<|.int r .no,U<|.int e .no,U<|.int a .no,x.map .op]
set_option smartUnfolding false in
theorem Er(t:At T p X)(hT:T.length<=100000)(hr:X.length=r)(ew:h a=U (.aK 9<|bZ<|kA T p))(k: ∀h',h' a=U (.aK 9<|bZ<|kA T<|p+r)->Fr h h' [a]->Q (.int<|be X) h'):al I (d+1) 76 [.ref a,.int r] h Q:=
 have tl:p+r<=T.length:=hr▸t.le
 have rl: ∀{n:Nat},n<=T.length->ir n:=λl=>⟨az dd<|du _,az (bS.mpr<|ak l hT) dd⟩
 b_ (n:=1) (vs:=[.ref 0 a,.int r .no]) [] [.n,.f,.s (Option V) (λ_=>True) λg x=>(.next,s76 a r (p+r:Nat) (be X) x,g)] (Hd.of (g:=[(a,eO T p)])<|Fa.is ew bj (dH<|c5 tI dX) Fa.nl) (h_ rfl<|bL tI aY)
  (.c (ak hT dd) (.c (fF.mpr<|bS.mpr tl) (.c (oT (λx _=>bG rfl<|aT tI<|aT tI<|aT tI<|bJ bk) (λ_ _=>G.le_refl _) λh1 P D q=>kq (iY (ay (cJ (ap rfl (.eN (D.am 0 a _ rfl) rfl (ay (ap rfl (bh (.T5 (rl<|ak (cg _ _) tl) (rl (n:=p+r) tl) (by
   rw[show((p:Int)+r -p).toNat=X.length by rw[hr,iu,mn];rfl]
   exact am6 hT (D.am 0 a _ rfl) rfl X p 0 Y t λx=>(e6 x).subst (motive:=λy=>P .next [U<|.ref a,U<|.int r,U<|.int (p+r:Nat),U<|.int<|be X,y] h1)<|q x h1 tI D)))))))))))<|.d λx _ h' D=>k h' (D.am 0 a _ rfl) D.f)))
def sg(X:List Int):Int:=if 128*256^((X.length:Int) -1).toNat<=be X then be X -2*(128*256^((X.length:Int) -1).toNat) else be X
set_option smartUnfolding false in
theorem Ka(t:At T p X)(hT:T.length<=100000)(hr:X.length=r)(r1:1<=r)(b:r<=4)(ew:h a=U (.aK 9<|bZ<|kA T p))(k: ∀h',h' a=U (.aK 9<|bZ<|kA T<|p+r)->Fr h h' [a]->Q (.int<|sg X) h'):al I (d+2) 77 [.ref a,.int r] h Q:=by
 unfold sg at k
 rw[hr] at k
 refine b_ (n:=2) (vs:=[.ref 0 a,.int r<|.b 1 4]) [76] [.d (.int (be X) .no) [(0,eO T<|p+r)]] (Hd.of (g:=[(a,eO T p)])<|Fa.is ew bj (dH<|c5 tI dX) Fa.nl) (h_ rfl<|cD (bS.mpr r1) (bS.mpr b) aY)
  (.c ⟨tI,λh Q D k=>Er (d:=d) t hT hr (D.am 0 a _ rfl) λh' e f=>k h'<|D.go (u:=[(0,eO T<|p+r)]) f<|dj rfl tI e (lJ<|dH<|c5 tI dX) d8⟩<|.c (λc h' D=> ?_)<|.d λc h' D=> ?_)
 ·rw[aM c] at k;exact k h' (D.am 0 a _ rfl) D.f
 ·rw[aE c] at k;exact k h' (D.am 0 a _ rfl) D.f
theorem Ur(t:At T p X):cu T p (p+X.length)=X:=t.elim λA w=>w.elim λB w=>by
 unfold cu
 rw[w.1,<-w.2,<-aC,<-aX,aQ5,aQ6]
set_option smartUnfolding false in
theorem Tj(t:At T p X)(hT:T.length<=100000)(hr:X.length=r)(ew:h a=U (.aK 9<|bZ<|kA T p))(k: ∀h',h' a=U (.aK 9<|bZ<|kA T<|p+r)->Fr h h' [a]->Q (.a6 X) h'):al I (d+1) 78 [.ref a,.int r] h Q:=
 have tl:p+r<=T.length:=hr▸t.le
 b_ (n:=1) (vs:=[.ref 0 a,.int r .no]) [] [.n,.f,.n,.d (.op<|.a6 X) []] (Hd.of (g:=[(a,eO T p)])<|Fa.is ew bj (dH<|c5 tI dX) Fa.nl) (h_ rfl<|bL tI aY)
  (.c (ak hT dd) (.c (fF.mpr<|bS.mpr tl) (.c ⟨tI,λh1 Q D k=>qn (cJ (ap rfl (.eN (D.am 0 a _ rfl) rfl (cJ (ap rfl (.eN (D.am 0 a _ rfl) rfl (ap rfl (.Jc (ak hT dd) (du p) (du<|p+r) (by
   rw[show((p:Int)).toNat=p from rfl,show((p:Int)+(r:Int)).toNat=p+r from rfl,GC<|ak (cg p r) tl,GC tl,<-hr,Ur t]
   exact k h1 D)))))))))⟩<|.d λh' D=>k h' (D.am 0 a _ rfl) D.f)))
end
theorem au9(n a b:Int)(ha:0 <a):a*(n/a% b)+n% a=n%(a*b):=by
 have h1:=GF n a
 have h2:=GF (n/a) b
 have h3:=GF n (a*b)
 rw[show n/(a*b)=n/a/b from(sR<|eR ha).symm] at h3
 rw[<-h2,qT,<-qS] at h1
 exact Int.add_left_cancel ((gp ..).symm.trans<|h1.trans h3.symm)
theorem aa8 n: ∀r a,CW a (aO n r)=256^r*a+n% 256^r:=λr=>by
 induction r with
 |zero=>exact λa=>by show a=1*a+n% 1;rw[aS7,Int.emod_one,eZ]
 |succ r ih=>exact λa=>(ih _).trans (by
   rw[aS8,<-au9 n (256^r) 256<|Int.pow_pos dd,qT,<-qS,gp])
theorem I5 n r:be (aO n r)=n% 256^r:=(aa8 n r 0).trans (by rw[Q8,qR])
theorem vz(h:0<=n)(h1:n <256^r):be (aO n r)=n:=(I5 n r).trans (xl h h1)
theorem ym(h: -(128*256^r)<=n)(h1:n <128*256^r):sg (aO n<|r+1)=n:=by
 unfold sg
 rw[cH,show(((r+1:Nat):Int) -1).toNat=r by rw[show((r+1:Nat):Int) -1=r from mn r 1];rfl,I5,aS8,show(256:Int) ^r*256=2*(128*256^r) by rw[<-qS,Int.mul_comm];rfl]
 generalize(128:Int)*256^r=m at h h1
 by_cases c:0<=n
 ·rw[xl c<|jB h1<|by rw[Int.two_mul];exact GG<|az c<|eR h1,aE<|n3.mpr h1]
 ·have e:n%(2*m)=n+2*m:=by
   rw[<-Int.add_emod_right]
   exact xl (by lia) (by lia)
  rw[e,aM (by lia),mn]
theorem ZA(h: -2147483648<=s)(h1:s <2147483648): ∃r,bF s=r+1/\r<=3/\ -(128*256^r)<=s/\s <128*256^r:=by
 unfold bF
 split
 ·split
  ·split
   ·exact⟨3,rfl,dd,h,h1⟩
   ·exact⟨2,rfl,dd,(by lia:(-8388608)<=s),(by lia:s <(8388608))⟩
  ·exact⟨1,rfl,dd,(by lia:(-32768)<=s),(by lia:s <(32768))⟩
 ·exact⟨0,rfl,dd,(by lia:(-128)<=s),(by lia:s <(128))⟩
structure Wt.ok(W:Wt):Prop where
 M:W.M.ok
 s0: ∀n,0 <W.s n
 s1: ∀n,W.s n<=30100000
abbrev k5(W:Wt):V:= .fd [(1,W.v 1),(2,W.v 2)]
def kC(W:Wt)(n:Int):V:= .aj [.int W.M.ck,.int<|W.s n,.int W.M.de,.int 0,.a6 [102,(96+n.toNat:Nat)]]
section
variable{g:G}
theorem uo(D:Hd hb B g h)(e:ah g i=U (a,eO T p))(f:Fr h h' [a])(w:h' a=U (.aK 9<|bZ<|kA T<|p+r)):Hd hb B (d9 g [(i,eO T<|p+r)]) h':=D.go (by unfold jm;rw[kK,e];exact f) (dj e tI w (lJ<|dH<|c5 tI dX) d8)
theorem ii(e:ah g i=U (a,eO T p))(t:At T p X)(hT:T.length<=100000)(hr:X.length=r)(ev:be X=v)(ov:aN g<|.int v b):il d hb B (m+1) 76 [.ref i a,.int r j] g (.int v b) [(i,eO T<|p+r)]:=
 ⟨ov,λh Q D k=>Er t hT hr (D.am i a _ e) λh' w f=>by have k:=k h' (uo D e f w);rw[ev];exact k⟩
theorem lO(e:ah g i=U (a,eO T p))(t:At T p X)(hT:T.length<=100000)(hr:X.length=r)(r1:1<=r)(c:r<=4)(ev:sg X=v)(ov:aN g<|.int v b):il d hb B (m+2) 77 [.ref i a,.int r j] g (.int v b) [(i,eO T<|p+r)]:=
 ⟨ov,λh Q D k=>Ka t hT hr r1 c (D.am i a _ e) λh' w f=>by have k:=k h' (uo D e f w);rw[ev];exact k⟩
theorem DI(e:ah g i=U (a,eO T p))(t:At T p X)(hT:T.length<=100000)(hr:X.length=r):il d hb B (m+1) 78 [.ref i a,.int r j] g (.op<|.a6 X) [(i,eO T<|p+r)]:=
 ⟨tI,λh Q D k=>Tj t hT hr (D.am i a _ e) λh' w f=>k h'<|uo D e f w⟩
end
theorem IP{W:Wt}(n1:1<=n)(n2:n<=2):bu [(1,W.v 1),(2,W.v 2)] n=U (W.v n):=by
 rcases show n=1\/n=2 by lia with rfl|rfl <;>rfl
section
abbrev uS(T:List Int)(p:Nat):List<|Nat×SO:=[(0,eO T p)]
theorem aB0{ρ:L}{b:Nat}(b1:b<=255)(f:ah ρ 7=U (U<|.int 0))(e:ah ρ 9=U (U<|.a6 [102,(b:Int)]))(c:ah ρ 10=U (U<|.fz a 1 j))(g:bc j 4=U (.str ⟨#[102,b]⟩))(k:aZ I C Hh ρ h P):aZ I C J6 ρ h P:=
 (iM<|iS<|eJ<|ay<|qn<|ap e<|ap f<|bl<|.al6 (l:=[102,(b)]) (dd:2<=1000000) dd<|.WK (l:=[102,(b)]) (dd:2<=1000000)<|kx<|z2<|cJ<|ap c<|.iA g<|.xN ⟨(dd:2<=1000000),jr ⟨tI,nG<|eJ<|ay<|ap rfl<|.vM ⟨tI,nG<|eJ<|ay<|ap rfl<|.vM ⟨tI,.Ht (l:=[.int<|102,.int b]) rfl<|gk id<|f_ k⟩⟩⟩⟩)
end
section
theorem At.dA{G:Prop}(a:At T p<|X++Yqv)(hr:X.length=r)(k:At T p X->At T (p+r) Yqv->G):G:=k a.gT.1 (hr▸a.gT.2)
noncomputable abbrev JJ(n:Int):List Int:=[102,(96+n.toNat:Nat)]
abbrev YS(W:Wt)(n:Int)(T:List Int)(p:Nat):List bI:=[.d (.int n<|.b 1 2)<|uS T<|p+1,.d (.int W.M.ck<|.b 0 65535)<|uS T<|p+1+4,.d (.int (W.s n)<|.b 1 30100000)<|uS T<|p+1+4+4,.d (.int W.M.de<|.b 327680 917519)<|uS T<|p+1+4+4+4,.d (aL 0)<|uS T<|p+1+4+4+4+1,.d (aL 2)<|uS T<|p+1+4+4+4+1+1,.d (.op<|.a6<|JJ n)<|uS T<|p+1+4+4+4+1+1+2,.v<|.op<|W.v n,.f,.f]
set_option smartUnfolding false in
theorem Nf(ok:W.ok)(n1:1<=n)(n2:n<=2)(t:At T p<|aO n 1++(aO W.M.ck 4++(aO (W.s n) 4++(aO W.M.de 4++([0]++([2]++JJ n))))))(hT:T.length<=100000)(ew:h a=U (.aK 9<|bZ<|kA T p))(k: ∀h',h' a=U (.aK 9<|bZ<|kA T<|p+17)->Fr h h' [a]->Q (.aj [.int n,kC W n]) h'):al I (d+3) 83 [.ref a,.int 243,k5 W] h Q:=by
 have ck1:W.M.ck <256^4:=AR ok.M.c1 dd
 have s1:W.s n <256^4:=g7 (ok.s1 n) dd
 have d1:W.M.de <256^4:=g7 ok.M.d1 dd
 refine t.dA (cH _ 1) λt1 t=>t.dA (cH _ 4) λt2 t=>t.dA (cH _ 4) λt3 t=>t.dA (cH _ 4) λt4 t=>t.dA rfl λc t=>t.dA rfl λe b=> ?_
 refine e_ (fn:=Mp) rfl rfl (jU (ρ:=[U<|.ref 0 a,U<|aL 243,U<|.op<|k5 W,Y,Y,Y,Y,Y,Y,Y,Y]) 10 [76,78] (YS W n T p) (Hd.of (g:=[(a,eO T p)])<|Fa.is ew bj (dH<|c5 tI dX) Fa.nl) (bG rfl<|gx<|aB<|aD<|aD<|aD<|aD<|aD<|aD<|aD<|aD bk)
  (.c ?_<|.c ?_<|.c ?_<|.c ?_<|.c ?_<|.c ?_<|.c ?_<|.c ?_<|.c ?_<|.c ?_<|.d ?_))
 ·exact ii rfl t1 hT (cH _ 1) (vz (az dd n1)<|g7 n2 dd) ⟨n1,n2⟩
 ·exact ii rfl t2 hT (cH _ 4) (vz ok.M.c0 ck1) ⟨ok.M.c0,iO ok.M.c1⟩
 ·exact ii rfl t3 hT (cH _ 4) (vz (eR<|ok.s0 n) s1) ⟨ok.s0 n,ok.s1 n⟩
 ·exact ii rfl t4 hT (cH _ 4) (vz (az dd ok.M.d0) d1) ⟨ok.M.d0,ok.M.d1⟩
 ·exact ii rfl c hT rfl rfl ⟨aU _,aU _⟩
 ·exact ii rfl e hT rfl rfl ⟨aU _,aU _⟩
 ·exact DI rfl b hT rfl
 ·exact⟨sr<|IP n1 n2,tI⟩
 ·exact λq=>q rfl
 ·exact λq=>q rfl
 ·exact λh' D _=>aB0 (ak (eG (uV.mpr n2) 96) dd) rfl rfl rfl rfl (bz<|mH<|mU<|ay<|ap rfl<|ay<|mU<|ay<|ap rfl<|ay<|ap rfl<|ay<|ap rfl<|ay<|ap rfl<|ay<|ap rfl ⟨h',H.le_refl _,k h' (D.am 0 a _ rfl) D.f⟩)
end
structure oM where
 h:Int
 v:Int
 fn:Int
 cC:List V
def cw(W:Wt)(fn c:Int):Int:=(iV (W.f fn) c).1
noncomputable def o8(W:Wt)(S:oM):bm->oM
 |.mv s _=>⟨S.h+s,S.v+0,S.fn,S.cC⟩
 |.dn s=>⟨S.h+0,S.v+s,S.fn,S.cC⟩
 |.fd _=>S
 |.fn n=>⟨S.h,S.v,n,S.cC⟩
 |.ch c=>⟨S.h+cw W S.fn c,S.v+0,S.fn,S.cC++[.aj [.int 0,.int S.h,.int S.v,.int S.fn,.int c]]⟩
noncomputable def bT(W:Wt):List bm->oM
 |[]=>⟨0,0,-1,[]⟩
 |c::R=>o8 W (bT W R) c
noncomputable def eg:List bm->List Int
 |[]=>[]
 |.fd n::R=>eg R++[n]
 |_::R=>eg R
def nb(i:Int):Prop:= ¬2147483647 <(i.natAbs:Int)
def hE(W:Wt)(R:List bm):bm->Prop
 |.mv s _=>nb ((bT W R).h+s)/\nb ((bT W R).v+0)
 |.dn s=>nb ((bT W R).h+0)/\nb ((bT W R).v+s)
 |.fd n=>(1<=n/\n<=2)/\n∉eg R
 |.fn n=>(1<=n/\n<=2)/\n∈eg R
 |.ch c=>(1<=(bT W R).fn/\(bT W R).fn<=2)/\(W.f (bT W R).fn).dB c/\nb ((bT W R).h+cw W (bT W R).fn c)/\nb ((bT W R).v+0)
def k9(W:Wt):List bm->Prop
 |[]=>True
 |c::R=>hE W R c/\k9 W R
def lA:bm->Int
 |.mv s k=>143+k.rm s+k.dk -1
 |.dn s=>157+bF s -1
 |.fd _=>243
 |.fn n=>171+n
 |.ch c=>c
def nu(W:Wt):bm->List Int
 |.mv s k=>aO s (k.rm s)
 |.dn s=>aO s (bF s)
 |.fd n=>aO n 1++(aO W.M.ck 4++(aO (W.s n) 4++(aO W.M.de 4++[0,2,102,((96+n.toNat:Nat):Int)])))
 |.fn _=>[]
 |.ch _=>[]
theorem aP5 W: ∀c,h7 W c=lA c::nu W c
 |.mv _ _|.dn _|.fd _|.fn _|.ch _=>rfl
def dZ:List bm->Int
 |[]=>140
 |c::_=>lA c
noncomputable def d3(W:Wt):List bm->List Int
 |[]=>[]
 |c::L=>nu W c++(dZ L::d3 W L)
noncomputable def ny(W:Wt):List bm->List Int
 |[]=>[]
 |c::L=>h7 W c++ny W L
theorem Dv W: ∀L,ny W L++[140]=dZ L::d3 W L
 |[]=>rfl
 |c::L=>by show h7 W c++ny W L++[140]=lA c::(nu W c++(dZ L::d3 W L));rw[aX,Dv W L,aP5];rfl
theorem PF W: ∀R,aH W R=ny W R.reverse:=λR=>by
 have a: ∀A B,ny W (A++B)=ny W A++ny W B:=λA B=>by
  induction A with
  |nil=>rfl
  |cons c A ih=>show h7 W c++ny W (A++B)=h7 W c++ny W A++ny W B;rw[ih,aX]
 induction R with
 |nil=>rfl
 |cons c R ih=>rw[pv,a,<-ih];show aH W R++h7 W c=aH W R++(h7 W c++[]);rw[c8]
abbrev Aw(S:oM)(w x:Int)(k:Nat)(rw:ai):List<|Nat×SV:=[(38,.int S.h .no),(39,.int S.v .no),(48,.int w .no),(49,.int x .no),(50,aL 0),(51,aL 0),(16,.int S.fn .no),(52,.fl []),(42,aL 0),(35,.ref k rw)]
structure Ar where
 st:ai
 ps:ai
 rw:ai
 kn:ai
abbrev Gi(a:Ar)(T:List Int)(p:Nat)(S:oM)(w x:Int)(K:List<|Int×V):G:=[(a.st,eO T p),(a.kn,.dict K),(a.ps,.aK 10<|Aw S w x 3 a.rw),(a.rw,.list S.cC)]
def eM(W:Wt)(D:List Int):List<|Int×V:=D.map λn=>(n,kC W n)
abbrev gR(W:Wt)(a:Ar)(T:List Int)(p:Nat)(R:List bm):G:=Gi a T p (bT W R) (dM ae R) (dM aa R) (eM W<|eg R)
abbrev jz(W:Wt)(a:Ar)(mL co:SV)(o:SV):SL:=[U<|.ref 0 a.st,U mL,U<|.ref 1 a.kn,U<|.op<|k5 W,U co,U<|.ref 2 a.ps,U o]
theorem nO{g:G}(e0: ∃x,ah g 0=U (a.st,x))(e1: ∃x,ah g 2=U (a.ps,x))(e3: ∃x,ah g 1=U (a.kn,x))(b:aN g o):a8 g<|jz W a (.op h) (.op j) o:=aT e0 (aB<|aT e3<|aB<|aB<|aT e1<|aT b bk)
noncomputable def FA:bm->Nat
 |.mv s k=>k.rm s
 |.dn s=>bF s
 |.fd _=>17
 |.fn _=>0
 |.ch _=>0
section
variable{a:Ar}{R L:List bm}
abbrev lq(d m:Nat)(ρ:c6.L)(h:H)(P:Fl->c6.L->H->Prop):Prop:=iZ (λρ h b F=>(ao I (al I<|d+5) (.eW .ne (.x 6)<|.g 70) ρ).t h b F) (λρ h Q=>aZ I (al I<|d+5) K_ ρ h Q) m ρ h P
abbrev nM(d m:Nat)(hb:H)(B:List ai)(W:Wt)(a:Ar)(T:List Int)(p:Nat)(c:bm)(R L:List bm)(mL co:V)(P:Fl->c6.L->H->Prop):Prop:= ∀h',Hd hb B (gR W a T (p+FA c+1)<|c::R) h'->lq d m (aq<|jz W a (.op mL) (.op co)<|.int (dZ L) .no) h' P
abbrev u0(T:List Int)(p:Nat):List<|Nat×SO:=[(0,eO T p)]
theorem At.mN{T X Yqv}{p r}{y}{G:Prop}(t:At T p<|X++(y::Yqv))(hr:X.length=r)(k:At T p X->At T (p+r) [y]->G):G:=k t.gT.1 (hr▸(At.gT t.gT.2).1)
theorem yE(y:Int):be [y]=y:=by show 256*0+y=y;rw[Q8,qR]
theorem oL{g:G}{n r}{y}(e:ah g 0=U (a.st,eO T<|p+r))(t:At T (p+r) [y])(hT:T.length<=100000):il d hb B (n+1) 76 [.ref 0 a.st,aL 1] g (.int y .no)<|u0 T<|p+r+1:=ii e t hT rfl (yE y) tI
theorem yl{g:G}{n}{s e:Int}{b}(f:ah g 0=U (a.st,eO T p))(t:At T p<|aO s<|bF s)(hT:T.length<=100000)(hs: -2147483648<=s/\s <2147483648)(c:e=(bF s:Nat)):il d hb B (n+2) 77 [.ref 0 a.st,.int e b] g (.int s .no)<|u0 T<|p+bF s:=by
 rw[c]
 refine lO f t hT (cH _ _) (k6 s).1 (k6 s).2 ?_ tI
 obtain⟨r,e1,_,h1,h2⟩:=ZA hs.1 hs.2
 rw[e1];exact ym h1 h2
set_option smartUnfolding false in
theorem al2{s}(D:Hd hb B (gR W a T p R) h)(t:At T p<|aO s (bF s)++(dZ L::d3 W L))(hT:T.length<=100000)(ok:hE W R<|.mv s .p)(hs: -2147483648<=s/\s <2147483648)(k:nM d m hb B W a T p (.mv s .p) R L j l P):lq d (m+1) (aq<|jz W a (.op j) (.op l)<|.int (lA<|.mv s .p)<|.b 143 146) h P:=
 have ob:=by show(143:Int)<=143+bF s+0 -1/\(143:Int)+bF s+0 -1<=146;have:=k6 s;lia
 t.mN (cH s<|bF s) λt1 t2=>fO [76,77,83] [.d (.int s .no)<|u0 T<|p+bF s,.f,.f,.d (.int (dZ L) .no)<|u0 T<|p+bF s+1] D (nO ⟨_,rfl⟩ ⟨_,rfl⟩ ⟨_,rfl⟩ ob)
  (.c (yl rfl t1 hT hs<|by show(143:Int)+bF s+0 -1 -143+1=_;lia)<|.b (.d ok.1)<|.b (.d ok.2)<|.c (oL rfl t2 hT)<|.d λh' D _=>⟨h',H.le_refl _,k h' D⟩)
set_option smartUnfolding false in
theorem S0{s}(D:Hd hb B (gR W a T p R) h)(t:At T p<|aO s (bF s)++(dZ L::d3 W L))(hT:T.length<=100000)(ok:hE W R<|.mv s .p)(hs: -2147483648<=s/\s <2147483648)(k:nM d m hb B W a T p (.mv s<|.r ae ae) R L j l P):lq d (m+1) (aq<|jz W a (.op j) (.op l)<|.int (lA<|.mv s<|.r ae ae)<|.b 148 151) h P:=
 have ob:=by show(148:Int)<=143+bF s+5 -1/\(143:Int)+bF s+5 -1<=151;have:=k6 s;lia
 t.mN (cH s<|bF s) λt1 t2=>fO [76,77,83] [.d (.int s .no)<|u0 T<|p+bF s,.f,.f,.d (.int (dZ L) .no)<|u0 T<|p+bF s+1] D (nO ⟨_,rfl⟩ ⟨_,rfl⟩ ⟨_,rfl⟩ ob)
  (.c (yl rfl t1 hT hs<|by show(143:Int)+bF s+5 -1 -143 -4=_;lia)<|.b (.d ok.1)<|.b (.d ok.2)<|.c (oL rfl t2 hT)<|.d λh' D _=>⟨h',H.le_refl _,k h' D⟩)
set_option smartUnfolding false in
theorem aN9{s}(D:Hd hb B (gR W a T p R) h)(t:At T p<|aO s (bF s)++(dZ L::d3 W L))(hT:T.length<=100000)(ok:hE W R<|.mv s .p)(hs: -2147483648<=s/\s <2147483648)(k:nM d m hb B W a T p (.mv s<|.r aa ae) R L j l P):lq d (m+1) (aq<|jz W a (.op j) (.op l)<|.int (lA<|.mv s<|.r aa ae)<|.b 153 156) h P:=
 have ob:=by show(153:Int)<=143+bF s+10 -1/\(143:Int)+bF s+10 -1<=156;have:=k6 s;lia
 t.mN (cH s<|bF s) λt1 t2=>fO [76,77,83] [.d (.int s .no)<|u0 T<|p+bF s,.f,.f,.d (.int (dZ L) .no)<|u0 T<|p+bF s+1] D (nO ⟨_,rfl⟩ ⟨_,rfl⟩ ⟨_,rfl⟩ ob)
  (.c (yl rfl t1 hT hs<|by show(143:Int)+bF s+10 -1 -143 -9=_;lia)<|.b (.d ok.1)<|.b (.d ok.2)<|.c (oL rfl t2 hT)<|.d λh' D _=>⟨h',H.le_refl _,k h' D⟩)
set_option smartUnfolding false in
theorem Ug(D:Hd hb B (gR W a T p R) h)(t:At T p<|dZ L::d3 W L)(hT:T.length<=100000)(ok:hE W R<|.mv (dM ae R) .p)(k:nM d m hb B W a T p (.mv (dM ae R)<|.r ae aa) R L j l P):lq d (m+1) (aq<|jz W a (.op j) (.op l)<|.int (lA<|.mv (dM ae R)<|.r ae aa)<|.b 147 147) h P:=
 have ob:=(dd:(147:Int)<=147/\(147:Int)<=147)
 At.mN (X:=[]) t rfl λ_ t2=>fO [76,77,83] [.f,.f,.d (.int (dZ L) .no)<|u0 T<|p+1] D (nO ⟨_,rfl⟩ ⟨_,rfl⟩ ⟨_,rfl⟩ ob)
  (.b (.d ok.1)<|.b (.d ok.2)<|.c (oL rfl t2 hT)<|.d λh' D _=>⟨h',H.le_refl _,k h' D⟩)
set_option smartUnfolding false in
theorem Yx(D:Hd hb B (gR W a T p R) h)(t:At T p<|dZ L::d3 W L)(hT:T.length<=100000)(ok:hE W R<|.mv (dM aa R) .p)(k:nM d m hb B W a T p (.mv (dM aa R)<|.r aa aa) R L j l P):lq d (m+1) (aq<|jz W a (.op j) (.op l)<|.int (lA<|.mv (dM aa R)<|.r aa aa)<|.b 152 152) h P:=
 have ob:=(dd:(152:Int)<=152/\(152:Int)<=152)
 At.mN (X:=[]) t rfl λ_ t2=>fO [76,77,83] [.f,.f,.d (.int (dZ L) .no)<|u0 T<|p+1] D (nO ⟨_,rfl⟩ ⟨_,rfl⟩ ⟨_,rfl⟩ ob)
  (.b (.d ok.1)<|.b (.d ok.2)<|.c (oL rfl t2 hT)<|.d λh' D _=>⟨h',H.le_refl _,k h' D⟩)
set_option smartUnfolding false in
theorem aH0{s}(D:Hd hb B (gR W a T p R) h)(t:At T p<|aO s (bF s)++(dZ L::d3 W L))(hT:T.length<=100000)(ok:hE W R<|.dn s)(hs: -2147483648<=s/\s <2147483648)(k:nM d m hb B W a T p (.dn s) R L j l P):lq d (m+1) (aq<|jz W a (.op j) (.op l)<|.int (lA<|.dn s)<|.b 157 160) h P:=
 have ob:=by show(157:Int)<=157+bF s -1/\(157:Int)+bF s -1<=160;have:=k6 s;lia
 t.mN (cH s<|bF s) λt1 t2=>fO [76,77,83] [.d (.int s .no)<|u0 T<|p+bF s,.f,.f,.d (.int (dZ L) .no)<|u0 T<|p+bF s+1] D (nO ⟨_,rfl⟩ ⟨_,rfl⟩ ⟨_,rfl⟩ ob)
  (.c (yl rfl t1 hT hs<|by show(157:Int)+bF s -1 -157+1=_;lia)<|.b (.d ok.1)<|.b (.d ok.2)<|.c (oL rfl t2 hT)<|.d λh' D _=>⟨h',H.le_refl _,k h' D⟩)
theorem vD{W}: ∀{D:List Int} {m:Int},(m∈D->bu (eM W D) m=U (kC W m))/\(m∉D->bu (eM W D) m=Y):=λ{D}=>by
 induction D with
 |nil=>exact⟨nofun,λ_=>rfl⟩
 |cons n D ih=>
  intro m
  show(m∈n::D->(if n=m then U (kC W n) else _)=_)/\(m∉n::D->(if n=m then U (kC W n) else _)=_)
  by_cases e:n=m
  ·rw[aM e,e];exact⟨λ_=>rfl,λh=>absurd (.head _) h⟩
  ·rw[aE e];exact⟨λh=>ih.1<|(bB.mp h).elim (λq=>absurd q.symm e) id,λh=>ih.2 λm=>h<|.tail _ m⟩
theorem Nv{W}{D}{n}(m:n∉D): ¬(bu (eM W D) n).isSome=aa:=by rw[vD.2 m];exact nofun
theorem BN{g:G}{S}{w x}{k}{rw}{o}(e:ah g k=U (rw,o)):h9 g<|Aw S w x k rw:=c5 tI (c5 tI<|c5 tI<|c5 tI<|dN<|dN<|c5 tI<|c5 tI<|dN<|ki e dX)
theorem H3{W}{n}: ∀{D:List Int},n∉D->eX (eM W D) n (kC W n)=eM W (D++[n]):=λ{D}=>by
 induction D with
 |nil=>exact λ_=>rfl
 |cons m D ih=>
  intro h
  show(if m=n then _ else(m,kC W m)::eX (eM W D) n (kC W n))=_
  rw[aE λe:m=n=>h<|e▸ .head _,ih λm=>h<|.tail _ m];rfl
set_option smartUnfolding false in
theorem Yo{n}(wok:W.ok)(D:Hd hb B (gR W a T p R) h)(t:At T p<|nu W (.fd n)++(dZ L::d3 W L))(hT:T.length<=100000)(ok:hE W R<|.fd n)(dl:(eg R).length<=90)(k:nM d m hb B W a T p (.fd n) R L j l P):lq d (m+1) (aq<|jz W a (.op j) (.op l)<|.int (lA<|.fd n)<|.b 243 243) h P:=by
 have e:=H3 (W:=W) ok.2
 have kn:(eM W<|eg R).length<=100:=by unfold eM;rw[bN];exact ak dl dd
 refine t.mN rfl λt1 t2=>fO [76,77,83] [.d (.aj [.int n .no,.op<|kC W n])<|u0 T<|p+17,.n,.f,.n,.d (.int (dZ L) .no)<|u0 T<|p+17+1] D (nO ⟨_,rfl⟩ ⟨_,rfl⟩ ⟨_,rfl⟩ (dd:(243:Int)<=243/\(243:Int)<=243))
  (.c ⟨d4<|bL tI<|bD aY,λh Q D k=>Nf wok ok.1.1 ok.1.2 t1 hT (D.am 0 a.st _ rfl) λh' w f=>k h'<|uo D rfl f w⟩<|.c ?_<|.c (cz kn)<|.c (oL rfl t2 hT)<|.d λh' D _=>⟨h',H.le_refl _,k h' ?_⟩)
 ·exact Nv ok.2
 ·exact(e▸D:Hd hb B (Gi a T (p+17+1) (bT W R) (dM ae R) (dM aa R)<|eM W<|eg R++[n]) h')
set_option smartUnfolding false in
theorem ah3{o}(D:Hd hb B (gR W a T p R) h)(t:At T p<|dZ L::d3 W L)(hT:T.length<=100000)(o1:172<=o)(o2:o<=173)(ok:o -171∈eg R)(k:nM d m hb B W a T p (.fn<|o -171) R L j l P):lq d (m+1) (aq<|jz W a (.op j) (.op l)<|.int o<|.b 172 173) h P:=
 At.mN (X:=[]) t rfl λ_ t2=>fO [76,77,83] [.n,.f,.d (.int (dZ L) .no)<|u0 T<|p+1] D (nO ⟨_,rfl⟩ ⟨_,rfl⟩ ⟨_,rfl⟩ ⟨o1,o2⟩)
  (.c (λq=>q<|by rw[vD.1 ok];rfl)<|.c (oL rfl t2 hT)<|.d λh' D _=>⟨h',H.le_refl _,k h'<|D.go (u:=[(2,.aK 10<|Aw ⟨(bT W R).h,(bT W R).v,o -171,(bT W R).cC⟩ (dM ae R) (dM aa R) 3 a.rw)]) (λ_ _ e _=>e)<|dj rfl tI ((D.am 2 a.ps _ rfl).trans rfl) (lJ<|BN rfl) d8⟩)
set_option smartUnfolding false in
theorem UZ{c}(wok:W.ok)(c1:65<=c)(b:c<=68)(D:Hd hb B (gR W a T p R) h)(t:At T p<|dZ L::d3 W L)(hT:T.length<=100000)(ok:hE W R<|.ch c)(rl:(bT W R).cC.length<=90)(k:nM d m hb B W a T p (.ch c) R L j o P):lq d (m+1) (aq<|jz W a (.op j) (.op o)<|.int c<|.b 65 68) h P:=
 v4 ok.2.1 λy l e ew _=>by
  have ec:cw W (bT W R).fn c=a9 l.1 (W.f (bT W R).fn).sz:=aA (·.1) ew
  have ok:=ok.2.2
  rw[ec] at ok
  refine At.mN (X:=[]) t rfl λ_ t2=>fO [76,77,83] [.v<|.op<|W.v (bT W R).fn,.n,.t,.n,.v<|gH (W.f (bT W R).fn).sz y l,.f,.f,.d (.int (dZ L) .no)<|u0 T<|p+1] D (nO ⟨_,rfl⟩ ⟨_,rfl⟩ ⟨_,rfl⟩ ⟨c1,b⟩)
   (.c ⟨sr<|IP ‹hE W R (.ch c)›.1.1 ‹hE W R (.ch c)›.1.2,tI⟩<|.c (Gl ‹hE W R (.ch c)›.2.1)<|.c (cz<|ak (cf rl) dd)<|.c (mY e)<|.b (.d ok.1)<|.b (.d ok.2)<|.c (oL rfl t2 hT)<|.d λh' D _=>⟨h',H.le_refl _,k h' ?_⟩)
  show Hd hb B (Gi a T (p+1) ⟨(bT W R).h+cw W (bT W R).fn c,(bT W R).v+0,(bT W R).fn,(bT W R).cC++[.aj [.int 0,.int (bT W R).h,.int (bT W R).v,.int (bT W R).fn,.int c]]⟩ (dM ae R) (dM aa R)<|eM W<|eg R) h'
  rw[ec];exact D
end
theorem Nw W: ∀c,(nu W c).length=FA c
 |.mv s k=>cH s _
 |.dn s=>cH s _
 |.fd _|.fn _|.ch _=>rfl
theorem VL(g:fC<|A++B):fC B:=by
 induction A with
 |nil=>exact g
 |cons c A ih=>exact ih (Dg g)
theorem aP1(g:k9 W<|A++B):k9 W B:=by
 induction A with
 |nil=>exact g
 |cons c A ih=>exact ih g.2
theorem Az: ∀R,(eg R).length<=R.length
 |[]=>dO _
 |.fd n::R=>by show(eg R++[n]).length<=R.length+1;rw[aC];exact cK (Az R) 1
 |.mv _ _::R|.dn _::R|.fn _::R|.ch _::R=>uR (Az R)
theorem yC W: ∀R,(bT W R).cC.length<=R.length
 |[]=>dO _
 |.ch c::R=>by show((bT W R).cC++[_]).length<=R.length+1;rw[aC];exact cK (yC W R) 1
 |.mv _ _::R|.dn _::R|.fn _::R|.fd _::R=>uR (yC W R)
section
variable{R L:List bm}
theorem ad3(wok:W.ok) c(D:Hd hb B (gR W a T p R) h)(t:At T p<|nu W c++(dZ L::d3 W L))(hT:T.length<=100000)(g:fC<|c::R)(ok:hE W R c)(rl:R.length<=90)(k:nM d m hb B W a T p c R L j l P):lq d (m+1) (aq<|jz W a (.op j) (.op l)<|.int (lA c) .no) h P:=
 have lc: ∀{c},(W.f (bT W R).fn).dB c->65<=c/\c<=68:=λp=>⟨p.1,iO<|jB p.2<|fG (bS.mpr wok.M.n4) 65⟩
 by
  rcases c with⟨s,k'⟩|_|_|n|_
  ·rcases k' with _|⟨x,_|_⟩
   ·exact al2 D t hT ok g.1 k
   ·cases x
    ·exact S0 D t hT ok g.1 k
    ·exact aN9 D t hT ok g.1 k
   ·have e:=g.2.1
    subst e
    cases x
    ·exact Ug D t hT ok k
    ·exact Yx D t hT ok k
  ·exact aH0 D t hT ok g.1 k
  ·exact Yo wok D t hT ok (ak (Az R) rl) k
  ·have e:lA (.fn n) -171=n:=(aA (· -171)<|Int.add_comm 171 n).trans (mn n 171)
   exact ah3 D t hT (fG ok.1.1 171) (fG ok.1.2 171) (by rw[e];exact ok.2) (by rw[e];exact k)
  ·exact UZ wok (lc ok.2.1).1 (lc ok.2.1).2 D t hT ok (ak (yC W R) rl) k
set_option smartUnfolding false in
theorem ae4(wok:W.ok)(hT:T.length<=100000)(g:fC l)(o:k9 W l)(tl:l.length<=90): ∀L R p h,l=L.reverse++R->Hd hb B (gR W a T p R) h->At T p (d3 W L)->(∀h',Hd hb B (gR W a T (p+(d3 W L).length) l) h'->P .next (aq<|jz W a (.op j) (.op u)<|.int 140 .no) h')->
  lq d (L.length+1) (aq<|jz W a (.op j) (.op u)<|.int (dZ L) .no) h P:=λL=>by
 induction L with
 |nil=>
  intro R p h e D _ k
  have e:=e
  subst e
  exact fO (ρ:=jz W a (.op j) (.op u)<|aL 140) [] [] D (nO ⟨_,rfl⟩ ⟨_,rfl⟩ ⟨_,rfl⟩ ⟨aU _,aU _⟩) (.d λh' D _=>k h' D)
 |cons c L ih=>
  intro R p h e D t k
  rw[pv,aX] at e
  have gs:=VL (e▸g)
  have os:=aP1 (e▸o)
  have rl:=ak (by rw[e,aC,aC,<-cG];exact uQ _ _) tl
  refine ad3 wok c D t hT gs os.1 rl λh' D'=>ih (c::R) _ h' e D' ?_ ?_
  ·rw[<-Nw W c];exact t.gT.2.tl
  ·rw[show p+FA c+1+(d3 W L).length=p+(d3 W<|c::L).length by show _=p+(nu W c++(dZ L::d3 W L)).length;rw[aC,Nw,eT,cG,cG,c4 1]]
   exact k
end
noncomputable abbrev ys:List Int:=[103,108,117,101,112,97,103,101]
abbrev EB:SV:= .aj [aL 25400000,aL 473628672,aL 1000]
abbrev dvF(kp kk:Nat)(a kn:ai)(ta b:SV):List<|Nat×SV:=[(53,EB),(54,.op<|.a6 ys),(43,.ref kp a),(37,.ref kk kn),(45,ta),(46,b),(42,aL 0)]
abbrev gB(st dv a kn:ai)(T:List Int)(p:Nat)(pages:List V)(K:List<|Int×V):G:=[(st,eO T p),(dv,.aK 11<|dvF 2 3 a kn (aL 0)<|aL 0),(a,.list pages),(kn,.dict K)]
section
variable{g:G}
theorem obF(e:ah g i=U (a,j))(lv:j.lv)(es: ∀{x},j.at x->x=U (.aK 9<|bZ<|kA T p))(t:At T p X)(hT:T.length<=100000)(hr:X.length=r)(ev:be X=v)(ov:aN g<|.int v b):il d hb B (m+1) 76 [.ref i a,.int r l] g (.int v b) [(i,eO T<|p+r)]:=
 ⟨ov,λh Q D k=>Er t hT hr (es<|D.am i a _ e) λh' w f=>by
  have k:=k h' (D.go (by unfold jm;rw[kK,e];exact f)<|dj e lv w (lJ<|dH<|c5 tI dX) d8)
  rw[ev];exact k⟩
end
noncomputable def rO:List Int->List Int
 |[]=>[]
 |n::ns=>aO n 4++rO ns
theorem TA(hT:T.length<=100000): ∀ns k p h K,(∀n∈ns,0<=n/\n<=1000)->At T p (rO ns)->h a=U (.aK 9<|bZ<|kA T p)->(∀h',Fr h h' [a]->h' a=U (.aK 9<|bZ<|kA T<|p+4*ns.length)->K (vi ns) h')->
  hO (qD (al I<|d+2) (.c<|.bool aa) (.me (.x 1) 25<|.cons (.c<|.int 4) .nil) [U<|.ref a]) bP (eh k 1 ns.length) h K:=λns=>by
 induction ns with
 |nil=>exact λk p h K _ _ e q=>⟨tI,q h (λ_ _ e _=>e) e⟩
 |cons n ns ih=>
  intro k p h K hn t e q
  have n4:=hn n (.head _)
  have t:=t
  have t1:=t.gT.1
  have t2:=cH n 4▸t.gT.2
  have c:al I (d+2) 77 [.ref a,.int 4] h λv h=>hO (qD (al I<|d+2) (.c<|.bool aa) (.me (.x 1) 25<|.cons (.c<|.int 4) .nil) [U<|.ref a]) bP (eh (k+1) 1 ns.length) h λws h=>K (v::ws) h:=Ka t1 hT (cH n 4) dd dd e λh1 e1 f1=>by
   rw[ym (az dd n4.1)<|Int.lt_of_le_of_lt n4.2 dd]
   exact ih (k+1) (p+4) h1 _ (λn m=>hn n<|.tail _ m) t2 e1 λh2 f2 e2=>q h2 (Fr.tr f1 f2) (by rw[eT,py,c4 (4*_) 4,<-cG];exact e2)
  exact⟨tI,nG<|gv<|ap rfl<|.jn e rfl rfl c⟩
section
abbrev hA(T:List Int):List bI:=[.d (aL 247)<|u0 T 1,.d (aL 2)<|u0 T 2,.d (aL 25400000)<|u0 T 6,.d (aL 473628672)<|u0 T 10,.d (aL 1000)<|u0 T 14,.d (aL 1000) [],.d (aL 8)<|u0 T 15,.d (.op<|.a6 ys)<|u0 T 23,.d (aL 139)<|u0 T 24]
abbrev yW(W:Wt)(T:List Int)(ks kd:Nat)(st dv:ai)(x6 x7:SV)(x8 x9 x10:Option SV):SL:=[U<|.op<|.a6 T,U<|.op<|k5 W,U<|.ref ks st,U EB,U<|aL 8,U<|.ref kd dv,U x6,U x7,x8,x9,x10]
set_option smartUnfolding false in
theorem ZL(hT:T.length<=100000)(t:At T 0<|[247]++([2]++([1,131,146,192]++([28,59,0,0]++([0,0,3,232]++([8]++(ys++[139])))))))(k: ∀st dv a kn h',Hd h [] (gB st dv a kn T 24 [] []) h'->aZ I (al I<|d+6) (dp 7 ui) (aq<|yW W T 0 1 st dv (aL (-1)) (aL 139) Y Y Y) h' P):
  aZ I (al I<|d+6) ui (aq [U<|.op<|.a6 T,U<|.op<|k5 W,Y,Y,Y,Y,Y,Y,Y,Y,Y]) h P:=by
 refine t.dA rfl λt1 t=>t.dA rfl λt2 t=>t.dA rfl λt3 t=>t.dA rfl λt4 t=>t.dA rfl λc t=>t.dA rfl λg t=>t.dA rfl λb f=> ?_
 refine jU 7 [76,77,78] (hA T) (Hd.of Fa.nl) (aB<|aB<|aD<|aD<|aD<|aD<|aD<|aD<|aD<|aD<|aD bk)
  (.c ?_<|.c ?_<|.c ?_<|.c ?_<|.c ?_<|.c ?_<|.c ?_<|.c ?_<|.c ?_<|.d ?_)
 ·exact λst=>obF (r:=1) rfl tI (λe=>e) t1 hT rfl rfl ⟨aU _,aU _⟩
 ·exact λst=>ii rfl t2 hT rfl rfl ⟨aU _,aU _⟩
 ·exact λst=>lO rfl t3 hT rfl dd dd dd ⟨aU _,aU _⟩
 ·exact λst=>lO rfl t4 hT rfl dd dd dd ⟨aU _,aU _⟩
 ·exact λst=>lO rfl c hT rfl dd dd dd ⟨aU _,aU _⟩
 ·exact λst=>⟨⟨aU _,aU _⟩,λh Q D k=>eJ<|ay<|ap rfl<|bh<|.IL (l:=[473628672,1000])<|k h D⟩
 ·exact λst=>ii rfl g hT rfl rfl ⟨aU _,aU _⟩
 ·exact λst=>DI rfl b hT rfl
 ·exact λst dv a kn=>ii rfl f hT rfl rfl ⟨aU _,aU _⟩
 ·exact λst dv a kn h' D _=>k st dv a kn h' D
end
noncomputable abbrev oR:List Int:=[3,0,0,0,0,0,0,0,0,0]
def xT(cC:List V):V:= .aj [.aj<|vi oR,.aj cC]
section
variable{L Tt:List bm}
abbrev uB(W:Wt)(T:List Int)(q:Nat)(Tt:List bm)(rw:ai):List<|Nat×SO:=[(0,eO T q),(3,.dict<|eM W<|eg Tt),(4,.aK 10<|Aw (bT W Tt) (dM ae Tt) (dM aa Tt) 5 rw),(5,.list (bT W Tt).cC)]
abbrev Tx(W:Wt)(st kn ps:ai):SL:=[U<|.ref 0 st,U<|aL (-1),U<|.ref 3 kn,U<|.op<|k5 W,U<|.op<|.aj<|vi oR,U<|.ref 4 ps,U<|aL 140]
abbrev hB(W:Wt)(T:List Int)(q:Nat)(Tt:List bm)(o:Int):List bI:=[.u,.n,.d (.op<|.fl<|vi oR)<|u0 T 64,.u,.d (aL (-1))<|u0 T 68,.d (.int o .no)<|u0 T 69,.s Unit (λ_=>True) λg _=>(.next,Tx W (gu g 0) (gu g 3)<|gu g 4,d9 g<|uB W T q Tt<|gu g 5),.u,.n,.n,.d (aL 248)<|u0 T<|q+1]
set_option smartUnfolding false in
theorem ar8(wok:W.ok)(hT:T.length<=100000)(g:fC Tt)(o:k9 W Tt)(tl:Tt.length<=90)(e:Tt=L.reverse)(t:At T 24<|rO oR++(aO (-1) 4++([dZ L]++(d3 W L++([248]++X)))))(s:q=69+(d3 W L).length)(D:Hd hb [] (gB p A pl z T 24 [] []) h)
  (k: ∀h' (x8 x9 x10:Option V),Hd hb [] (gB p A pl z T (q+1) [xT (bT W Tt).cC]<|eM W<|eg Tt) h'->aZ I (al I<|d+6) (dp 8 ui) (aq<|yW W T 0 1 p A (.int 23 .no) (aL 248) (x8.map .op) (x9.map .op)<|x10.map .op) h' P):aZ I (al I<|d+6) (dp 7 ui) (aq<|yW W T 0 1 p A (aL (-1)) (aL 139) Y Y Y) h P:=by
 subst s
 refine t.dA rfl λt1 t=>t.dA rfl λt2 t=>t.dA rfl λt3 t=>t.dA rfl λt4 t=>(At.gT t).1|>λc=> ?_
 refine jU 1 [76,77,78] (hB W T (69+(d3 W L).length) Tt<|dZ L) D (aB<|aB<|bG rfl<|aT (d4<|bU<|bU<|bU aY)<|gx<|bG rfl<|gx<|gx<|aD<|aD<|aD bk)
  (.c ?_<|.c ?_<|.c ?_<|.c ?_<|.c ?_<|.c ?_<|.c ?_<|.d ?_)
 ·exact⟨tI,λh Q D k=>kx<|iY<|ay<|bl<|bh<|.ma ⟨dd,dd⟩ ⟨(dd:10<=1000000),nX rfl<|jr<|TA hT oR 0 24 h _ dd t1 (D.am 0 p _ rfl) λh' f e=>k h'<|uo D rfl f e⟩⟩
 ·exact lO rfl t2 hT rfl dd dd dd ⟨aU _,aU _⟩
 ·exact λps rw=>ii rfl t3 hT rfl (yE _) tI
 ·intro ps rw
  refine oT (λ_ _=>bG rfl<|gx<|bG rfl<|aB<|aB<|bG rfl<|gx bk) (λ_ _=>i6 (uB W T (69+(d3 W L).length) Tt rw) _) λh1 P D w=>ur (ae4 (hb:=h1) (B:=[p,z,ps,rw]) (a:=⟨p,ps,rw,z⟩) wok hT g o tl L [] 69 h1 (e.trans (c8 _).symm) ?_ t4 λh' D'=>w () h' tI ?_)
  ·have n: ∀{i j:Nat} {a b:ai} {x y:SO},ah _ i=U (a,x)->ah _ j=U (b,y)->x.lv->y.lv->i≠j->a≠b:=λe e' l l' n=>D.ne e e' l l' n
   exact Hd.of (g:=gR W ⟨p,ps,rw,z⟩ T 69 []) (Fa.is ((D.am 0 p _ rfl).trans rfl) (b8 (n (i:=0) (j:=3) rfl rfl tI tI dd)<|b8 (n (i:=0) (j:=4) rfl rfl tI tI dd)<|b8 (n (i:=0) (j:=5) rfl rfl tI tI dd) bj) (dH<|c5 tI dX)<|Fa.di ((D.am 3 z _ rfl).trans rfl) (b8 (n (i:=3) (j:=4) rfl rfl tI tI dd)<|b8 (n (i:=3) (j:=5) rfl rfl tI tI dd) bj)<|Fa.is ((D.am 4 ps _ rfl).trans rfl) (b8 (n (i:=4) (j:=5) rfl rfl tI tI dd) bj) (BN rfl)<|Fa.ls ((D.am 5 rw _ rfl).trans rfl) bj Fa.nl)
  ·exact D.go (u:=uB W T (69+(d3 W L).length) Tt rw) D'.f (dj rfl tI ((D'.am 0 p _ rfl).trans rfl) (lJ<|dH<|c5 tI dX)<|dj rfl tI ((D'.am 1 z _ rfl).trans rfl) tI<|dj rfl tI ((D'.am 2 ps _ rfl).trans rfl) (lJ<|BN rfl)<|dj rfl tI ((D'.am 3 rw _ rfl).trans rfl) tI d8)
 ·exact λps rw _ _=>cz (ak (yC W Tt)<|ak tl dd)
 ·exact λps rw _ _=>(dd:1<=1000000)
 ·exact λps rw _ _=>ii rfl c hT rfl rfl ⟨aU _,aU _⟩
 ·intro ps rw _ _ h' D _
  have n: ∀{i j:Nat} {a b:ai} {x y:SO},ah _ i=U (a,x)->ah _ j=U (b,y)->x.lv->y.lv->i≠j->a≠b:=λe e' l l' n=>D.ne e e' l l' n
  exact k h' (U _) (U _) (U _) (D.tW (Fa.is ((D.am 0 p _ rfl).trans rfl) (b8 (n (i:=0) (j:=1) rfl rfl tI tI dd)<|b8 (n (i:=0) (j:=2) rfl rfl tI tI dd)<|b8 (n (i:=0) (j:=3) rfl rfl tI tI dd) bj) (dH<|c5 tI dX)<|Fa.is ((D.am 1 A _ rfl).trans rfl) (b8 (n (i:=1) (j:=2) rfl rfl tI tI dd)<|b8 (n (i:=1) (j:=3) rfl rfl tI tI dd) bj) (c5 (d4<|bU<|bU<|bU aY)<|dH<|ki rfl<|ki rfl<|dN<|dN<|dN dX)<|Fa.ls ((D.am 2 pl _ rfl).trans rfl) (b8 (n (i:=2) (j:=3) rfl rfl tI tI dd) bj)<|Fa.di ((D.am 3 z _ rfl).trans rfl) bj Fa.nl)
   (i3 ⟨0,_,rfl⟩<|i3 ⟨1,_,rfl⟩<|i3 ⟨2,_,rfl⟩<|i3 ⟨3,_,rfl⟩ FT))
end
noncomputable def ph:List Int->Int
 |[]=>249
 |_::_=>243
noncomputable def pf(W:Wt):List Int->List Int
 |[]=>[]
 |n::B=>nu W (.fd n)++(ph B::pf W B)
theorem H2 W: ∀l,nL W l++[249]=ph l::pf W l
 |[]=>rfl
 |n::l=>by show ni (W.f n) (96+n.toNat)++nL W l++[249]=243::(nu W (.fd n)++(ph l::pf W l));rw[aX,H2 W l];rfl
theorem Ep W: ∀l,(pf W l).length=18*l.length
 |[]=>rfl
 |n::l=>by show(nu W (.fd n)++(ph l::pf W l)).length=_;rw[aC,eT,Ep W l,eT,py,c4,cG];rfl
section
abbrev Ef(W:Wt)(st kn a:ai)(T:List Int)(p:Nat)(D A:List Int):G:=[(st,eO T p),(kn,.dict<|eM W D),(a,.dict<|eM W A)]
abbrev wK(W:Wt)(st kn a:ai)(o:SV)(x y:Option V):SL:=[U<|.ref 0 st,U<|.ref 1 kn,U<|.op<|k5 W,U<|.ref 2 a,U o,x.map .op,y.map .op]
abbrev aE9(d m:Nat)(ρ:c6.L)(h:H)(P:Fl->c6.L->H->Prop):Prop:=iZ (λρ h a F=>(ao I (al I<|d+4) (.eW .ne (.x 4)<|.g 72) ρ).t h a F) (λρ h Q=>aZ I (al I<|d+4) Jr ρ h Q) m ρ h P
theorem J2{g:G}(e0:ah g 0=U (h,a))(e1:ah g 1=U (l,b))(e2:ah g 2=U (j,c))(e:aN g o):a8 g<|wK W h l j o x y:=bG e0 (bG e1<|aB<|bG e2<|aT e<|bJ<|bJ bk)
theorem XB:[V.int k,V.int s,V.int e,V.int 0,V.a6 b]=[V.int k,V.int s,V.int e,V.int 0,V.a6 b]/\[V.int k,V.int s,V.int e,V.int 0,V.a6 b].all (fR 7)=aa:=⟨rfl,rfl⟩
set_option smartUnfolding false in
theorem am2(wok:W.ok)(hT:T.length<=100000)(hD: ∀n∈D,1<=n/\n<=2): ∀L A p x y h,(A++L).Nodup->(∀n∈A++L,n∈D)->(A++L).length<=90->Hd hb B (Ef W a j l T p D A) h->At T p (pf W L)->(∀x y h',Hd hb B (Ef W a j l T (p+18*L.length) D<|A++L) h'->P .next (aq<|wK W a j l (.int 249 .no) x y) h')->
  aE9 d (L.length+1) (aq<|wK W a j l (.int (ph L) .no) x y) h P:=λL=>by
 induction L with
 |nil=>
  intro A p x y h _ _ _ D' _ k
  rw[c8] at k
  exact fO (ρ:=wK W a j l (aL 249) x y) [] [] D' (J2 rfl rfl rfl ⟨aU _,aU _⟩) (.d λh' D _=>k x y h' D)
 |cons n L ih=>
  intro A p x y h nd m c D' t k
  have g:=λi=>(AV.mp nd).2.2 n i n (.head _) rfl
  have b:=m n (GJ _<|.head _)
  have e:=H3 (W:=W) g
  have ea:A++n::L=A++[n]++L:=(aX A [n] L).symm
  have kl:(eM W A).length<=100:=by unfold eM;rw[bN];exact ak (ak (cg _ _)<|by rw[<-aC];exact c) (dd:90<=100)
  rw[ea] at nd m c k
  refine t.mN rfl λt1 t2=>fO (ρ:=wK W a j l (aL 243) x y) [76,77,83] [.d (.aj [.int n .no,.op<|kC W n])<|u0 T<|p+17,.n,.f,.v<|.op<|kC W n,.n,.d (.int (ph L) .no)<|u0 T<|p+17+1] D' (J2 rfl rfl rfl ⟨aU _,aU _⟩)
   (.c ⟨d4<|bL tI<|bD aY,λh Q D k=>Nf wok (hD n b).1 (hD n b).2 t1 hT (D.am 0 a _ rfl) λh' w f=>k h'<|uo D rfl f w⟩<|.c (Nv g)<|.c ⟨sr<|vD.1 b,tI⟩<|.c XB<|.c (cz kl)<|.c ?_<|.d λh' o _=>⟨h',H.le_refl _,?_⟩)
  ·exact ii rfl t2 hT rfl (yE _) tI
  ·exact ih (A++[n]) (p+18) (U<|.int n) (U<|kC W n) h' nd m c (e▸o:Hd hb B [(a,eO T<|p+18),(j,.dict<|eM W D),(l,.dict<|eM W<|A++[n])] h') (At.tl (At.gT t).2) λx y h' D'=>k x y h' (by rw[eT,py,c4 (18*_) 18,<-cG];exact D')
end
theorem as4: ∀m {h:H} {K:List V->H->Prop},K [] h->hO (qD C (.eW .ne (.x 0)<|.g 73) (.x 0) []) bP (vi<|gn m 223) h K:=λm=>by
 induction m with
 |zero=>exact λk=>⟨tI,k⟩
 |succ m ih=>exact λk=>⟨tI,iS<|ap rfl<|oa rfl<|.Am<|gk (λq=>q rfl)<|ih k⟩
theorem ac7{g:G}{e:Int}(c:ah g i=U (h,eO T p))(t:At T p X)(hT:T.length<=100000)(hr:X.length=r)(a:e=r):il d hb B (m+1) 78 [.ref i h,.int e b] g (.op<|.a6 X) [(i,eO T<|p+r)]:=a▸DI c t hT hr
theorem vJ m:(gn m (223:Int)).length=m:=GK ..
section
variable{x8 x9 x10:Option V}
abbrev mi(W:Wt)(cC:List V)(D:List Int)(ta a:Int):List<|Nat×V:=bZ [(53,EB),(54,.op<|.a6 ys),(43,.op<|.fl [xT cC]),(37,.op<|.fd<|eM W D),(45,.int ta .no),(46,.int a .no),(42,aL 0)]
abbrev ak0(W:Wt)(st kn a:ai)(x y:Option V):SL:=[U<|.ref 0 st,U<|.ref 3 kn,U<|.op<|k5 W,U<|.ref 4 a,U<|.int 249 .no,x.map .op,y.map .op]
abbrev uP(W:Wt)(T:List Int)(q:Nat)(D l:List Int):List<|Nat×SO:=[(0,eO T q),(3,.dict<|eM W D),(4,.dict<|eM W l)]
abbrev hC(W:Wt)(T:List Int)(p:Nat)(ta a:Int)(D l:List Int)(m:Nat):List bI:=[.d (aL 23)<|u0 T<|p+1+4,.f,.d (aL 25400000)<|u0 T<|p+1+4+4,.d (aL 473628672)<|u0 T<|p+1+4+4+4,.d (aL 1000)<|u0 T<|p+1+4+4+4+4,.d (aL 1000) [],.d (.int ta .no)<|u0 T<|p+1+4+4+4+4+4,.d (.int a .no)<|u0 T<|p+1+4+4+4+4+4+4,.d (aL 0)<|u0 T<|p+1+4+4+4+4+4+4+2,.d (aL 1)<|u0 T<|p+1+4+4+4+4+4+4+2+2,.f,.d (.int (ph l) .no)<|u0 T<|p+1+29,
 .s (Option V×Option V) (λ_=>True) λg x=>(.next,ak0 W (gu g 0) (gu g 3) (gu g 4) x.1 x.2,d9 g<|uP W T (p+1+29+18*l.length) D l),.f,
 .d (.int p .no)<|u0 T<|p+1+29+18*l.length+4,.f,.d (aL 2)<|u0 T<|p+1+29+18*l.length+4+1,.n,.d (.op<|.a6<|gn m 223)<|u0 T<|p+1+29+18*l.length+4+1+m,.f,.d (.op<|.fl []) [],.f]
set_option smartUnfolding false in
theorem ac1(wok:W.ok)(hT:T.length<=100000)(pm:l.Perm D)(nd:D.Nodup)(hD: ∀n∈D,1<=n/\n<=2)(dl:D.length<=90)(bt: -2147483648<=ta/\ta <2147483648)(Z: -2147483648<=A/\A <2147483648)(m4:4<=m)(t:At T (p+1)<|aO 23 4++([1,131,146,192]++([28,59,0,0]++([0,0,3,232]++(aO ta 4++(aO A 4++(aO 0 2++(aO 1 2++([ph l]++(pf W l++(aO p 4++([2]++gn m 223))))))))))))
  (K:T.length=p+1+29+18*l.length+4+1+m) (Dh:Hd hb [] (gB o dv pl X T (p+1) [xT z]<|eM W D) h) (k: ∀h',H.le hb h'->Q (.fz dv 11<|mi W z D ta A) h'):aZ I (al I<|d+6) (dp 8 ui) (aq<|yW W T 0 1 o dv (.int 23 .no) (aL 248) (x8.map .op) (x9.map .op)<|x10.map .op) h<|ie Q:=by
 have p9:=ak (by rw[K];simp only[cG];exact cg _ _) hT
 have m9:m<=1000000:=ak (ak (by rw[K];exact uQ _ _) hT) dd
 refine t.dA (cH _ 4) λt1 t=>t.dA rfl λt2 t=>t.dA rfl λt3 t=>t.dA rfl λt4 t=>t.dA (cH _ 4) λt5 t=>t.dA (cH _ 4) λt6 t=>t.dA (cH _ 2) λt7 t=>t.dA (cH _ 2) λt8 t=>t.dA rfl λt9 t=>t.dA (Ep W l) λN t=>t.dA (cH _ 4) λw t=>t.dA rfl λq s=> ?_
 refine gF [76,77,78] (hC W T p ta A D l m) Dh (aB<|aB<|bG rfl<|aT (d4<|bU<|bU<|bU aY)<|gx<|bG rfl<|aT tI<|gx<|bJ<|bJ<|bJ bk)
  (.c ?_<|.c ?_<|.c ?_<|.c ?_<|.c ?_<|.c ?_<|.c ⟨rfl,rfl⟩<|.c ?_<|.c ?_<|.c ?_<|.c ?_<|.c ?_<|.c ?_<|.c ?_<|.c ?_<|.c ?_<|.c ?_<|.c ?_<|.c ?_<|.c ?_<|.c ?_<|.c ?_<|.c ?_<|.c ?_<|.c ?_<|.c ?_<|.c ?_<|.d ?_)
 ·exact lO rfl t1 hT (cH _ 4) dd dd dd ⟨aU _,aU _⟩
 ·exact λc=>c rfl
 ·exact lO rfl t2 hT rfl dd dd dd ⟨aU _,aU _⟩
 ·exact lO rfl t3 hT rfl dd dd dd ⟨aU _,aU _⟩
 ·exact lO rfl t4 hT rfl dd dd dd ⟨aU _,aU _⟩
 ·exact⟨⟨aU _,aU _⟩,λh Q D k=>eJ<|ay<|ap rfl<|bh<|.IL (l:=[473628672,1000])<|k h D⟩
 ·exact lO rfl t5 hT (cH _ 4) dd dd (ym bt.1 bt.2) tI
 ·exact lO rfl t6 hT (cH _ 4) dd dd (ym Z.1 Z.2) tI
 ·exact ii rfl t7 hT (cH _ 2) rfl ⟨aU _,aU _⟩
 ·exact ii rfl t8 hT (cH _ 2) rfl ⟨aU _,aU _⟩
 ·exact(dd:1<=1000000)
 ·exact λc=>c rfl
 ·exact λf=>ii (r:=1) rfl t9 hT rfl (yE _) tI
 ·intro f
  refine oT (λx _=>bG rfl<|bG rfl<|aB<|bG rfl<|aT tI<|bJ<|bJ bk) (λ_ _=>i6 (uP W T (p+1+29+18*l.length) D l) _) λh1 P Dd q'=>ur (am2 (hb:=h1) (B:=[o,X,f]) wok hT hD l [] (p+1+29) Y Y h1 ?_ ?_ ?_ ?_ N λx y h' D'=>q' (x,y) h' tI ?_)
  ·exact pm.nodup_iff.mpr nd
  ·exact λn i=>pm.mem_iff.mp i
  ·exact pm.length_eq▸dl
  ·have n: ∀{i j:Nat} {a b:ai} {x y:SO},ah _ i=U (a,x)->ah _ j=U (b,y)->x.lv->y.lv->i≠j->a≠b:=λe e' l l' n=>Dd.ne e e' l l' n
   exact Hd.of (g:=Ef W o X f T (p+1+29) D []) (Fa.is ((Dd.am 0 o _ rfl).trans rfl) (b8 (n (i:=0) (j:=3) rfl rfl tI tI dd)<|b8 (n (i:=0) (j:=4) rfl rfl tI tI dd) bj) (dH<|c5 tI dX)<|Fa.di ((Dd.am 3 X _ rfl).trans rfl) (b8 (n (i:=3) (j:=4) rfl rfl tI tI dd) bj)<|Fa.di ((Dd.am 4 f _ rfl).trans rfl) bj Fa.nl)
  ·exact Dd.go (u:=uP W T (p+1+29+18*l.length) D l) D'.f (dj rfl tI ((D'.am 0 o _ rfl).trans rfl) (lJ<|dH<|c5 tI dX)<|dj rfl tI ((D'.am 1 X _ rfl).trans rfl) tI<|dj rfl tI ((D'.am 2 f _ rfl).trans rfl) tI d8)
 ·exact λf x _=>cz (by unfold eM;rw[bN,pm.length_eq];exact ak dl dd)
 ·exact λf x _=>cz (by unfold eM;rw[bN];exact ak dl dd)
 ·exact λf x _ c=>c (by unfold eM;rw[bN,bN,pm.length_eq])
 ·exact λf x _=>ii rfl w hT (cH _ 4) (vz (du p)<|g7 (bS.mpr p9) dd) tI
 ·exact λf x _ c=>c (mn (p) 1).symm
 ·exact λf x _=>ii rfl q hT rfl rfl ⟨aU _,aU _⟩
 ·exact λf x _=>(ak hT dd)
 ·exact λf x _=>ac7 rfl s hT (vJ m) (by rw[K];exact Int.sub_eq_iff_eq_add.mpr<|(qU _ _).trans<|iu _ _)
 ·exact λf x _=>(ak (jC<|vJ m) m9)
 ·exact λf x _=>(fF.mpr<|bS.mpr<|ak m4<|jC (vJ m).symm)
 ·exact λf x _=>⟨tI,λh Q D k=>kx<|jM<|ap rfl<|.N8 ⟨by rw[cU,vJ m];exact m9,jr<|as4 m<|k h D⟩⟩
 ·exact λf x _ c=>c rfl
 ·exact λf x _ h' D _=>⟨h',H.le_refl _,k h'<|a7 D.f⟩
end
section
variable{R:List bm}
theorem YL n:4<=nh n:=by
 have:(0)<= -(n:Int)% 4:=pr _ dd
 exact aS9 (n6 this:(4)<=4+ -(n:Int)% 4)
abbrev DD(W:Wt)(p:Nat)(ta a:Int)(l:List Int)(m:Nat):List Int:=aO 23 4++([1,131,146,192]++([28,59,0,0]++([0,0,3,232]++(aO ta 4++(aO a 4++(aO 0 2++(aO 1 2++([ph l]++(pf W l++(aO p 4++([2]++gn m 223)))))))))))
theorem aB2 W R ta wi l: ∃m,4<=m/\tc W (eP++iJ W R) ta wi l=eP++([139]++(rO oR++(aO (-1) 4++([dZ R.reverse]++(d3 W R.reverse++([248]++DD W (eP++iJ W R).length ta wi l m)))))):=by
 refine⟨nh (uf W (eP++iJ W R) ta wi l).length,YL _,?_⟩
 have e1:iJ W R=[139]++(rO oR++(aO (-1) 4++([dZ R.reverse]++d3 W R.reverse))):=by
  unfold iJ
  rw[PF,aX,Dv];rfl
 unfold tc
 generalize nh _=m
 unfold uf oN
 have e2: ∀X,nL W l++([249]++X)=[ph l]++(pf W l++X):=λX=>by rw[<-aX,H2];rfl
 generalize(eP++iJ W R).length=p
 rw[e1]
 simp only[aX]
 rw[e2];rfl
theorem aI0(wok:W.ok)(g:fC R)(o:k9 W R)(rl:R.length<=90)(pm:l.Perm<|eg R)(nd:(eg R).Nodup)(hD: ∀n∈eg R,1<=n/\n<=2)(f: -2147483648<=j/\j <2147483648)(e: -2147483648<=a/\a <2147483648)(b:T=tc W (eP++iJ W R) j a l)(hT:T.length<=100000)
  (k: ∀h' dv,H.le h h'->Q (.fz dv 11<|mi W (bT W R).cC (eg R) j a) h'):al I (d+7) 93 [.a6 T,k5 W] h Q:=
 (aB2 W R j a l).elim λm w=>by
  have t:At T 0<|eP++([139]++(rO oR++(aO (-1) 4++([dZ R.reverse]++(d3 W R.reverse++([248]++DD W (eP++iJ W R).length j a l m)))))):=⟨[],[],by rw[c8,b];exact w.2,rfl⟩
  have ep:(eP++iJ W R).length=69+(d3 W R.reverse).length:=by
   unfold iJ
   rw[PF,aX,Dv,aC,aC,eT,show eP.length=23 from rfl,show iW.length=45 from rfl];lia
  rw[ep] at t
  have eL:T.length=69+(d3 W R.reverse).length+1+29+18*l.length+4+1+m:=by
   rw[b,w.2,ep]
   simp only[aC,cH,Ep,vJ]
   show 23+(1+(40+(4+(1+((d3 W R.reverse).length+(1+(4+(4+(4+(4+(4+(4+(2+(2+(1+(18*l.length+(4+(1+m))))))))))))))))))=_
   lia
  refine t.dA rfl λt1 c=>c.dA rfl λt2 t3=> ?_
  have t4:=t3.dA rfl λ_ t=>t.dA rfl λ_ t=>t.dA rfl λ_ t=>t.dA rfl λ_ t=>t.dA rfl λ_ t=>t
  have t0:At T 0<|eP++[139]:=(At.gT (Yqv:=rO oR++(aO (-1) 4++([dZ R.reverse]++(d3 W R.reverse++([248]++DD W (69+(d3 W R.reverse).length) j a l m))))) t).1
  exact e_ (fn:=IH) rfl rfl (ZL hT t0 λst dv i kn h1 D1=>ar8 wok hT g o rl (aS6 R).symm t3 rfl D1 λh2 x8 x9 x10 D2=>ac1 wok hT pm nd hD (ak (Az R) rl) f e w.1 t4 eL D2 λh3 l3=>k h3 dv l3)
end
section
theorem ad9: ∀c {S:oM},o8 W S (er c)=o8 W S c
 |.mv _ _|.dn _|.fd _|.fn _|.ch _=>rfl
theorem Oo: ∀R,bT W (R.map er)=bT W R:=λR=>by
 induction R with
 |nil=>rfl
 |cons c R ih=>show o8 W (bT W<|R.map er) (er c)=o8 W (bT W R) c;rw[ih,ad9]
theorem Uk{L M}(e:eg L=eg M): ∀c,eg (er c::L)=eg (c::M)
 |.mv _ _|.dn _|.fn _|.ch _=>e
 |.fd n=>aA (· ++[n]) e
theorem HD: ∀R,eg (R.map er)=eg R:=λR=>by
 induction R with
 |nil=>rfl
 |cons c R ih=>exact Uk ih c
theorem WA{L M}(e:bT W L=bT W M)(d:eg L=eg M):hE W L c=hE W M c:=by unfold hE;rw[e,d]
theorem Vp{L}: ∀c,hE W L (er c)=hE W L c
 |.mv _ _|.dn _|.fd _|.fn _|.ch _=>rfl
theorem aE2: ∀R,k9 W (R.map er)->k9 W R:=λR=>by
 induction R with
 |nil=>exact id
 |cons c R ih=>exact λo=>⟨WA (Oo R) (HD R)▸(Vp c▸o.1),ih o.2⟩
theorem tj(x:cR i):nb i:=λc=>PG x (AR dd c)
structure Iv(W:Wt)(E:List bm)(h v fn:Int)(cC:List V)(D:List Int):Prop where
 se:bT W E=⟨h,v,fn,cC⟩
 ok:k9 W E
 df:eg E=D
 nd:D.Nodup
 i2: ∀n∈D,1<=n/\n<=2
variable{E:List bm}
theorem Iv.mv(Iqv:Iv W E h v fn j D)(da:cR a)(dv:cR v):Iv W (An a h E) a v fn j D:=by
 unfold An
 by_cases e:a=h
 ·rw[aM e,e];exact Iqv
 ·rw[aE e]
  have x:h+(a -h)=a:=by rw[iu,Re]
  refine⟨?_,⟨?_,Iqv.ok⟩,Iqv.df,Iqv.nd,Iqv.i2⟩
  ·show o8 W (bT W E) _=_
   rw[Iqv.se];show oM.mk (h+(a -h)) (v+0) fn j=_
   rw[x,eZ]
  ·show nb ((bT W E).h+(a -h))/\nb ((bT W E).v+0)
   rw[Iqv.se];show nb (h+(a -h))/\nb (v+0)
   rw[x,eZ];exact⟨tj da,tj dv⟩
theorem Iv.dn(Iqv:Iv W E h v fn a D)(db:cR b)(dh:cR h):Iv W (ql b v E) h b fn a D:=by
 unfold ql
 by_cases e:b=v
 ·rw[aM e,e];exact Iqv
 ·rw[aE e]
  have x:v+(b -v)=b:=by rw[iu,Re]
  refine⟨?_,⟨?_,Iqv.ok⟩,Iqv.df,Iqv.nd,Iqv.i2⟩
  ·show o8 W (bT W E) _=_
   rw[Iqv.se];show oM.mk (h+0) (v+(b -v)) fn a=_
   rw[x,eZ]
  ·show nb ((bT W E).h+0)/\nb ((bT W E).v+(b -v))
   rw[Iqv.se];show nb (h+0)/\nb (v+(b -v))
   rw[x,eZ];exact⟨tj dh,tj db⟩
theorem Iv.fd(Iqv:Iv W E h v fn a D)(n1:1<=n/\n<=2):Iv W (qd n D E) h v fn a<|ku n D:=by
 unfold qd ku
 by_cases e:n∈D
 ·rw[aM e,aM e];exact Iqv
 ·rw[aE e,aE e]
  exact⟨Iqv.se,⟨⟨n1,Iqv.df▸e⟩,Iqv.ok⟩,aA (· ++[n]) Iqv.df,AV.mpr ⟨Iqv.nd,.cons (λ_ m=>dz m) .nil,λx m y i q=>e<|b9.mp i▸q▸m⟩,λm i=>(pB.mp i).elim (Iqv.i2 m) λi=>b9.mp i▸n1⟩
theorem ag1:n∈ku n D:=by
 unfold ku
 by_cases e:n∈D
 ·rw[aM e];exact e
 ·rw[aE e];exact GJ _ (.head _)
theorem aG5:(ku n D).length<=D.length+1:=by
 unfold ku
 split
 ·exact jj _
 ·rw[aC];exact dO _
theorem Iv.sf(Iqv:Iv W E h v fn a D)(m:n∈D):Iv W (qq n fn E) h v n a D:=by
 unfold qq
 by_cases e:n=fn
 ·rw[aM e,e];exact Iqv
 ·rw[aE e]
  refine⟨?_,⟨⟨Iqv.i2 n m,Iqv.df▸m⟩,Iqv.ok⟩,Iqv.df,Iqv.nd,Iqv.i2⟩
  show o8 W (bT W E) _=_
  rw[Iqv.se];rfl
theorem Iv.ch(Iqv:Iv W E h v fn a D)(n1:1<=fn/\fn<=2)(p:(W.f fn).dB c)(dw:cR<|h+cw W fn c)(dv:cR v):Iv W (.ch c::E) (h+cw W fn c) v fn (a++[.aj [.int 0,.int h,.int v,.int fn,.int c]]) D:=by
 refine⟨?_,⟨?_,Iqv.ok⟩,Iqv.df,Iqv.nd,Iqv.i2⟩
 ·show o8 W (bT W E) _=_
  rw[Iqv.se];show oM.mk _ (v+0) _ _=_
  rw[eZ]
 ·show(1<=(bT W E).fn/\(bT W E).fn<=2)/\(W.f (bT W E).fn).dB c/\nb ((bT W E).h+cw W (bT W E).fn c)/\nb ((bT W E).v+0)
  rw[Iqv.se]
  exact⟨n1,p,tj dw,(eZ v).symm▸tj dv⟩
theorem xD{i:Decidable p}{R}{c:bm}:(if p then R else c::R).length<=R.length+1:=by
 split
 ·exact jj _
 ·exact dO _
theorem UK:(Dn n c a b h v fn D E).length<=E.length+5:=cf (ak xD<|cf<|ak xD<|cf<|ak xD<|cf xD)
end
noncomputable def jN(bX a:Int)(q:Pp):List V:=match q.p with
 |.lt c=>[.aj [.int 0,.int a,.int bX,.int q.f.n,.int c]]
 |.kn _=>[]
noncomputable def dV(bX left:Int):Int->List Pp->List V
 |_,[]=>[]
 |n,q::qs=>jN bX (left+n) q++dV bX left (n+q.wd) qs
section
abbrev wq(W:Wt)(s:kN)(cC:List V):Prop:=Iv W s.E s.hh s.vv s.fn cC s.D
theorem Wo(o:kD W q)(l:vC h a q s t u)(Iqv:wq W s j):wq W (iH h a q s)<|j++jN h a q:=by
 obtain⟨f,x,p⟩:=q
 cases p with
 |kn w=>exact(c8 j).symm▸Iqv
 |lt c=>
  have n1:1<=f.n/\f.n<=2:=⟨o.n1,o.n2⟩
  have b:=o.f
  have e:=aA (λf=>(iV f c).1) b
  have p:=o.ok.p
  have dw:cR<|a+(iV f c).1:=l.dw
  show Iv W _ (a+(iV f c).1) _ _ _ _
  rw[e] at dw⊢
  exact((((Iqv.mv l.da l.dv).dn l.db l.da).fd n1).sf ag1).ch n1 (b▸p) dw l.db
theorem UV:(iH h a q s).E.length<=s.E.length+5:=by
 unfold iH
 cases q.p with
 |kn w=>exact cg _ _
 |lt c=>exact UK
theorem KT:(iH h a q s).D.length<=s.D.length+1:=by
 unfold iH
 cases q.p with
 |kn w=>exact jj _
 |lt c=>exact aG5
theorem aJ1(x:cR s.hh)(y:cR s.vv)(z:cR<|a+q.wd)(b:cR h):cR (iH h a q s).hh/\cR (iH h a q s).vv:=by
 unfold iH
 cases q.p with
 |kn w=>exact⟨x,y⟩
 |lt c=>exact⟨z,b⟩
theorem Y0: ∀qs n s lo b cC,(∀q∈qs,kD W q)->qm a left n qs s lo b->wq W s cC->wq W (mJ a left n qs s) (cC++dV a left n qs):=λqs=>by
 induction qs with
 |nil=>exact λn s lo b cC _ _ Iqv=>(c8 cC).symm▸Iqv
 |cons q qs ih=>
  intro n s lo b cC o r Iqv
  show wq W _ (cC++(jN a (left+n) q++dV a left (n+q.wd) qs))
  rw[<-aX]
  exact ih _ _ _ _ _ (λq m=>o q<|.tail _ m) r.2 (Wo (o q<|.head _) r.1 Iqv)
theorem UX: ∀qs n s,(mJ a left n qs s).E.length<=s.E.length+5*qs.length:=λqs=>by
 induction qs with
 |nil=>exact λn s=>dO _
 |cons q qs ih=>exact λn s=>ak (ih _ _) (by rw[eT,py,c4 (5*_) 5,<-cG];exact cK UV _)
theorem Qf{k:Nat}{n:Int}(hk:k<=16)(hl:0<=left/\left<=1000)(h1: -2100000*k<=n)(h2:n<=60000000*k):cR<|left+n:=by
 unfold cR;lia
theorem Zp(hl:0<=left/\left<=1000)(db:cR a): ∀qs (k:Nat) (n:Int) s,(∀q∈qs,q.ok)->k+qs.length<=16-> -2100000*k<=n->n<=60000000*k->cR s.hh->cR s.vv->s.D.length<=k->qm a left n qs s (45+30*k) k:=λqs=>by
 induction qs with
 |nil=>exact λk n s _ _ _ _ _ _ _=>tI
 |cons q qs ih=>
  intro k n s o hk h1 h2 dh dv dl
  rw[eT,c4 qs.length,<-cG] at hk
  have w:=(AE<|o q<|.head _).1
  have b:=ak (cg _ _) hk
  have h3: -2100000*((k+1:Nat))<=n+q.wd:=by rw[qU,qT];exact fS h1 w.1
  have h4:n+q.wd<=60000000*((k+1:Nat)):=by rw[qU,qT];exact fS h2 w.2
  have da:=Qf (lD b) hl h1 h2
  have dw:=gp left n q.wd▸Qf b hl h3 h4
  have c:=aJ1 dh dv dw db
  exact⟨⟨da,db,dh,dv,dw,ak dl<|Nat.le_trans b dd|>lD,ak (eG (ji 30<|Nat.le_of_succ_le b) 45) dd,ak (lD b) dd⟩,ih (k+1) _ _ (λq m=>o q<|.tail _ m) hk h3 h4 c.1 c.2<|Nat.le_trans KT<|Nat.succ_le_succ dl⟩
end
noncomputable abbrev nH:H:=λ_=>Y
noncomputable abbrev lV(l:Int×Int×Int):V:= .aj [.int l.1,.int l.2.1,.int l.2.2]
noncomputable abbrev rV(r:Int×Bool×Int):V:= .aj [.int r.1,.bool r.2.1,.int r.2.2]
def aW.v(M:aW):V:= .aj [.fl<|M.ls.map lV,.fl<|M.rs.map rV,.int M.ck,.int M.de]
theorem aH6: ∀{xs:List Int} {n:Nat},n <xs.length-> ∃x,x∈xs/\ah (vi xs) n=U (.int x):=λ{xs}=>by
 induction xs with
 |nil=>exact λh=>nomatch h
 |cons x xs ih=>exact λ{n}=>match n with
  |0=>λ_=>⟨x,.head _,rfl⟩
  |n+1=>λh=>(ih<|xh h).elim λy w=>⟨y,.tail _ w.1,w.2⟩
theorem yo{k:Int}(h0:0<=k)(h:k <xs.length): ∃x,x∈xs/\ah (vi xs) k.toNat=U (.int x):=aH6 (mm.mp<|by rw[Rf h0];exact h)
noncomputable abbrev aI:bI:= .c Int (λ_ _=>True) λ_ x=>(.int x .no,[])
section
set_option smartUnfolding false in
theorem Gd(hl:xs.length<=63)(h0:0<=k)(h2:k<=2)(kk: ∀c h',H.le h h'->Q (.int c) h'):al I (d+1) 101 [.fl<|vi xs,.int k] h Q:=
 b_ [] [aI] (Hd.of Fa.nl) (bD<|cD h0 h2 aY)
  (.c (cz<|by rw[cU];exact ak hl dd) (.b (.c (λc=>(yo h0<|by rw[cU] at c;exact c).elim λx w=>⟨x,tI,w.2,tI⟩)<|.d λ_ x _ h' D=>kk _ h'<|a7 D.f)
   (.c (λ_=>(yo (xs:=[667883746520804040339592396131,1000000000055096219,1000000000000658403]) h0<|g7 h2 dd).elim λx w=>⟨x,tI,w.2,tI⟩)<|.d λ_ x _ h' D=>kk _ h'<|a7 D.f)))
theorem Xp:cY.ok ⟨x% 10^90,y% 2147483629,0⟩ 0:=⟨pr _ dd,eR<|qQ _ dd,pr _ dd,iO<|qQ _ dd,aU _,aU _⟩
set_option smartUnfolding false in
theorem E1(k: ∀a b h',h a=Y->cY.ok b 0->h' a=U (cY.o b)->H.le h h'->Q (.ref a) h'):al I (d+1) 102 [.int c] h Q:=
 b_ (vs:=[.int c .no]) [] [] (Hd.of Fa.nl) (bL tI aY) (.d λa h' D=>k a ⟨_,_,0⟩ h' (D.im (k:=0) rfl nofun) (Xp) (D.am 0 a _ rfl)<|a7 D.f)
theorem az4: ∀r A x h,A.length+r.length<=1000->(∀x h',H.le h h'->P .next [U a,U<|.fl<|vi<|bs<|A++r,x] h')->
  dg (cn (al I<|d+1) (.x 2) OA) bP (vi r) [U a,U<|.fl<|vi<|bs A,x] h P:=λr=>by
 induction r with
 |nil=>exact λA x h _ k=>⟨tI,(c8 A▸k) x h<|H.le_refl h⟩
 |cons w r ih=>
  intro A x h hl k
  refine⟨tI,(e6 x).subst (motive:=λy=>cn _ _ _ _ [_,_,y] h _)<|dy [] [.n] (Hd.of Fa.nl) (aB<|aB<|bJ bk) (v:= .int w .no) tI<|.c ?_<|.d λh' D o=>⟨h',H.le_refl _,?_⟩⟩
  ·exact cZ (by rw[aC,cU,q9];exact ak (cK (ji 4<|Nat.le_trans (cg _ _) hl) 4) dd)
  ·have e:vi (bs A)++vi (oc w)=vi (bs<|A++[w]):=by rw[uc,eC];rfl
   exact e▸ih (A++[w]) (U<|.int w) h' (by rw[aC,cG,c4 [w].length];exact hl) λx h2 l2=>(aX A [w] r).symm▸k x h2 (H.le_trans (a7 D.f) l2)
end
section
theorem Mg: ∀ws,ef (bs ws)
 |[]=>Oq
 |w::r=>gg (Dk w) (Mg r)
theorem ai8(hl:a.length<=1000)(k: ∀h',H.le h h'->Q (.a6<|bs a) h'):al I (d+2) 106 [.fl<|vi a] h Q:=
 e_ (fn:=Lu) rfl rfl (j1 (wO (bh (bz (iE (jM (ap rfl (.fJ (az4 a [] Y h (by rw[j2,gK];exact hl) λx h' l=>
  bz<|mH<|eJ<|ay<|ap rfl<|bh<|.VH (Mg a) (cZ<|by rw[q9];exact ak (ji 4 hl) dd) ⟨h',H.le_refl _,k h' l⟩)))))))))
theorem E0(e:mR s=b):w*(s -s% b)/2^(20:Int).toNat=a9 w s:=by unfold a9;rw[e];rfl
set_option smartUnfolding false in
theorem ay9(sw:sP w)(s0:0 <s)(s1:s<=33554431)(k: ∀h',H.le h h'->Q (.int<|a9 w s) h'):al I (d+1) 107 [.int w,.int s] h Q:=
 b_ (vs:=[.int w .no,.int s<|.b 1 33554431]) [] [.u] (Hd.of Fa.nl) (bL tI<|cD s0 s1 aY)
  (.b (.b (.c (λ_ _=>sw)<|.d λc a h' D=>E0 ((aE<|fF.mpr c).trans<|aE<|fF.mpr a)▸k h' (a7 D.f))
   (.c (λ_ _=>sw)<|.d λc a h' D=>E0 ((aE<|fF.mpr c).trans<|aM<|n3.mp a)▸k h' (a7 D.f)))
   (.c (λ_=>sw)<|.d λc h' D=>E0 (aM<|n3.mp c)▸k h' (a7 D.f)))
end
section
variable{M:aW}
abbrev jS(rs:List<|Int×Bool×Int)(x0 x1 x3 x4 x5 x6:V)(f:ai)(x8 x9 x10 cA:Option V):SL:=[U<|.op x0,U<|.op x1,U<|.op<|.fl<|rs.map rV,U<|.op x3,U<|.op x4,U<|.op x5,U<|.op x6,U<|.ref 0 f,x8.map .op,x9.map .op,x10.map .op,cA.map .op]
theorem rU{g:G}(e:ah g 0=U (f,o)):a8 g<|jS j h x1 p x4 x5 x6 f l x9 x10 a:=aB (aB<|aB<|aB<|aB<|aB<|aB<|bG e<|bJ<|bJ<|bJ<|bJ bk)
theorem Ab(h:X.length<=300):a_<|(vi X).length+1:=cZ (ak (cf<|ak (jC<|cU X) h) dd)
theorem DL(e:v=w):vi X++[.int v]=vi (X++[w]):=by rw[eC,e];rfl
abbrev gf(f:ai)(X:List Int):G:=[(f,.list<|vi X)]
theorem rz(e:h f=U (.list<|vi X)):Hd h [f] (gf f X) h:=Hd.of (g:=gf f X) (Fa.ls e bj Fa.nl)
set_option smartUnfolding false in
theorem az1: ∀(s:List<|Int×Int×Int) (i:Nat) (X:List Int) (x8:Option V) (h:c6.H),1<=i->i+s.length<=4->X.length+s.length<=300->h f=U (.list<|vi X)->
  (∀x8 h',h' f=U (.list<|vi<|X++vK ae i s)->Fr h h' [f]->P .next (aq<|jS t j x1 p x4 x5 x6 f x8 x9 x10 a) h')->
  dg (cn (al I<|d+1) (.x 8) zQ) bP (eh i 1 s.length) (aq<|jS t j x1 p x4 x5 x6 f x8 x9 x10 a) h P:=λs=>by
 induction s with
 |nil=>exact λi X x8 h _ _ _ e k=>⟨tI,k x8 h (by show h f=U (O.list<|vi<|X++[]);rw[c8];exact e) λ_ _ e _=>e⟩
 |cons l s ih=>
  intro i X x8 h c b hl e k
  rw[eT] at b hl
  have g:=uT (ak (eG (cf<|Nat.zero_le _) i) b)
  refine⟨tI,dy [] [.n] (rz e) (rU rfl) (v:= .int i<|.b 1 3) ⟨bS.mpr c,bS.mpr g⟩<|.c (Ab<|Nat.le_trans (cg _ _) hl)<|.d λh' D o=>⟨h',H.le_refl _,?_⟩⟩
  refine ih (i+1) (X++[((i:Int)+1)*17891328+0]) (U<|.int i) h' (cf<|Nat.zero_le _) (by rw[cG,c4 1];exact b) (by rw[aC,cG,c4 [_].length];exact hl) ((D.am 0 f _ rfl).trans<|by rw[<-DL rfl];rfl) λx8 h2 e2 f2=>k x8 h2 ?_ (Fr.tr D.f f2)
  rw[aX] at e2;exact e2
theorem aC5(en:n=a.length)(hl:a.length<=4)(hx:X.length<=200)(e:h f=U (.list<|vi X))
  (k: ∀t h',h' f=U (.list<|vi<|X++vK (aW.b ⟨a,j,0,0⟩) 0 a)->Fr h h' [f]->P .next (aq<|jS j z x1 u x4 x5 x6 f t x9 x10 p) h'):
  dg (cn (al I<|d+1) (.x 8) zQ) bP (eh 0 1 n) (aq<|jS j z x1 u x4 x5 x6 f t x9 x10 p) h P:=by
 subst en
 cases a with
 |nil=>exact⟨tI,k t h (by show h f=U (O.list<|vi<|X++[]);rw[c8];exact e) λ_ _ e _=>e⟩
 |cons l a=>
  have go: ∀(y) (h1),y=(0+1)*17891328+bn (aW.b ⟨a,j,0,0⟩) 256->h1 f=U (.list<|vi X++[.int y])->Fr h h1 [f]->dg (cn (al I<|d+1) (.x 8) zQ) bP (eh 1 1 a.length) (aq<|jS j z x1 u x4 x5 x6 f (U<|.int 0) x9 x10 p) h1 P:=λy h1 b e1 f1=>
   az1 a 1 (X++[y]) (U<|.int 0) h1 (dO _) (c4 _ 1▸hl) (by rw[aC];exact ak (gM (cK hx 1)<|Nat.le_of_succ_le hl) dd) (e1.trans<|by rw[DL rfl]) λt h2 e2 f2=>k t h2 (by rw[aX,b] at e2;exact e2) (Fr.tr f1 f2)
  have l3:=Ab (ak hx (dd:200<=300))
  refine⟨tI,dy [] [.n] (rz e) (rU rfl) (v:=aL 0) ⟨aU _,aU _⟩<|.b (.c (λ_=>l3)<|.d λc h' D o=>⟨h',H.le_refl _,go _ h' ?_ (D.am 0 f _ rfl) D.f⟩)<|.c (λ_=>l3)<|.d λc h' D o=>⟨h',H.le_refl _,go _ h' ?_ (D.am 0 f _ rfl) D.f⟩⟩
  ·cases j with
   |nil=>exact absurd rfl c
   |cons=>rfl
  ·cases j with
   |nil=>rfl
   |cons=>exact absurd nofun c
end
section
variable{M:aW}
theorem aF0(n4:n<=4)(o:ij n r):(65<=r.1/\r.1<=68)/\0<=r.2.2/\r.2.2<=68:=by
 have n4:=bS.mpr n4
 have lt: ∀{x:Int},x <65+n->x<=68:=λh=>iO (jB h<|fG n4 65)
 obtain⟨p,c,q⟩:=r
 exact⟨⟨o.1.1,lt o.1.2⟩,match c,o.2 with
  |aa,w=>⟨w.1,az w.2 dd⟩
  |ae,w=>⟨az dd w.1,lt w.2⟩⟩
set_option smartUnfolding false in
theorem ae5{p q i:Int}(b:(65<=p/\p<=68)/\0<=q/\q<=68)(hi:0<=i/\i<=2)(rl:a.length<=3)(hx:X.length<=300)(e:h f=U (.list<|vi X))
  (k: ∀j l h',(i+1=a.length/\j=128\/ ¬i+1=a.length/\j=0)->h' f=U (.list<|vi X++[.int<|wn j (p,c,q)])->Fr h h' [f]->P .next (aq<|jS a o x1 t x4 x5 x6 f (U<|.int i) x9 (U<|rV (p,c,q)) l) h'):
  cn (al I<|d+1) (.aj<|.cons (.x 8)<|.cons (.x 10) .nil) F_ (.aj [.int i,rV (p,c,q)]) (aq<|jS a o x1 t x4 x5 x6 f u x9 x10 l) h P:=by
 have rl:a_ (a.map rV).length:=cZ (by rw[bN];exact ak rl dd)
 have l3:=Ab hx
 have y: ∀{m:Nat},m=(a.map rV).length->m=a.length:=λh=>h.trans (bN ..)
 cases c with
 |true=>exact dy [] [.n,.n] (rz e) (rU rfl) (d4<|cD hi.1 hi.2<|bL (d4<|cD b.1.1 b.1.2<|bD<|cD b.2.1 b.2.2 aY) aY) (.c rl<|.b (.c (λ_=>l3)<|.d λc h' D _=>k 128 (U<|.int 128) h' (.inl ⟨c.trans (by rw[bN]),rfl⟩) (D.am 0 f _ rfl) D.f)<|.c (λ_=>l3)<|.d λc h' D _=>k 0 (U<|.int 0) h' (.inr ⟨λq=>c<|q.trans<|by rw[bN],rfl⟩) (D.am 0 f _ rfl) D.f)
 |false=>exact dy [] [.n,.n] (rz e) (rU rfl) (d4<|cD hi.1 hi.2<|bL (d4<|cD b.1.1 b.1.2<|bD<|cD b.2.1 b.2.2 aY) aY) (.c rl<|.b (.c (λ_=>l3)<|.d λc h' D _=>k 128 (U<|.int 128) h' (.inl ⟨c.trans (by rw[bN]),rfl⟩) (D.am 0 f _ rfl) D.f)<|.c (λ_=>l3)<|.d λc h' D _=>k 0 (U<|.int 0) h' (.inr ⟨λq=>c<|q.trans<|by rw[bN],rfl⟩) (D.am 0 f _ rfl) D.f)
theorem aO1{i j:Int}{A n:Nat}(en:n=A+(s.length+1))(w:i+1=n/\j=128\/ ¬i+1=n/\j=0)(ei:i=A):j=qt s:=by
 subst en ei
 cases s with
 |nil=>exact w.elim (·.2) λw=>absurd rfl w.1
 |cons r s=>exact w.elim (λw=>absurd (aT0 w.1)<|Nat.ne_of_lt<|Nat.add_lt_add_left (GB<|Nat.succ_pos _) A) (·.2)
theorem Ub(n4:n<=4)(rl:a.length<=3): ∀(s A:List<|Int×Bool×Int) (i:Int) (X:List Int) (x8 x10 cA:Option V) (h:c6.H),a=A++s->i=A.length->(∀r∈s,ij n r)->X.length+s.length<=300->h f=U (.list<|vi X)->
  (∀x8 x10 cA h',h' f=U (.list<|vi<|X++lX s)->Fr h h' [f]->P .next (aq<|jS a o x1 l x4 x5 x6 f x8 x9 x10 cA) h')->
  dg (cn (al I<|d+1) (.aj<|.cons (.x 8)<|.cons (.x 10) .nil) F_) bP (mc i<|s.map rV) (aq<|jS a o x1 l x4 x5 x6 f x8 x9 x10 cA) h P:=λs=>by
 induction s with
 |nil=>exact λA i X x8 x10 cA h _ _ _ _ e k=>⟨tI,k x8 x10 cA h (by show h f=U (O.list<|vi<|X++[]);rw[c8];exact e) λ_ _ e _=>e⟩
 |cons r s ih=>
  intro A i X x8 x10 cA h er ei b hl e k
  rw[eT] at hl
  have rl':A.length+(s.length+1)<=3:=ak (jC<|by rw[er,aC];rfl) rl
  refine⟨tI,ae5 (aF0 n4<|b r<|.head _) ⟨ei▸du _,ei▸bS.mpr (uT<|Nat.le_trans (cf<|Nat.le_add_right _ s.length) rl')⟩ rl (ak (cg _ _) hl) e λj cA h1 w e1 f1=>⟨h1,H.le_refl _,?_⟩⟩
  refine ih (A++[r]) (i+1) (X++[wn j r]) _ _ _ h1 (by rw[er,aX];rfl) (by rw[ei,aC];rfl) (λr m=>b r<|.tail _ m) (by rw[aC,cG,c4 [_].length];exact hl) (e1.trans<|by rw[DL rfl]) λx8 x10 cA h2 e2 f2=>k x8 x10 cA h2 ?_ (Fr.tr f1 f2)
  rw[aX] at e2
  rw[aO1 (s:=s) (by rw[er,aC,eT]) w ei] at e2;exact e2
end
theorem zs{α:Type}{o:L}{F G}: ∀(ls:List α) {K:List V->H->Prop},(∀a∈ls,∀{Q:V->H->Prop},Q (G a) h->(ao I C j<|U (F a)::o).v h Q)->K (ls.map G) h->hO (qD C (.c<|.bool aa) j o) bP (ls.map F) h K:=λls=>by
 induction ls with
 |nil=>exact λ_ k=>⟨tI,k⟩
 |cons l ls ih=>exact λhe k=>⟨tI,nG<|he l (.head _)<|ih (λa m=>he a<|.tail _ m) k⟩
section
variable{M:aW}{x0 x1 x3 x4 x5 x6:V}
noncomputable abbrev Zm(ls:List<|Int×Int×Int)(g:Int×Int×Int->Int):List bI:=[.n,.n,.d (.op<|.fl<|ls.map λl=> .int<|g l) []]
set_option smartUnfolding false in
theorem BD{a:List<|Int×Int×Int} g(c: ∀l,ah [V.int l.1,.int l.2.1,.int l.2.2] w.toNat=U (.int<|g l))(w0:0<=w)(w1:w<=2)(hx:X.length<=300)(hl:a.length<=4)(e:h f=U (.list<|vi X))
  (k: ∀b h',h b=Y->h' b=U (.list<|vi<|X++0::a.map g)->H.le h h'->P .next (aq<|jS t x0 (.fl<|a.map lV) x3 x4 x5 x6 b p (U<|.int w) x10 o) h'):
  cn (al I<|d+1) (.x 9) Dj (.int w) (aq<|jS t x0 (.fl<|a.map lV) x3 x4 x5 x6 f p x9 x10 o) h P:=by
 have l1:(vi X++[V.int 0]).length<=301:=by rw[aC,cU];exact cf hx
 refine dy [] (Zm a g) (rz e) (rU rfl) (v:= .int w .no) tI
  (.c (cZ<|ak l1 dd)<|.c ⟨tI,λh Q D k=>kx<|jM<|ap rfl<|.fJ ⟨cZ (by rw[bN];exact ak hl dd),nX rfl<|jr<|zs a (λl _ Q q=>iC<|ap rfl<|ap rfl<|.nZ w0 (az w1 dd) (c l) q)<|k h D⟩⟩<|.c ?_<|.d λb h' D _=>k b h' ?_ ?_ ?_)
 ·exact cZ (by rw[aC,bN];exact ak (gM l1 hl) dd)
 ·exact D.im (k:=1) rfl (hJ<|D.ne (i:=1) (j:=0) rfl rfl tI tI dd)
 ·exact(D.am 1 b _ rfl).trans (by rw[eC,aX];show _=U (O.list<|vi X++V.int 0::(a.map g).map V.int);rw[AU];rfl)
 ·exact a7 (Fr.cu D.f<|(D.am 0 f _ rfl).trans e.symm)
end
noncomputable def iI:List (Int×Int)->List Int
 |[]=>[]
 |p::r=>p.1::p.2::iI r
theorem O6{x i:Int}(e:cs=A++x::B)(ei:i=A.length)(l:A.length<=100)(hc:h c=U (.list<|vi cs))(k:Q (.int x) h):gj h Q (.ref c)<|.int i:=
 .o_ hc (ei▸du _) (az (ei▸bS.mpr l) dd) (by rw[ei,e,eC,<-cU A];exact qw _ _ _) k
theorem Zs(hc:h c=U (.list<|vi cs)): ∀(ps:List<|Int×Int) (A:List Int) (i:Int) {K:List V->H->Prop},cs=A++iI ps->i=A.length->A.length+2*ps.length<=100->(∀p∈ps,sP p.1)->K (ps.map λp=> .int<|p.1*65536+p.2) h->
  hO (qD C (.c<|.bool aa) (.dY .add (.dY .mul (.ix (.x 1)<|.x 0)<|.c<|.int 65536)<|.ix (.x 1)<|.dY .add (.x 0)<|.c<|.int 1) [U<|.ref c]) bP (eh i 2 ps.length) h K:=λps=>by
 induction ps with
 |nil=>exact λA i K _ _ _ _ k=>⟨tI,k⟩
 |cons p ps ih=>
  intro A i K e ei l s k
  rw[eT,py,c4<|2*_] at l
  have a:=ak (eG (cg _ _) _) l
  have e2:=e.trans (aX A [p.1] _).symm
  exact⟨tI,nG (eE (eE (iC (ap rfl (ap rfl (O6 e ei (lD<|Nat.le_of_succ_le a) hc (bl (.zR (s p<|.head _) (iC (ap rfl (eE (ap rfl (bl (.jb (O6 e2 (by rw[ei,aC];rfl) (by rw[aC];exact lD a) hc
   (.jb<|ih (A++[p.1,p.2]) (i+2) (by rw[aX];exact e) (by rw[ei,aC];rfl) (by rw[aC,cG];exact l) (λp m=>s p<|.tail _ m) k))))))))))))))))⟩
section
variable{M:aW}
noncomputable abbrev DE(n m:Nat):List Int:=[n+1,n+1,n+1,1,m,2,0,2]
abbrev tP(n m:Nat):List<|Int×Int:=[(8+n+(DE n m).sum,2),(65,64+n),(n+1,n+1),(n+1,1),(m,2),(0,2)]
theorem VA: ∀n <5,∀m <4,∀p∈tP n m,-9223372036854775808<=p.1/\p.1<=9223372036854775808:=dd
theorem aK6(en:n=M.ls.length)(em:m=M.rs.length):(tP n m).map (λp=>V.int<|p.1*65536+p.2)=vi M.CB:=by
 subst en em
 have:(8)+M.ls.length+(DE M.ls.length M.rs.length).sum=4*M.n+M.m+16:=by
  show(8:Int)+M.ls.length+((M.ls.length+1)+((M.ls.length+1)+((M.ls.length+1)+(1+(M.rs.length+(2+(0+(2+0))))))))=4*M.ls.length+M.rs.length+16
  lia
 unfold tP
 rw[this];rfl
abbrev aD4(M:aW)(n m:Nat):List bI:=[.n,.n,.d (.int (DE n m).sum .no) [],.n,.d (.op<|.fl<|(tP n m).map λp=> .int<|p.1*65536+p.2) []]
abbrev ag0(M:aW):SV:= .aj [.op<|.fl<|M.ls.map lV,.op<|.fl<|M.rs.map rV,.int M.ck .no,.int M.de<|.b 0 917519]
set_option smartUnfolding false in
theorem XE(ok:M.ok)(k: ∀c f h',h f=Y->h' f=U (.list<|vi M.c0)->H.le h h'->aZ I (al I<|d+1) Hj (aq<|jS M.rs M.v (.fl<|M.ls.map lV) (.int M.ck) (.int M.de) (.int (M.ls.map lV).length) (.ref c) f Y Y Y Y) h' P):
  aZ I (al I<|d+1) LQ (aq [U<|ag0 M,Y,Y,Y,Y,Y,Y,Y,Y,Y,Y,Y]) h P:=by
 have ln:(M.ls.map lV).length=M.ls.length:=bN ..
 have lm:(M.rs.map rV).length=M.rs.length:=bN ..
 refine jU 5 [] (aD4 M (M.ls.map lV).length (M.rs.map rV).length) (Hd.of Fa.nl) (aT (d4<|bD<|bD<|bL tI<|cD (az dd ok.d0) ok.d1 aY)<|aD<|aD<|aD<|aD<|aD<|aD<|aD<|aD<|aD<|aD<|aD bk)
  (.c ?_<|.c ?_<|.c ?_<|.c ?_<|.c ?_<|.d ?_)
 ·exact cz (ln▸ak ok.n4 dd)
 ·exact cz (lm▸ak ok.m3 dd)
 ·exact λc=>⟨tI,λh Q D k=>eJ<|ay<|qn<|ap rfl<|bl<|bl<|.K4 (D.am 0 c _ rfl) (dd:12<=1000000) dd<|bh<|.Cy<|k h D⟩
 ·refine λc=>⟨tI,λh Q D k=>kx<|iY<|ay<|bl<|ay<|bl<|ay<|bl<|bh<|.Ca ⟨dd,dd⟩ ⟨dd,dd⟩ dd dd ⟨(dd:6<=1000000),nX rfl<|jr<|Zs (cs:=iI<|tP (M.ls.map lV).length (M.rs.map rV).length) (D.am 0 c _ rfl) (tP (M.ls.map lV).length (M.rs.map rV).length) [] 0 rfl rfl (dd:12<=100) ?_<|k h D⟩⟩
  exact VA _ (ln▸aT1 ok.n4) _ (lm▸aT1 ok.m3)
 ·exact λc=>(dd:8<=1000000)
 ·refine λc f h' D _=>k c f h' (D.im (k:=1) rfl nofun) ?_ (a7 D.f)
  exact(D.am 1 f _ rfl).trans (by rw[aK6 ln lm,eC];rfl)
end
theorem Gj(l:H.le h k)(n:k a=Y):h a=Y:=by
 cases e:h a with
 |none=>rfl
 |some x=>exact gJ <|(l a x e).symm.trans n
theorem Ae(l:H.le h j)(n:h a=Y)(f:Fr j o [a]):H.le h o:=λb y e=>f b y (l b y e) (hJ λq=>gJ <|(q▸e).symm.trans n)
section
variable{M:aW}{Q:V->H->Prop}
abbrev sM(M:aW)(c f:ai)(x8 x9 x10 cA:Option V):SL:=jS M.rs M.v (.fl<|M.ls.map lV) (.int M.ck) (.int M.de) (.int (M.ls.map lV).length) (.ref c) f x8 x9 x10 cA
set_option smartUnfolding false in
theorem YY(hx:X.length<=40)(e:h f=U (.list<|vi X))(k: ∀h',H.le h h'->Q (.fl<|vi<|X++([-30001,50002]++[1000,349525])) h'):aZ I (al I<|d+1) Jm (aq<|sM M c f j x9 x10 a) h<|ie Q:=
 gF [] [.n,.n] (rz e) (rU rfl) (.c (cz<|by rw[aC,cU];exact ak (cK hx 2) dd) (.c (cz<|by rw[aC,aC,cU];exact ak (cK (cK hx 2) 2) dd)
  (.d λh' D _=>⟨h',H.le_refl _,by have k:=k h' (a7<|Fr.cu D.f<|(D.am 0 f _ rfl).trans e.symm);rw[<-aX,eC,eC] at k;exact k⟩)))
set_option smartUnfolding false in
theorem ax2(hx:X.length<=40)(e:h f=U (.list<|vi X))(k: ∀h',h' f=U (.list<|vi<|X++[0])->Fr h h' [f]->P .next (aq<|sM M c f j x9 x10 a) h'):ex I (al I<|d+1) (.expr<|.me (.x 7) 0<|.cons (.c<|.int 0) .nil) (aq<|sM M c f j x9 x10 a) h P:=
 gy [] [.n] (rz e) (rU rfl) (.c (Ab<|ak hx dd)<|.d λh' D _=>k h' ((D.am 0 f _ rfl).trans<|by rw[eC];rfl) D.f)
theorem tH(ok:M.ok)(hx:X.length<=n):(X++M.ta g).length<=n+5:=by rw[aC,ry];exact gM hx (cf ok.n4)
theorem WS(ok:M.ok)(hx:X.length<=15)(e:h f=U (.list<|vi X))(k: ∀b h',h b=Y->h' b=U (.list<|vi<|X++M.ta (·.1)++M.ta (·.2.1)++M.ta (·.2.2))->H.le h h'->P .next (aq<|sM M c b j (U<|.int 2) x10 a) h'):
  ex I (al I<|d+1) (.for (.x 9) (.bi .range<|.cons (.c<|.int 3) .nil) Dj) (aq<|sM M c f j x9 x10 a) h P:=
 iE (iY (ay (bl (bh (.ma ⟨dd,dd⟩ ⟨tI,BD (·.1) (λ_=>rfl) dd dd (ak hx dd) ok.n4 e λf3 h3 o e3 l3=>⟨h3,H.le_refl _,tI,BD (·.2.1) (λ_=>rfl) dd dd (ak (tH ok hx) dd) ok.n4 e3 λf4 h4 n4 e4 l4=>⟨h4,H.le_refl _,tI,BD (·.2.2) (λ_=>rfl) dd dd (ak (tH ok<|tH ok hx) dd) ok.n4 e4 λf5 g i e5 l5=>
  have l:=H.le_trans l3 l4
  ⟨g,H.le_refl _,tI,k f5 g (Gj l i) e5<|H.le_trans l l5⟩⟩⟩⟩)))))
theorem U0(ok:M.ok)(k: ∀h',H.le h h'->Q (.fl<|vi M.W) h'):al I (d+2) 105 [M.v] h Q:=
 have lc:=by rw[aC,xK];exact eG ok.n4 8
 have lz:(M.c0++M.ci++M.ta (·.1)++M.ta (·.2.1)++M.ta (·.2.2)).length<=27:=tH ok (tH ok<|tH ok lc)
 e_ (fn:=M1) rfl rfl (XE ok λc f h1 n1 e1 l1=>
  bz (iE (iY (ay (ap rfl (bh (.ma (FH<|by rw[bN];exact ak ok.n4 dd) (by
   exact aC5 (X:=M.c0) (bN ..) ok.n4 (dd:8<=200) e1 λx8 h2 e2 f2=>
    have l2:=Ae l1 n1 f2
    bz (WS ok (ak lc dd) e2 λf3 h3 a e3 l3=>
     bz (ax2 (ak lz dd) e3 λh4 e4 f4=>
      bz (iE (yU (ay (ap rfl (bh (.BJ (Ub ok.n4 ok.m3 M.rs [] 0 _ _ _ _ h4 rfl rfl ok.r (by rw[aC];exact ak (gM (cf lz) ok.m3) dd) e4 λx8 x10 cA g e5 f5=>YY (by rw[aC,aC,zc];exact ak (gM (cf lz) ok.m3) dd) e5 λe b=>by
       have k:=k e (H.le_trans (Ae (Ae (H.le_trans l2 l3) (Gj l2 a) f4) (Gj l2 a) f5) b)
       unfold aW.W at k
       simp only[aX] at k⊢
       exact k)))))))))))))))))
end
abbrev kf(b:cY):SO:= .list [.int b.x,.int b.y,.int b.z]
abbrev hD(n u:Int)(i:Nat)(m:Int):bI:= .c (Int×cY) (λ_ x=>(0<=x.1/\x.1 <n)/\cY.ok x.2 m) λ_ x=>(.int x.1<|.b 0 u,[(i,kf x.2)])
noncomputable abbrev hP(lo hi:Int):bI:= .c Int (λ_ z=>lo<=z/\z<=hi) λ_ z=>(.int z<|.b lo hi,[])
theorem cY.ok.aG{b:cY}(o:b.ok m)(h:m<=n):b.ok n:=⟨o.x0,o.x1,o.y0,o.y1,o.z0,az o.z1 h⟩
section
variable{g:G}
theorem jw(e:ah g i=U (a,kf b))(ok:b.ok k)(n1:1<=n)(c:n<=u+1)(j:u<=1000000)(l:k<=1000):lR d hb B (m+1) 103 [.ref i a,.int n w] g (Int×cY) (λx=>(0<=x.1/\x.1 <n)/\cY.ok x.2 (k+1)) (λx=>(.int x.1<|.b 0 u,[(i,kf x.2)])):=
 ⟨λx w=>⟨w.1.1,iO<|jB w.1.2 c⟩,λh Q D q=>zj (D.am i a _ e) ok ⟨n1,az c<|az (g8 j 1) dd⟩ (az l dd) λh' r b' r0 r1 o w f=>q (r,b') h' ⟨⟨r0,r1⟩,o⟩<|D.go (by unfold jm;rw[kK,e];exact f)<|dj e tI w tI d8⟩
theorem yu{a j r:Int}(h:0<=r/\r <n)(en:n=xs.length)(hb: ∀z∈xs,a<=z/\z<=j): ∃y,(a<=y/\y<=j)/\ah (vi xs) r.toNat=U (den<|.int y<|.b a j)/\aN g (.int y<|.b a j):=
 (yo h.1<|en▸h.2).elim λx w=>⟨x,hb x w.1,w.2,hb x w.1⟩
end
abbrev rp(l:Int×Int×Int):Prop:=(-70000<=l.1/\l.1<=2001000)/\(-70000<=l.2.1/\l.2.1<=2001000)/\(-70000<=l.2.2/\l.2.2<=2001000)
section
abbrev Au(a l:ai)(b:cY)(ls:List<|Int×Int×Int):G:=[(a,kf b),(l,.list<|ls.map lV)]
noncomputable abbrev w_(a l:ai)(x2 x3 x4:Option V):SL:=[U<|.ref 0 a,U<|.ref 1 l,x2.map .op,x3.map .op,x4.map .op,Y,Y,Y,Y,Y]
abbrev aC4(m:Int):List bI:=[hD 6 5 0<|m+1,hP (-70000) 2000000,hD 1000 999 0<|m+1+1,hD 3 2 0<|m+1+1+1,hP (-3) 700001,hD 3 2 0<|m+1+1+1+1,hP (-5) 200003,.n]
theorem JV{g:G}(e:ah g 0=U (a,o))(e1:ah g 1=U (l,p)):a8 g<|w_ a l x2 h x4:=bG e (bG e1<|bJ<|bJ<|bJ<|aD<|aD<|aD<|aD<|aD bk)
theorem Jf{α:Type}{P:α->Prop}{l}{x}(h: ∀y∈l,P y)(p:P x): ∀y∈l++[x],P y:=λy m=>(pB.mp m).elim (h y) λm=>b9.mp m▸p
set_option smartUnfolding false in
theorem UM(ok:b.ok m)(m9:m<=900)(ll:o.length<=90)(lo: ∀l∈o,rp l)(D:Hd hb B (Au a l b o) h)
  (k: ∀x b' x2 j x4 h',rp x->cY.ok b' (m+4)->Hd hb B (Au a l b'<|o++[x]) h'->P .next (aq<|w_ a l x2 j x4) h'):
  cn (al I<|d+1) (.x 2) DM (.int i) (aq<|w_ a l x2 j x4) h P:=by
 have l0:m<=1000:=az m9 dd
 have l1:=g8 m9 1
 have l2:=g8 l1 1
 have l3:=g8 l2 1
 refine dy [103] (aC4 m) D (JV rfl rfl) (v:= .int i .no) tI (.c ?_<|.c ?_<|.c ?_<|.c ?_<|.c ?_<|.c ?_<|.c ?_<|.c ?_<|.d ?_)
 ·exact jw rfl ok dd dd dd l0
 ·exact λx w=>yu (xs:=[0,524288,349525,1048576,-70000,2000000]) w.1 rfl dd
 ·exact λx w y v=>jw rfl w.2 dd dd dd (az l1 dd)
 ·exact λx w y v x2 w2=>jw rfl w2.2 dd dd dd (az l2 dd)
 ·exact λx w y v x2 w2 j w3=>yu (xs:=[0,700001,-3]) w3.1 rfl dd
 ·exact λx w y v x2 w2 j w3 y2 c=>jw rfl w3.2 dd dd dd (az l3 dd)
 ·exact λx w y v x2 w2 j w3 y2 c x4 f=>yu (xs:=[0,200003,-5]) f.1 rfl dd
 ·exact λx w y v x2 w2 j w3 y2 c x4 f y3 g=>cz (by rw[bN];exact ak (cf ll) dd)
 ·intro x w y v x2 w2 j w3 y2 c x4 f y3 g h' D' _
  have e:o.map lV++[lV (y+x2.1,y2,y3)]=(o++[(y+x2.1,y2,y3)]).map lV:=(qW (l₂:=[(y+x2.1,y2,y3)])).symm
  exact k (y+x2.1,y2,y3) x4.2 (U<|.int i) (U<|.int<|y+x2.1) (U<|.int y2) h' ⟨⟨fS v.1 w2.1.1,az (fS v.2<|eR w2.1.2) dd⟩,⟨az dd c.1,az c.2 dd⟩,az dd g.1,az g.2 dd⟩ (f.2.aG<|aT2<|by rw[gp,gp,gp];rfl) (e.subst (motive:=λL=>Hd hb B [(a,kf x4.2),(l,.list L)] h') D')
end
section
theorem Xn: ∀(n:Nat) i m (b:cY) (ls:List<|Int×Int×Int) (x2 x3 x4:Option V) {hb h:H} {B:List ai},b.ok m->m+4*n<=900->ls.length+n<=90->(∀l∈ls,rp l)->Hd hb B (Au a l b ls) h->
  (∀c b' x2 x3 x4 h',c.length=ls.length+n->(∀l∈c,rp l)->cY.ok b' (m+4*n)->Hd hb B (Au a l b' c) h'->P .next (aq<|w_ a l x2 x3 x4) h')->
  dg (cn (al I<|d+1) (.x 2) DM) bP (eh i 1 n) (aq<|w_ a l x2 x3 x4) h P:=λn=>by
 induction n with
 |zero=>exact λi m b ls x2 x3 x4 hb h B ok _ _ lo D k=>⟨tI,k ls b x2 x3 x4 h rfl lo ((eZ m).symm▸ok) D⟩
 |succ n ih=>
  intro i m b ls x2 x3 x4 hb h B ok m9 ll lo D k
  have e:m+4*((n+1:Nat))=m+4+4*n:=by rw[qU,qT,gp m,iu 4];rfl
  rw[e] at m9
  rw[c4 n,<-cG] at ll
  have n0:(0:Int)<=4*n:=AQ dd (du n)
  refine⟨tI,UM ok (az (n6 (dd:(0:Int)<=4))<|Int.le_trans (n6 n0) m9) (ak (cg _<|1+n)<|by rw[<-cG];exact ll) lo D λx b' x2 x3 x4 h' o g D'=>⟨h',H.le_refl _,?_⟩⟩
  refine ih (i+1) (m+4) b' (ls++[x]) x2 x3 x4 g m9 (by rw[aC];exact ll) (Jf lo o) D' λc b2 x2 x3 x4 h2 e2 j f D2=>k c b2 x2 x3 x4 h2 (e2.trans<|by rw[aC,cG,c4 n];rfl) j (e▸f) D2
abbrev qo(a l t:ai)(b:cY)(ls:List<|Int×Int×Int)(rs:List<|Int×Bool×Int):G:=[(a,kf b),(l,.list<|ls.map lV),(t,.list<|rs.map rV)]
noncomputable abbrev tm(a l t:ai)(x2 x3 x4 x6 x7:Option SV):SL:=[U<|.ref 0 a,U<|.ref 1 l,x2,x3,x4,U<|.ref 2 t,x6,x7,Y,Y]
theorem xJ{g:G}{x2 h x4:Option V}(e:ah g 0=U (a,o))(e1:ah g 1=U (l,p))(e2:ah g 2=U (t,q))(w:a8 g [x6,x7,Y,Y]):a8 g<|tm a l t (x2.map .op) (h.map .op) (x4.map .op) x6 x7:=bG e (bG e1<|bJ<|bJ<|bJ<|bG e2 w)
set_option smartUnfolding false in
theorem Mm{m r:Int}{x2 p x4:Option V}(ok:b.ok m)(m9:m<=900)(n2:2<=j.length)(n4:j.length<=4)(rl:o.length<=90)(hr:0<=r/\r <j.length)(D:Hd hb B (qo a l t b j o) h)
  (k: ∀x b' h',ij j.length x->cY.ok b' (m+1)->Hd hb B (qo a l t b' j<|o++[x]) h'->P .next (aq<|tm a l t (x2.map .op) (p.map .op) (x4.map .op) (U<|.int r .no)<|U<|.op<|.bool c) h'):
  aZ I (al I<|d+1) NA (aq<|tm a l t (x2.map .op) (p.map .op) (x4.map .op) (U<|.int r .no)<|U<|.op<|.bool c) h P:=by
 have l0:m<=1000:=az m9 dd
 have rm:a_<|(o.map rV).length+1:=cz (by rw[bN];exact ak (cf rl) dd)
 have lm:a_ (j.map lV).length:=cz (by rw[bN];exact ak n4 dd)
 have n1:=bS.mpr (lD n2)
 have e: ∀x,o.map rV++[rV x]=(o++[x]).map rV:=λx=>(qW (l₂:=[x])).symm
 cases c with
 |true=>exact gF [103] [hD 2 1 0<|m+1] D (xJ rfl rfl rfl<|aT tI<|aB<|aD<|aD bk) (.c (jw rfl ok dd dd dd l0)<|.c (λx w=>rm)<|.d λx w h' D' _=>k (65+r,aa,x.1) x.2 h' ⟨⟨n6 hr.1,Rg hr.2 65⟩,w.1.1,iO w.1.2⟩ w.2<|(e (65+r,aa,x.1)).subst (motive:=λL=>Hd hb B [(a,kf x.2),(l,.list<|j.map lV),(t,.list L)] h') D')
 |false=>exact gF [103] [hD j.length 3 0<|m+1] D (xJ rfl rfl rfl<|aT tI<|aB<|aD<|aD bk) (.c lm<|.c (bN lV▸jw (n:=j.length) rfl ok n1 (bS.mpr n4) dd l0)<|.c (λx w=>rm)<|.d λx w h' D' _=>k (65+r,ae,65+x.1) x.2 h' ⟨⟨n6 hr.1,Rg hr.2 65⟩,n6 w.1.1,Rg w.1.2 65⟩ w.2<|(e (65+r,ae,65+x.1)).subst (motive:=λL=>Hd hb B [(a,kf x.2),(l,.list<|j.map lV),(t,.list L)] h') D')
set_option smartUnfolding false in
theorem aa9{x2 p x4:Option V}{x6 x7:Option V}(ok:b.ok m)(m9:m<=890)(n2:2<=j.length)(n4:j.length<=4)(rl:u.length<=90)(D:Hd hb B (qo a l t b j u) h)
  (k: ∀x b' (x2 x6 x7:Option V) h',ij j.length x->cY.ok b' (m+3)->Hd hb B (qo a l t b' j<|u++[x]) h'->P .next (aq<|tm a l t (x2.map .op) (p.map .op) (x4.map .op) (x6.map .op)<|x7.map .op) h'):
  cn (al I<|d+1) (.x 2) De (.int i) (aq<|tm a l t (x2.map .op) (p.map .op) (x4.map .op) (x6.map .op)<|x7.map .op) h P:=
 have lm:=cz (by rw[bN];exact ak n4 dd)
 have l1:=g8 m9 1
 have l2:=g8 l1 1
 have e3: ∀{b':cY},b'.ok (m+1+1+1)->b'.ok (m+3):=λo=>o.aG (aT2<|by rw[gp,gp];rfl)
 eH (jU 2 [103] [hD j.length 3 0<|m+1,hD 2 1 0<|m+1+1] D (xJ (x2:=U<|.int i) rfl rfl rfl<|bJ<|bJ<|aD<|aD bk)
  (.c lm (.c (bN lV▸jw (n:=j.length) rfl ok (bS.mpr<|lD n2) (bS.mpr n4) dd (az m9 dd)) (.c (λx w=>jw rfl w.2 dd dd dd<|az l1 dd)
   (.c (λx w y v c h' D' _=>Mm v.2 (az l2 dd) n2 n4 rl w.1 D' λz b' h2 o e D2=>k z b' (U<|.int i) (U<|.int x.1) (U<|.bool aa) h2 o (e3 e) D2)
    (.d λx w y v c h' D' _=>Mm v.2 (az l2 dd) n2 n4 rl w.1 D' λz b' h2 o e D2=>k z b' (U<|.int i) (U<|.int x.1) (U<|.bool ae) h2 o (e3 e) D2))))))
end
section
abbrev xU(a l t:ai)(x2 x3 x4 x6 x7:Option V):SL:=tm a l t (x2.map .op) (x3.map .op) (x4.map .op) (x6.map .op) (x7.map .op)
theorem Wj(n2:2<=j.length)(n4:j.length<=4): ∀(n:Nat) i m (b:cY) (rs:List<|Int×Bool×Int) (x2 x3 x4 x6 x7:Option V) {hb h:H} {B:List ai},b.ok m->m+3*n<=890->rs.length+n<=90->(∀r∈rs,ij j.length r)->Hd hb B (qo a l t b j rs) h->
  (∀c b' x2 x6 x7 h',c.length=rs.length+n->(∀r∈c,ij j.length r)->cY.ok b' (m+3*n)->Hd hb B (qo a l t b' j c) h'->P .next (aq<|xU a l t x2 x3 x4 x6 x7) h')->
  dg (cn (al I<|d+1) (.x 2) De) bP (eh i 1 n) (aq<|xU a l t x2 x3 x4 x6 x7) h P:=λn=>by
 induction n with
 |zero=>exact λi m b rs x2 x3 x4 x6 x7 hb h B ok _ _ p D k=>⟨tI,k rs b x2 x6 x7 h rfl p ((eZ m).symm▸ok) D⟩
 |succ n ih=>
  intro i m b rs x2 x3 x4 x6 x7 hb h B ok m9 rl p D k
  have e:m+3*((n+1:Nat))=m+3+3*n:=by rw[qU,qT,gp m,iu 3];rfl
  rw[e] at m9
  rw[c4 n,<-cG] at rl
  have n0:(0:Int)<=3*n:=AQ dd (du n)
  refine⟨tI,aa9 ok (az (n6 (dd:(0:Int)<=3))<|Int.le_trans (n6 n0) m9) n2 n4 (ak (cg _<|1+n)<|by rw[<-cG];exact rl) D λx b' x2 x6 x7 h' o q D'=>⟨h',H.le_refl _,?_⟩⟩
  refine ih (i+1) (m+3) b' (rs++[x]) x2 x3 x4 x6 x7 q m9 (by rw[aC];exact rl) (Jf p o) D' λc b2 x2 x6 x7 h2 e2 g f D2=>k c b2 x2 x6 x7 h2 (e2.trans<|by rw[aC,cG,c4 n];rfl) g (e▸f) D2
theorem ai2(n2:2<=a.length)(n4:a.length<=4)(m3:h.length<=3)(lo: ∀l∈a,rp l)(e: ∀r∈h,ij a.length r)(c:0<=j/\j <65536)(hx:0<=x/\x <10)(b:0<=y/\y <16):aW.ok ⟨a,h,j,65536*(5+x)+y⟩:=
 ⟨n2,n4,m3,lo,e,c.1,c.2,fS (pA (fG hx.1 5) dd) b.1,fS (pA (fG (iO (show x <9+1 from hx.2)) 5) dd)<|iO (show y <15+1 from b.2)⟩
set_option smartUnfolding false in
theorem aN2{Q:V->H->Prop}(ok:b.ok m)(m9:m<=900)(n2:2<=j.length)(n4:j.length<=4)(m3:o.length<=3)(lo: ∀l∈j,rp l)(c: ∀r∈o,ij j.length r)(D:Hd hb B (qo a l t b j o) h)
  (k: ∀(M:aW) h',M.ok->Q M.v h'):aZ I (al I<|d+1) Hw (aq<|xU a l t x2 p x4 x6 x7) h<|ie Q:=by
 have l1:=g8 m9 1
 have l2:=g8 l1 1
 exact gF [103] [hD 65536 65535 0<|m+1,hD 10 9 0<|m+1+1,hD 16 15 0<|m+1+1+1] D (xJ rfl rfl rfl<|bJ<|bJ<|aD<|aD bk)
  (.c (jw rfl ok dd dd dd<|az m9 dd) (.c (λx w=>jw rfl w.2 dd dd dd<|az l1 dd) (.c (λx w y v=>jw rfl v.2 dd dd dd<|az l2 dd)
   (.d λx w y v z u h' D' _=>⟨h',H.le_refl _,k ⟨j,o,x.1,65536*(5+y.1)+z.1⟩ h'<|ai2 n2 n4 m3 lo c w.1 v.1 u.1⟩))))
end
section
variable{b:cY}
theorem LY{r:Int}{k u:Nat}(h:0<=r/\r <u):k<=(k+r).toNat/\(k+r).toNat <k+u:=(GM h.1).elim λn e=>by subst e;exact⟨cg k n,Nat.add_lt_add_left (mm.mp h.2) k⟩
noncomputable abbrev WF(n:Int):E:= .call 103 (.cons (.x 0)<|.cons (.c<|.int n) .nil)
theorem L7{ρ:L}{g:G}(e0:ah ρ 0=U (U<|.ref a))(c:ah g 0=U (a,kf b))(ok:b.ok m)(n1:1<=n/\n<=1073741823)(m9:m<=1000)(D:Hd hb B g h)(k: ∀h' r b',0<=r/\r <n->cY.ok b' (m+1)->Hd hb B (d9 g [(0,kf b')]) h'->Q (.int r) h'):(ao I (al I<|d+1) (WF n) ρ).v h Q:=
 eI (ay<|ap e0<|ay<|bl<|zj (D.am 0 a _ c) ok n1 (az m9 dd) λh' r b' r0 r1 o w f=>k h' r b' ⟨r0,r1⟩ o<|D.go (by unfold jm;rw[kK,c];exact f)<|dj c tI w tI d8)
theorem ab4(ok:b.ok m)(m9:m<=850)(n2:2<=j.length)(n4:j.length<=4)(lo: ∀l∈j,rp l)(D:Hd hb B (qo a l t b j []) h)
  (k: ∀(M:aW) h',M.ok->Q M.v h'):aZ I (al I<|d+1) OF (aq<|xU a l t x2 o x4 x6 x7) h<|ie Q:=
 bz (kq (iY (ay (L7 rfl rfl ok dd (az m9 dd) D λh2 r b2 hr c D2=>
  have tb:=(LY hr).2
  have tb:=(qR r)▸tb
  have r9:3*((r.toNat):Int)<=9:=pA (bS.mpr<|GN tb) dd
  have m8:m+1+3*((r.toNat))<=860:=fS (g8 m9 1) r9
  bh (.ma ⟨az dd hr.1,az (eR hr.2) dd⟩ (Wj n2 n4 r.toNat 0 (m+1) b2 [] x2 o x4 x6 x7 c (az m8 dd) (by rw[j2,gK];exact ak (uU tb) dd) (λ_ m=>dz m) D2 λrs b3 x2 x6 x7 h3 el g e f=>
   aN2 e (az m8 dd) n2 n4 (by rw[el,j2,gK];exact GN tb) lo g f k))))))
set_option smartUnfolding false in
theorem aG1(ha:h a=U b.o)(ok:b.ok 0)(k: ∀(M:aW) h',M.ok->Q M.v h'):al I (d+2) 104 [.ref a] h Q:=
 e_ (fn:=Od) rfl rfl (jU (g:=[(a,kf b)]) 1 [103] [] (Hd.of<|Fa.ls ha bj Fa.nl) (bG rfl<|aD<|aD<|aD<|aD<|aD<|aD<|aD<|aD<|aD bk) (.d λl h1 D1 _=>
  bz (kq (iY (ay (eE (bl (L7 rfl rfl ok dd dd D1 λh2 r b2 hr c D2=> .jb (bh (.ma ⟨az dd<|fG hr.1 2,az (fG (eR hr.2) 2) dd⟩ (
   have tb:=LY hr
   have r9:4*(((2+r).toNat):Int)<=16:=pA (bS.mpr<|GN tb.2) dd
   have m8:(0)+1+4*(((2+r).toNat):Int)<=17:=fG r9 1
   Xn (2+r).toNat 0 (0+1) b2 [] Y Y Y c (az m8 dd) (by rw[j2,gK];exact ak (uU tb.2) dd) (λ_ m=>dz m) D2 λls b3 x2 x3 x4 h3 el lo e i=>
    jU 1 [103] [] i (JV rfl rfl)<|.d λt h4 f _=>ab4 (x6:=Y) (x7:=Y) e (az m8 dd) (by rw[el,j2,gK];exact tb.1) (by rw[el,j2,gK];exact GN tb.2) lo f k)))))))))))
end
def nx(f:Fd)(c:Int):Option Int:=if 65<=c/\c <65+f.M.ls.length then U c else Y
noncomputable def nU(f:Fd):Option (Int×Bool×Int)->List Pt
 |U r=>[.kn<|a9 (kw r.2.2) f.sz]
 |Y=>[]
noncomputable def rP(f:Fd)(p:Pt):V:= .aj [(match p with|.lt c=> .int c|.kn _=> .none),.int (pw f p).1,.int (pw f p).2.1,.int (pw f p).2.2]
noncomputable def iT:Option Int->SV
 |U c=> .int c (.b 65 68)
 |Y=> .op .none
noncomputable def kO:Option (Int×Bool×Int)->SV
 |U r=> .aj [.int r.1 .no,.op<|.bool r.2.1,.int r.2.2 .no]
 |Y=> .op .none
abbrev lM(f:Fd)(x1 x5 x6:V)(t fo:ai)(x9:SV)(x10:SV)(cA:Int):SL:=[U<|.op f.M.v,U<|.op x1,U<|.int f.sz<|.b 1 30100000,U<|.op<|.fl<|f.M.ls.map lV,U<|.op<|.fl<|f.M.rs.map rV,U<|.op x5,U<|.op x6,U<|.ref 0 t,U<|.ref 1 fo,U x9,U x10,U<|.int cA .no]
abbrev eK(f:Fd)(t fo:ai)(es:List<|Int×V)(N:List Pt):G:=[(t,.dict es),(fo,.list<|N.map<|rP f)]
section
theorem tT{g:G}(ok:f.ok)(e0:ah g 0=U (t,o))(e1:ah g 1=U (h,p))(b:aN g x9)(a:aN g x10):a8 g<|lM f x1 x5 x6 t h x9 x10 c:=aB (aB<|i8 ok.s0 ok.s1<|aB<|aB<|aB<|aB<|bG e0<|bG e1<|aT b<|aT a<|aT tI bk)
theorem td: ∀{a:Option<|Int×Bool×Int},aN g (kO a)
 |U _=>d4 (bL tI<|bD<|bL tI aY)
 |Y=>trivial
set_option smartUnfolding false in
theorem ac9(ok:f.ok)(g:aN (eK f t j l N) x9)(e:aN (eK f t j l N) x10)(D:Hd hb B (eK f t j l N) h)(k: ∀h',Hd hb B (eK f t j l N) h'->P .next (aq<|lM f x1 x5 x6 t j (iT<|nx f c) x10 c) h'):aZ I (al I<|d+1) JP (aq<|lM f x1 x5 x6 t j x9 x10 c) h P:=by
 have ln:((f.M.ls.map lV).length)=f.M.ls.length:=aA Nat.cast (bN ..)
 unfold nx at k
 refine gF [] [.n] D (tT ok rfl rfl g e) (.b (.c (λ_=>cz<|by rw[bN];exact ak ok.M.n4 dd)<|.c (λa b h' D _=> ?_)<|.d λa b h' D _=> ?_)<|.d λa h' D _=> ?_)
 ·rw[aM ⟨a,ln▸b⟩] at k;exact k h' D
 ·rw[aE λq=>b<|ln▸q.2] at k;exact k h' D
 ·rw[aE λq=>a q.1] at k;exact k h' D
end
noncomputable abbrev lS(l:Int×Int×Int):SV:= .aj [.int l.1 .no,.int l.2.1 .no,.int l.2.2 .no]
abbrev hL(f:Fd)(l:Int×Int×Int):List bI:=[.u,.v<|lS l,.d (.int (a9 l.1 f.sz) .no) [],.d (.int (a9 l.2.1 f.sz) .no) [],.d (.int (a9 l.2.2 f.sz) .no) [],.u,.u,.n]
section
variable{N:List Pt}
theorem zL(sw: -1000000000<=w/\w<=1000000000)(s0:0 <s)(s1:s<=30100000):il d hb B (m+1) 107 [.int w b,.int s a] g (.int (a9 w s) .no) []:=
 ⟨tI,λh Q D k=>ay9 ⟨az dd sw.1,az sw.2 dd⟩ s0 (az s1 dd) λh' l=>k h'<|D.le l⟩
theorem QS n:(hH n).length<=1:=match n with
 |Y=>j3 _
 |U _=>dO _
theorem SP(h:0<=i/\i<=1):ah (vi [-30001,50002]) i.toNat=U (.int<|kw i)/\ -1000000000<=kw i/\kw i<=1000000000:=(GM h.1).elim λn e=>by
 subst e
 exact match n,h.2 with
  |0,_=>⟨rfl,dd⟩
  |1,_=>⟨rfl,dd⟩
  |n+2,h=>absurd (bS.mp h) (Q9 _∘uT)
theorem HP(hN:N.length<=60):a_<|(N.map<|rP f).length+1:=cz (by rw[bN];exact ak (cf hN) dd)
theorem Jb(e:v=rP f p):N.map (rP f)++[v]=(N++[p]).map (rP f):=by rw[e,qW];rfl
set_option smartUnfolding false in
theorem ah6(ok:f.ok) now(hn: ∀c,now=U c->f.dB c)(g:aN (eK f t a j N) x10)(hN:N.length<=60)(D:Hd hb B (eK f t a j N) h)(k: ∀h',Hd hb B (eK f t a j<|N++hH now) h'->P .next (aq<|lM f x1 x5 x6 t a (iT now) x10 c) h'):
  ex I (al I<|d+1) (.ite (.eW .l6 (.x 9)<|.c .none) OS .nil) (aq<|lM f x1 x5 x6 t a (iT now) x10 c) h P:=by
 cases now with
 |none=>exact gy [107] [] D (tT ok rfl rfl tI g) (.d λh' D _=>k h'<|by unfold hH;rw[c8];exact D)
 |some c0=>
  have p:=hn c0 rfl
  obtain⟨l,e,m,-⟩:=FL p
  have w:=ok.M.l l m
  have b: ∀{i:Int},-70000<=i/\i<=2001000-> -1000000000<=i/\i<=1000000000:=λh=>⟨az dd h.1,az h.2 dd⟩
  refine gy [107] (hL f l) D (tT ok rfl rfl ⟨p.1,k8 ok p⟩ g) (.c ⟨by rw[qJ,e];rfl,d4<|bL tI<|bL tI<|bL tI aY⟩<|.c (zL (b w.1) ok.s0 ok.s1)<|.c (zL (b w.2.1) ok.s0 ok.s1)<|.c (zL (b w.2.2) ok.s0 ok.s1)<|.c (HP hN)<|.d λh' D _=>k h' ?_)
  have e2:iV f c0=(a9 l.1 f.sz,a9 l.2.1 f.sz,a9 l.2.2 f.sz):=by unfold iV;rw[e]
  exact(Jb (v:= .aj [.int c0,.int<|a9 l.1 f.sz,.int<|a9 l.2.1 f.sz,.int<|a9 l.2.2 f.sz])<|by show _=V.aj [.int c0,.int (iV f c0).1,.int (iV f c0).2.1,.int (iV f c0).2.2];rw[e2]).subst (motive:=λL=>Hd hb B [(t,.dict j),(a,.list L)] h') D
set_option smartUnfolding false in
theorem ZV(ok:f.ok) tp(ht: ∀r,tp=U r->0<=r.2.2/\r.2.2<=1)(b:aN (eK f t a j N) x9)(hN:N.length<=60)(D:Hd hb B (eK f t a j N) h)(k: ∀h',Hd hb B (eK f t a j<|N++nU f tp) h'->P .next (aq<|lM f x1 x5 x6 t a x9 (kO tp) c) h'):
  ex I (al I<|d+1) (.ite (.eW .l6 (.x 10)<|.c .none) Ll .nil) (aq<|lM f x1 x5 x6 t a x9 (kO tp) c) h P:=by
 cases tp with
 |none=>exact gy [107] [] D (tT ok rfl rfl b tI) (.d λh' D _=>k h'<|by unfold nU;rw[c8];exact D)
 |some r=>
  have q:=ht r rfl
  have w:=SP q
  refine gy [107] [.v<|.int (kw r.2.2) .no,.d (.int (a9 (kw r.2.2) f.sz) .no) [],.n] D (tT ok rfl rfl b td) (.c ⟨q.1,az q.2 dd⟩<|.c ⟨w.1,tI⟩<|.c (zL w.2 ok.s0 ok.s1)<|.c (HP hN)<|.d λh' D _=>k h' ?_)
  exact(Jb rfl).subst (motive:=λL=>Hd hb B [(t,.dict j),(a,.list L)] h') D
end
abbrev lk(f:Fd)(x1 x5 x6:V)(t fo:ai)(x9:SV)(x10:Option V)(cA:Option SV):SL:=[U<|.op f.M.v,U<|.op x1,U<|.int f.sz<|.b 1 30100000,U<|.op<|.fl<|f.M.ls.map lV,U<|.op<|.fl<|f.M.rs.map rV,U<|.op x5,U<|.op x6,U<|.ref 0 t,U<|.ref 1 fo,U x9,x10.map .op,cA]
def TB(f:Fd)(es:List<|Int×V):Prop:= ∀c,bu es c=(dC f.M.rs c).map rV
def i_(f:Fd)(now:Option Int)(c:Int):Option<|Int×Bool×Int:=if now=U 65 then dC f.M.rs c else Y
section
variable{f:Fd}{P:Fl->L->H->Prop}
theorem QT{g:G}(ok:f.ok)(e0:ah g 0=U (t,o))(e1:ah g 1=U (h,p))(a:aN g x9):a8 g<|lk f x1 x5 x6 t h x9 x10<|U<|.int c .no:=aB (aB<|i8 ok.s0 ok.s1<|aB<|aB<|aB<|aB<|bG e0<|bG e1<|aT a<|bJ<|aT tI bk)
theorem aL9(ht:TB f a):(bu a c).getD V.none=den (kO<|dC f.M.rs c)/\aN g (kO<|dC f.M.rs c):=⟨by rw[ht c];cases dC f.M.rs c <;>rfl,td⟩
noncomputable abbrev aD3:S:= .af (.x 10) (.ite (.eW .eq (.x 9)<|.c<|.int 65) (.me (.x 7) 3<|.cons (.x 11) .nil)<|.c .none)
set_option smartUnfolding false in
theorem ax9(ok:f.ok)(ht:TB f j) now(hn: ∀c,now=U c->f.dB c)(D:Hd hb B (eK f t a j N) h)(k: ∀h',Hd hb B (eK f t a j N) h'->P .next (aq<|lM f x1 x5 x6 t a (iT now) (kO<|i_ f now c) c) h'):
  ex I (al I<|d+1) aD3 (aq<|lk f x1 x5 x6 t a (iT now) x10<|U<|.int c .no) h P:=by
 unfold i_ at k
 cases now with
 |none=>exact gy [107] [] D (QT ok rfl rfl tI) (.d λh' D _=>k h' D)
 |some c0=>
  have p:=hn c0 rfl
  have o:=QT (c:=c) (x1:=x1) (x5:=x5) (x6:=x6) (x10:=x10) (g:=eK f t a j N) (x9:= .int c0<|.b 65 68) ok rfl rfl ⟨p.1,k8 ok p⟩
  by_cases e:c0=65
  ·rw[aM<|congrArg U e] at k
   exact gy [107] [.t,.v<|kO<|dC f.M.rs c] D o (.c e<|.c (aL9 ht)<|.d λh' D _=>k h' D)
  ·rw[aE λq=>e<|Option.some.inj q] at k
   exact gy [107] [.f] D o (.c e<|.d λh' D _=>k h' D)
theorem EC(ok:f.ok): ∀{now:Option Int},(∀c,now=U c->f.dB c)->aN g (iT now):=λ{now}=>by
 cases now with
 |none=>exact λ_=>tI
 |some c0=>exact λhn=>⟨(hn c0 rfl).1,k8 ok<|hn c0 rfl⟩
theorem H0(ok:f.ok) now(hn: ∀c,now=U c->f.dB c)(a:Option<|Int×Bool×Int)(ht: ∀r,a=U r->0<=r.2.2/\r.2.2<=1)(hN:N.length<=59)(D:Hd hb B (eK f t j l N) h)
  (k: ∀h',Hd hb B (eK f t j l<|N++hH now++nU f a) h'->P .next (aq<|lM f x1 x5 x6 t j (iT<|nx f c) (kO a) c) h'):aZ I (al I<|d+1) O_ (aq<|lM f x1 x5 x6 t j (iT now) (kO a) c) h P:=
 bz (ah6 ok now hn td (uR hN) D λh1 D1=>bz<|ZV ok a ht (EC ok hn) (by rw[aC];exact gM hN<|QS now) D1 λh2 D2=>ac9 ok (EC ok hn) td D2 k)
set_option smartUnfolding false in
theorem YV(ok:f.ok) now(hn: ∀c,now=U c->f.dB c) a(hr: ∀r,a=U r->ij f.M.ls.length r)(hN:N.length<=59)(D:Hd hb B (eK f t j l N) h)
  (i: ∀p y x10 h',a=U (p,ae,y)->Hd hb B (eK f t j l N) h'->P .cont (aq<|lk f x1 x5 x6 t j (iT<|U y) x10<|U<|.int c .no) h')
  (k2: ∀x10 h',(∀r,a=U r->r.2.1=aa)->Hd hb B (eK f t j l<|N++hH now++nU f a) h'->P .next (aq<|lk f x1 x5 x6 t j (iT<|nx f c) x10<|U<|.int c .no) h'):aZ I (al I<|d+1) H5 (aq<|lM f x1 x5 x6 t j (iT now) (kO a) c) h P:=by
 have o:=λa=>tT (c:=c) (x1:=x1) (x5:=x5) (x6:=x6) (g:=eK f t j l N) (x10:=kO a) ok rfl rfl (EC ok hn) td
 cases a with
 |none=>exact bz (gy [107] [] D (o Y)<|.d λh1 D1 _=>H0 ok now hn Y (λ_ e=>bQ e) hN D1 λh2 D2=>k2 (U .none) h2 (λ_ e=>bQ e) D2)
 |some r=>
  obtain⟨p,b,y⟩:=r
  cases b with
  |false=>exact gF [107] [] D (o<|some (p,ae,y)) (.d λh1 D1 _=>i p y (U<|rV (p,ae,y)) h1 rfl D1)
  |true=>exact bz (gy [107] [] D (o<|some (p,aa,y))<|.d λh1 D1 _=>H0 ok now hn (U (p,aa,y)) (λ_ e=>bM e▸(hr _ rfl).2) hN D1 λh2 D2=>k2 (U<|rV (p,aa,y)) h2 (λ_ e=>bM e▸rfl) D2)
theorem Cn(ok:f.ok)(e:i_ f now c=U r):ij f.M.ls.length r:=by
 unfold i_ at e
 by_cases h:now=U 65
 ·rw[aM h] at e;exact ok.M.r r (IC e)
 ·rw[aE h] at e;exact bQ e
set_option smartUnfolding false in
theorem L0(ok:f.ok)(ht:TB f l) now(hn: ∀c,now=U c->f.dB c)(hN:N.length<=59){j:Option V}(D:Hd hb B (eK f t a l N) h)
  (b: ∀p y x10 h',i_ f now c=U (p,ae,y)->Hd hb B (eK f t a l N) h'->P .cont (aq<|lk f x1 x5 x6 t a (iT<|U y) x10<|U<|.int c .no) h')
  (k2: ∀x10 h',(∀r,i_ f now c=U r->r.2.1=aa)->Hd hb B (eK f t a l<|N++hH now++nU f (i_ f now c)) h'->P .next (aq<|lk f x1 x5 x6 t a (iT<|nx f c) x10<|U<|.int c .no) h'):
  cn (al I<|d+1) (.x 11) Dm (.int c) (aq<|lk f x1 x5 x6 t a (iT now) x10<|j.map .op) h P:=
 eH (bz<|ax9 ok ht now hn D λh1 D1=>YV ok now hn (i_ f now c) (λr e=>Cn ok e) hN D1 b k2)
end
theorem aF4: ∀{a:List<|Int×V} {k c:Int} {v:V},bu (eX a k v) c=if k=c then U v else bu a c:=λ{a}=>by
 induction a with
 |nil=>exact rfl
 |cons e a ih=>
  intro k c v
  show bu (if e.1=k then _ else _) c=if k=c then U v else if e.1=c then U e.2 else bu a c
  by_cases h:e.1=k
  ·rw[aM h]
   show(if e.1=c then U v else bu a c)=_
   rw[h]
   by_cases q:k=c
   ·rw[aM q,aM q]
   ·rw[aE q,aE q,aE q]
  ·rw[aE h]
   show(if e.1=c then U e.2 else bu (eX a k v) c)=_
   rw[ih]
   by_cases q:k=c
   ·rw[aM q,aM q,aE λz=>h<|z.trans q.symm]
   ·rw[aE q,aE q]
def wX(f:Fd)(es:List<|Int×V)(s:List<|Int×Bool×Int):Prop:= ∀c,(bu es c).or ((dC s c).map rV)=(dC f.M.rs c).map rV
theorem Y9(T:wX f a<|r::s)(e:(bu a r.1).isSome=aa):wX f a s:=λc=>by
 rw[<-T c]
 show _=(bu a c).or ((if r.1=c then U r else dC s c).map rV)
 cases q:bu a c with
 |some v=>rfl
 |none=>rw[aE λz=>by rw[z,q] at e;exact fy e]
theorem T6(T:wX f a<|r::s)(e: ¬(bu a r.1).isSome=aa):wX f (eX a r.1<|rV r) s:=λc=>by
 rw[<-T c,aF4]
 show _=(bu a c).or ((if r.1=c then U r else dC s c).map rV)
 by_cases q:r.1=c
 ·rw[aM q,aM q]
  cases z:bu a c with
  |some v=>rw[q,z] at e;exact absurd rfl e
  |none=>rfl
 ·rw[aE q,aE q]
theorem aP3:(eX a k v).length<=a.length+1:=by
 induction a with
 |nil=>exact dO _
 |cons e a ih=>
  show(if e.1=k then(_:List<|Int×V) else _).length<=_
  split
  ·exact jj _
  ·exact cf ih
theorem Na(e:i_ f now c=U (p,ae,y)):J f now (c::r)=J f (U y) r:=wQ e
theorem MU(e: ∀q,i_ f now c=U q->q.2.1=aa):J f now (c::r)=hH now++nU f (i_ f now c)++J f (nx f c) r:=by
 cases h:i_ f now c with
 |none=>exact(sB h).trans (by rw[nU,c8];rfl)
 |some q=>
  obtain⟨p,b,i⟩:=q
  cases(e _ h)
  exact(w7 h).trans (by rw[aX];rfl)
section
set_option smartUnfolding false in
theorem aE1(ok:f.ok): ∀(s:List<|Int×Bool×Int) (es:List<|Int×V) (x10:Option V) {hb h:H} {B:List ai},wX f es s->es.length+s.length<=90->Hd hb B (eK f t a es []) h->(∀es x10 h',TB f es->Hd hb B (eK f t a es []) h'->P .next (aq<|lk f x1 x5 x6 t a (.op x9) x10 Y) h')->
  dg (cn (al I<|d+1) (.x 10) Lp) bP (s.map rV) (aq<|lk f x1 x5 x6 t a (.op x9) x10 Y) h P:=λs=>by
 induction s with
 |nil=>exact λes x10 hb h B T _ D k=>⟨tI,k es x10 h (λc=>by rw[<-T c];show _=(bu es c).or Y;rw[Option.or_none]) D⟩
 |cons r s ih=>
  intro es x10 hb h B T l D k
  refine⟨tI,dy [] [] D (aB<|aB<|i8 ok.s0 ok.s1<|aB<|aB<|aB<|aB<|bG rfl<|bG rfl<|aB<|bJ<|aD bk) (v:=kO<|some r) td<|.b (.c (λ_=>cz<|Nat.le_trans (cg _ _)<|Nat.le_trans l dd)<|.d λe h' D' _=>⟨h',H.le_refl _,ih _ (U<|rV r) (T6 T e) (ak (cK aP3 _)<|by rw[cG,c4 1];exact l) D' k⟩)<|.d λe h' D' _=>⟨h',H.le_refl _,ih _ (U<|rV r) (Y9 T<|Classical.not_not.mp e) (lD l) D' k⟩⟩
theorem QG(h:nx f c=U e):f.dB e:=by
 unfold nx at h
 by_cases p:65<=c/\c <65+f.M.ls.length
 ·rw[aM p] at h;exact bM h▸p
 ·rw[aE p] at h;exact bQ h
theorem ad7: ∀a,(nU f a).length<=1
 |Y=>j3 _
 |U _=>dO _
theorem Lk(h:a+2*(b+1)<=60):a<=59:=uT (ak (eG (cf<|j3 _) a) h)
theorem SY(ok:f.ok)(ht:TB f j): ∀r now N (x10 cA:Option V) {hb h:H} {B:List ai},(∀c,now=U c->f.dB c)->N.length+2*(r.length+1)<=60->Hd hb B (eK f t a j N) h->
  (∀x9 (x10 cA:Option V) h',Hd hb B (eK f t a j<|N++J f now r) h'->P .next (aq<|lk f x1 x5 x6 t a (.op x9) x10<|cA.map .op) h')->
  dg (cn (al I<|d+1) (.x 11) Dm) bP (vi<|r++[0]) (aq<|lk f x1 x5 x6 t a (iT now) x10<|cA.map .op) h P:=λr=>by
 induction r with
 |nil=>
  intro now N x10 cA hb h B hn hN D k
  have e0:i_ f now 0=Y:=by unfold i_;rw[wH ok.M.r λq=>absurd q.1 dd,ite_self]
  exact⟨tI,L0 ok ht now hn (Lk hN) D (λp y x10 h' e D'=>bQ <|e0.symm.trans e) λx10 h' e D'=>⟨h',H.le_refl _,tI,k (den<|iT<|nx f 0) x10 (U<|.int 0) h'<|by rw[e0,nU,c8] at D';exact D'⟩⟩
 |cons c r ih=>
  intro now N x10 cA hb h B hn hN D k
  rw[eT] at hN
  have hN1:N.length+2+2*(r.length+1)<=60:=by rw[cG,c4 2,<-py];exact hN
  refine⟨tI,L0 ok ht now hn (Lk hN) D (λp y x10 h' e D'=>⟨h',H.le_refl _,?_⟩) λx10 h' e D'=>⟨h',H.le_refl _,?_⟩⟩
  ·rw[Na e] at k
   exact ih (U y) N x10 (U<|.int c) (λz q=>bM q▸(Cn ok e).2) (ak (cK (cg _ 2) _) hN1) D' k
  ·rw[MU e,<-aX,<-aX] at k
   exact ih (nx f c) _ x10 (U<|.int c) (λz q=>QG q) (ak (cK (by rw[aC,aC,cG];exact eG (gM (QS now)<|ad7 _) _) _) hN1) D' k
set_option smartUnfolding false in
theorem ag2(ok:f.ok){Q:V->H->Prop}{x10 a:Option V}(D:Hd l [] (eK f t j o N) h)(k: ∀h',H.le l h'->Q (.fl<|N.map<|rP f) h'):aZ I (al I<|d+1) E6 (aq<|lk f x1 x5 x6 t j (.op x9) x10<|a.map .op) h<|ie Q:=
 gF [] [] D (aB<|aB<|i8 ok.s0 ok.s1<|aB<|aB<|aB<|aB<|bG rfl<|bG rfl<|aB<|bJ<|bJ bk) (.d λh' D _=>⟨h',H.le_refl _,k h'<|a7 D.f⟩)
set_option smartUnfolding false in
theorem TO{Q:V->H->Prop}(ok:f.ok)(hl:a.length<=4)(k: ∀h',H.le h h'->Q (.fl<|(J f Y a).map<|rP f) h'):al I (d+2) 108 [f.M.v,.fl<|vi a,.int f.sz] h Q:=
 e_ (fn:=Hn) rfl rfl (jU (ρ:=[U<|.aj [.op<|.fl<|f.M.ls.map lV,.op<|.fl<|f.M.rs.map rV,.int f.M.ck .no,.int f.M.de .no],U<|.op<|.fl<|vi a,U<|.int f.sz .no,Y,Y,Y,Y,Y,Y,Y,Y,Y]) 2 [] [] (Hd.of Fa.nl) (aT (d4<|bD<|bD<|bL tI<|bL tI aY)<|aB<|aT tI<|aD<|aD<|aD<|aD<|aD<|aD<|aD<|aD<|aD bk) (.d λt fo h1 D1 _=>
  bz (iE (jM (ap rfl (.fJ (aE1 ok f.M.rs [] Y (λ_=>rfl) (by rw[j2,gK];exact ak ok.M.m3 dd) D1 λes x10 h2 ht D2=>
   bz (iE (U2 (eE (ap rfl (wO (ay (bl (bh (.xa (cz<|by rw[aC,cU];exact ak (cf hl) dd) (.fJ (by
    have q:=SY (d:=d) (x1:= .fl<|vi a) (x5:= .int f.M.ck) (x6:= .int f.M.de) (P:=og (al I<|d+1) E6<|ie Q) ok ht a Y [] x10 Y (λ_ e=>bQ e) (by rw[j2,gK];exact ak (ji 2<|cf hl) dd) D2 λx9 x10 cA h3 b=>ag2 ok b k
    rw[eC] at q
    exact q))))))))))))))))))
end
abbrev CX:cW:=al I 100
noncomputable def WW(M:aW)(s1 s2:Int)(b a:ai):Wt:=⟨M,λn=>if n=1 then s1 else s2,λn=>if n=1 then b else a⟩
section
theorem UJ: ∀{k:Kd},0<=143+(k.rm s:Int)+k.dk -1/\143+(k.rm s:Int)+k.dk -1<=255:=λ{k}=>by
 have w: ∀{x:Nat} {y:Int},x<=4->0<=y->y<=10->0<=143+(x)+y -1/\143+(x)+y -1<=255:=by lia
 have e:=(k6 s).2
 have t: ∀b,0<=dl b/\dl b<=10:=λb=>by cases b <;>decide
 cases k with
 |p=>exact w e dd dd
 |r b c=>cases c with
  |false=>exact w e (t b).1 (t b).2
  |true=>exact w (j3 4) (t b).1 (t b).2
theorem am7(wok:W.ok){R}: ∀{c:bm},hE W R c->ef (h7 W c)
 |.mv _ _,_=>jG UJ (j_ _ _)
 |.dn s,_=>jG (by have:=k6 s;lia) (j_ _ _)
 |.fd n,o=>Nn (ak (eG (uV.mpr o.1.2) 96) dd)
 |.fn _,o=>jG ⟨az dd<|fG o.1.1 171,az (fG o.1.2 171) dd⟩ mK
 |.ch c,o=>jG ⟨az dd o.2.1.1,az (eR<|jB o.2.1.2<|fG (bS.mpr wok.M.n4) 65) dd⟩ mK
theorem Lv(wok:W.ok): ∀{R:List bm},k9 W R->ef (aH W R)
 |[],_=>mK
 |_::_,o=>gg (Lv wok o.2) (am7 wok o.1)
theorem al3(wok:W.ok){R}(o:k9 W R):ef<|eP++iJ W R:=
 gg (show∀i∈eP,0<=i/\i<=255 by decide) (gg (gg (show∀i∈iW,0<=i/\i<=255 by decide)<|Lv wok o)<|jG dd mK)
theorem VP{R}(h:(iW++aH W R).length<=525):(eP++iJ W R).length<=549:=by
 unfold iJ
 rw[aC,aC]
 exact eG (cf h) 23
theorem Ze{a}(h:a.length<=549)(hl:l.length<=60):(tc W a j o l).length<=100000:=by
 have p:nh (uf W a j o l).length<=8:=aS9 (fG (eR<|qQ _ dd) 4)
 unfold tc
 rw[aC,GK]
 refine ak (eG p _) ?_
 unfold uf
 rw[aC,aC,aC,aC,Dl,NT,cH]
 exact ak (cK (cK (cK (cK (gM (cK h 29)<|ji 18 hl) 1) 4) 1) 8) dd
end
abbrev CQ(left a:Int)(qs:List Pp):List V:=dV (a+e8 0 qs) left 0 qs
def oy(left a:Int)(qs:List Pp):kN:=mJ (a+e8 0 qs) left 0 qs nJ
section
variable{b:ai}{vs:List V}{qs:List Pp}{P:Fl->c6.L->H->Prop}
theorem Ww(i:d7 vs qs)(hl:qs.length<=16)(ok: ∀q∈qs,kD W q)(lb:0<=left/\left<=1000)(tb:0<=a/\a<=1000):qm (a+e8 0 qs) left 0 qs nJ 45 0/\Iv W (oy left a qs).E (oy left a qs).hh (oy left a qs).vv (oy left a qs).fn (CQ left a qs) (oy left a qs).D:=by
 have d0:cR 0:=by unfold cR;decide
 have db:cR<|a+e8 0 qs:=⟨az dd<|GH tb.1 (w8 i).1,az (fS tb.2 (w8 i).2) dd⟩
 have r:=Zp lb db qs 0 0 nJ i.El (by rw[gK];exact hl) dd dd d0 d0 (dO 0)
 exact⟨r,Y0 qs 0 nJ 45 0 [] ok r ⟨rfl,tI,rfl,.nil,λ_ m=>dz m⟩⟩
abbrev pc(x0 x1 x2 x3 x4 x5:Option V)(left a:Int)(x8 x9 x10 cA kG:Option V)(W:Wt)(c:V)(nA mA tJ zo xO:Option V):L:=[x0,x1,x2,x3,x4,x5,U<|.int left,U<|.int a,x8,x9,x10,cA,kG,U<|k5 W,U c,nA,mA,tJ,zo,xO,Y,Y,Y,Y,Y]
theorem Wf{y}(k: ∀w oc fd h',h' w=U (.aK 8<|bZ<|jJ (.op<|.ref oc) (.op<|.ref fd) 0 (-1) 0 0)->h' oc=U (.list<|vi eP)->h' fd=U (.dict [])->h w=Y->h oc=Y->H.le h h'->P .next (pc A x1 x2 D x4 x5 left u z x9 x10 j o W y t l p (U<|.ref w) Y) h'):
  ex I CX (.af (.x 18)<|.new 8<|.cons (.c<|.int 2) .nil) (pc A x1 x2 D x4 x5 left u z x9 x10 j o W y t l p Y Y) h P:=
 nN (U7 rfl<|ay<|bl<|bh λa na=>Uu (H.kb _ _ _) λh1 oc fd e1 e2 e3 f1 n1 n2=> .MA<|eH<|k a oc fd h1 e1 e2 e3 na (H.Z8 n1).2<|Ae (H.Wg (H.le_refl _) na) na f1)
theorem aA3{w p y}(B:Bx (fI qs) (e8 0 qs) (hI 0 qs) left a)(e1:h w=U (.aK 8<|bZ<|jJ (.op<|.ref p) (.op<|.ref y) 0 (-1) 0 0))(e2:h p=U (.list<|vi eP))(e3:h y=U (.dict []))(i:d7 vs qs)(hl:qs.length<=16)(ok: ∀q∈qs,kD W q)(r:qm (a+e8 0 qs) left 0 qs nJ 45 0)
  (k: ∀h' c R,Wr W h h' w p c R (oy left a qs).D (dL 0 [e8 0 qs+hI 0 qs+a]) (dL 0 [fI qs+left])->R.map er=(oy left a qs).E->(iW++aH W R).length<=45+30*qs.length->P .next (pc A x1 x2 D x4 x5 left a z x9 x10 j o W (.fz b 4<|gm (fI qs) (e8 0 qs) (hI 0 qs) vs) u l t (U<|.ref w) Y) h'):
  ex I CX (.expr<|.me (.x 18) 30<|.cons (.x 14)<|.cons (.tu<|.cons (.c<|.int 3) .nil)<|.cons (.x 6)<|.cons (.x 7) .nil) (pc A x1 x2 D x4 x5 left a z x9 x10 j o W (.fz b 4<|gm (fI qs) (e8 0 qs) (hI 0 qs) vs) u l t (U<|.ref w) Y) h P:=
 ip (gv<|ap rfl<|.jn e1 rfl rfl<|ay<|ap rfl<|ay<|mU<|ay<|bl<|bh<|ay<|ap rfl<|ay<|ap rfl<|bh<|ag7 B e1 e2 e3 i hl ok r rfl k)
theorem Vf{h0}{Q}{w oc fd}{D}{R}{j a}(wok:W.ok)(ws:Wr W h0 h w oc fd R D j a)(e:ef<|eP++iJ W R)(ol:(eP++iJ W R).length<=549)(o:k9 W R)(rl:R.length<=90)(eD:eg R=D)(nd:D.Nodup)(hD: ∀n∈D,1<=n/\n<=2)(dl:D.length<=60)(c: -2147483648<=j/\j <2147483648)(f: -2147483648<=a/\a <2147483648)
  (k: ∀dv h',H.le h h'->P .next (pc x0 x1 x2 x3 x4 x5 left A X x9 x10 p u W Q z t y (U<|.ref w)<|U<|.fz dv 11<|mi W (bT W R).cC D j a) h'):
  ex I CX (.af (.x 19)<|.call 93<|.cons (.me (.x 18) 31 .nil)<|.cons (.x 13) .nil) (pc x0 x1 x2 x3 x4 x5 left A X x9 x10 p u W Q z t y (U<|.ref w) Y) h P:=
 nN (eI (ay (gv (ap rfl (.jn ws.hw rfl rfl (bh (an5 ws.hw ws.ho ws.hf (ak ol dd) e hD dl λl h3 l3 pm so=>
  ay<|ap rfl<|bh<|aI0 wok ws.gd o rl (eD.symm▸pm) (eD.symm▸nd) (eD.symm▸hD) c f rfl (Ze ol<|pm.length_eq▸dl) λh4 dv l4=>eH<|eD▸k dv h4 (H.le_trans l3 l4))))))))
theorem KL{x}(h:x<=1000000000): -2147483648<=dL 0 [x]/\dL 0 [x] <2147483648:=
 have b:=ww dd dd λ_ m=>b9.mp m▸h
 ⟨az dd b.1,g7 b.2 dd⟩
theorem aH2{a}: ∀(qs:List Pp) (n:Int) (s:kN),(mJ a left n qs s).D.length<=s.D.length+qs.length:=λqs=>by
 induction qs with
 |nil=>exact λn s=>dO _
 |cons q qs ih=>exact λn s=>ak (ih _ _) (by rw[eT,c4 qs.length,<-cG];exact cK KT _)
theorem an7(wok:W.ok)(i:d7 vs qs)(hl:qs.length<=16)(ok: ∀q∈qs,kD W q)(lb:0<=left/\left<=1000)(tb:0<=a/\a<=1000)
  (k: ∀dv w ta c h',H.le h h'->aZ I CX EJ (pc D x1 x2 Q x4 x5 left a A x9 x10 j p W (.fz b 4<|gm (fI qs) (e8 0 qs) (hI 0 qs) vs) z l u (U<|.ref w)<|U<|.fz dv 11<|mi W (CQ left a qs) (oy left a qs).D ta c) h' P):
  aZ I CX CM (pc D x1 x2 Q x4 x5 left a A x9 x10 j p W (.fz b 4<|gm (fI qs) (e8 0 qs) (hI 0 qs) vs) z l u Y Y) h P:=
 have iv:=Ww i hl ok lb tb
 have w:=Go i hl
 have t:=w8 i
 have d:=Ff i
 bz (Wf λw1 oc fd h1 e1 e2 e3 n0 n1 l1=>bz (aA3 ⟨w.1,w.2,t.1,t.2,d.1,d.2,lb.1,lb.2,tb.1,tb.2⟩ e1 e2 e3 i hl ok iv.1 λh2 g R ws er el=>
  have rl:=ak (jC<|bN (f:=La.er)▸aA aS2 er) (ak (UX qs 0 nJ)<|ak (jC<|gK _)<|ji 5 hl)
  have eD:=(HD R).symm.trans ((aA eg er).trans iv.2.df)
  have o:=aE2 R (er▸iv.2.ok)
  have eS:(bT W R).cC=CQ left a qs:=by rw[<-Oo R,er,iv.2.se]
  bz (Vf wok ws (al3 wok o) (VP<|ak el<|eG (ji 30 hl) 45) o (ak rl dd) eD iv.2.nd iv.2.i2 (ak (aH2 qs 0 nJ)<|ak (jC<|gK _)<|ak hl dd) (KL<|az (fS (fS t.2 d.2) tb.2) dd) (KL<|az (fS w.2 lb.2) dd) λdv h3 l3=>
   eS.symm▸k dv w1 _ _ h3 (H.le_trans (λb y e=>ws.fr b y (l1 b y e)<|kh (λq=>gJ <|(q▸e).symm.trans n0) λq=>gJ <|(q▸e).symm.trans n1) l3))))
end
noncomputable def qV(q:Pp):V:= .aj [.int q.f.n,(match q.p with|.lt c=> .int c|.kn _=> .none),.int q.wd,.int q.ht,.int q.dp]
noncomputable abbrev sY(v:Nat->V)(m8:SV)(m1 v19:V)(a tall:Int)(u:ai)(lW:SV)(dW k7 x24:Option SV):SL:=[U<|.op<|v 0,U<|.op m1,U<|.op<|v 2,U<|.op<|v 3,U<|.op<|v 4,U<|.op<|v 5,U<|.op<|v 6,U<|.int a .no,U m8,U<|.op<|v 9,U<|.op<|v 10,U<|.op<|v 11,U<|.op<|v 12,U<|.op<|v 13,U<|.op<|v 14,U<|.op<|v 15,U<|.int tall .no,U<|.op<|v 17,U<|.op<|v 18,U<|.op v19,U<|.ref 0 u,U lW,dW,k7,x24]
section
theorem z9{g:G}{p a}(e:ah g 0=U (u,o))(b:aN g p)(w:a8 g [U a,h,j,x24]):a8 g<|sY v p y v19 t l u a h j x24:=
 aB (aB<|aB<|aB<|aB<|aB<|aB<|aT tI<|aT b<|aB<|aB<|aB<|aB<|aB<|aB<|aB<|aT tI<|aB<|aB<|aB<|bG e w)
set_option smartUnfolding false in
theorem U3{t o x24:Option V}(hl:z.length<=90)(D:Hd hb B [(u,.list z)] h)
  (k: ∀h',Hd hb B [(u,.list<|z++jN (y+j) l q)] h'->P .next (aq<|sY v (.op Q) A v19 y j u (.int (l+q.wd) .no) (U<|.op<|qV q) (o.map .op)<|x24.map .op) h'):
  cn CX (.x 22) zz (qV q) (aq<|sY v (.op Q) A v19 y j u (.int l .no) (t.map .op) (o.map .op)<|x24.map .op) h P:=by
 obtain⟨f,a,p⟩:=q
 have ol: ∀{g:G},a8 g [U<|.int l .no,t.map .op,o.map .op,x24.map .op]:=aT tI (bJ<|bJ<|bJ bk)
 cases p with
 |lt c=>exact dy (n:=0) [] [] D (z9 rfl tI ol) (v:= .aj [.int f.n .no,.int c .no,.int (pw f<|.lt c).1 .no,.op<|.int (pw f<|.lt c).2.1,.op<|.int (pw f<|.lt c).2.2]) (d4<|bL tI<|bL tI<|bL tI<|bD<|bD aY) (.c (cz<|Nat.le_trans (cf hl) dd)<|.d λh' D' _=>k h' D')
 |kn w=>exact dy (n:=0) [] [] D (z9 rfl tI ol) (v:= .aj [.int f.n .no,.op .none,.int (pw f<|.kn w).1 .no,.op<|.int (pw f<|.kn w).2.1,.op<|.int (pw f<|.kn w).2.2]) (d4<|bL tI<|bD<|bL tI<|bD<|bD aY) (.d λh' D' _=>k h'<|by unfold jN;rw[c8];exact D')
theorem Yv: ∀qs n Lr (dW k7 x24:Option V) {hb h:H} {B:List ai},Lr.length+qs.length<=90->Hd hb B [(u,.list Lr)] h->(∀lW (dW:Option V) h',Hd hb B [(u,.list<|Lr++dV (j+a) left n qs)] h'->P .next (aq<|sY v (.op o) l v19 j a u (.int lW .no) (dW.map .op) (k7.map .op)<|x24.map .op) h')->
  dg (cn CX (.x 22) zz) bP (qs.map qV) (aq<|sY v (.op o) l v19 j a u (.int (left+n) .no) (dW.map .op) (k7.map .op)<|x24.map .op) h P:=λqs=>by
 induction qs with
 |nil=>exact λn Lr dW k7 x24 hb h B _ D k=>⟨tI,k (left+n) dW h<|by show Hd hb B [(u,.list<|Lr++[])] h;rw[c8];exact D⟩
 |cons q qs ih=>
  intro n Lr dW k7 x24 hb h B hl D k
  rw[eT] at hl
  refine⟨tI,U3 (ak (cg _ _) hl) D λh' D'=>⟨h',H.le_refl _,?_⟩⟩
  have rl:(jN (j+a) (left+n) q).length<=1:=by
   unfold jN
   cases q.p with
   |lt c=>exact dO _
   |kn w=>exact j3 _
  have z:=ih (n+q.wd) (Lr++jN (j+a) (left+n) q) (U<|qV q) k7 x24 (ak (cK (by rw[aC];exact eG rl _) _)<|by rw[cG,c4 1];exact hl) D' λlW dW h2 D2=>k lW dW h2 (by rw[aX] at D2;exact D2)
  rw[<-gp] at z
  exact z
theorem Z1: ∀{h:List Pp} {n a left:Int},(dV a left n h).all (fR 5)=aa:=λ{h}=>by
 induction h with
 |nil=>exact rfl
 |cons q h ih=>
  intro n a left
  show(jN a (left+n) q++dV a left (n+q.wd) h).all (fR 5)=aa
  rw[List.all_append,ih,aT3]
  unfold jN
  cases q.p <;>rfl
theorem aI5(h:a.all (fR 5)=aa):[xT a].all (fR 7)=aa:=by
 show((aa&&((a.all<|fR 5)&&aa))&&aa)=aa
 rw[h];rfl
end
noncomputable def lY:List Pp->List Int
 |[]=>[]
 |q::qs=>(match q.p with|.lt _=>[q.f.n]|.kn _=>[])++lY qs
theorem at4:n∈ku m D↔n∈D\/n=m:=by
 unfold ku
 by_cases e:m∈D
 ·rw[aM e];exact⟨.inl,λh=>h.elim id λh=>h▸e⟩
 ·rw[aE e];exact pB.trans ⟨λh=>h.imp id b9.mp,λh=>h.imp id b9.mpr⟩
theorem TH: ∀qs n s,m∈(mJ a left n qs s).D↔m∈s.D\/m∈lY qs:=λqs=>by
 induction qs with
 |nil=>exact λn s=>⟨.inl,λh=>h.elim id λh=>dz h⟩
 |cons q qs ih=>
  intro n s
  refine(ih (n+q.wd)<|iH a (left+n) q s).trans ?_
  show m∈(iH a (left+n) q s).D\/m∈lY qs↔m∈s.D\/m∈(match q.p with|.lt _=>[q.f.n]|.kn _=>[])++lY qs
  unfold iH
  cases q.p with
  |kn w=>exact Iff.rfl
  |lt c=>exact(or_congr_left at4).trans (or_assoc.trans<|or_congr_right ⟨λh=>h.elim (λh=>h▸ .head _)<|.tail _,λh=>bB.mp h⟩)
theorem Xh(b:g h): ∀qs n {K:List V->H->Prop},K (vi<|lY qs) h->hO (qD C (.c<|.bool aa) (.ix (.x 0)<|.c<|.int 3) []) g (dV a left n qs) h K:=λqs=>by
 induction qs with
 |nil=>exact λn K k=>⟨b,k⟩
 |cons q qs ih=>
  intro n K k
  show hO _ g (jN a (left+n) q++dV a left (n+q.wd) qs) h K
  have k:K (vi<|(match q.p with|.lt _=>[q.f.n]|.kn _=>[])++lY qs) h:=k
  unfold jN
  cases e:q.p with
  |kn w=>rw[e] at k;exact ih _ k
  |lt c=>rw[e] at k;exact⟨b,nG<|iC<|ap rfl<|bl<|.nZ dd dd rfl<|ih _ k⟩
section
variable{dW x24:Option V}{P:Fl->L->H->Prop}
abbrev sZ(v:Nat->V)(W:Wt)(D:List Int)(ta b:Int)(dv z u:ai)(a tall:Int)(cC:List V)(lW:V)(dW:Option V)(n:Int)(x24:Option SV):SL:=sY v (.ref 1 z) W.M.v (.fz dv 11<|mi W cC D ta b) a tall u (.op lW) (dW.map .op) (U<|aL n) x24
abbrev gZ(W:Wt)(u z:ai)(cC:List V):G:=[(u,.list cC),(z,.list [.int<|W.s 1,.int<|W.s 2])]
theorem uD{g:G}(e:ah g 0=U (u,o))(e1:ah g 1=U (z,p))(b:a8 g [y]):a8 g<|sZ v W D t Q A z u j a h l dW n y:=z9 e ⟨_,e1⟩ (aT tI<|bJ<|gx b)
theorem KD{ρ:L}(b:ah ρ 20=U (U<|.ref u))(e:ah ρ 23=U (U<|.int n))(c:ah ρ 24=U (U x))(hx: ∀{J:Prop->Prop},J (n∈lY j)->cB h J .l6 x .none)(f:h u=U (.list<|dV a left 0 j))(hl:(dV a left 0 j).length<=100)(k:P .next ρ h):
  ex I CX (.ite (.eW .ne (.eW .l6 (.x 24)<|.c .none)<|.eW .pa (.x 23)<|.comp aa [] (.x 20) (.c<|.bool aa)<|.ix (.x 0)<|.c<|.int 3) HZ .nil) ρ h P:=
 Gg (iS<|Mu<|ap c<|bl<|hx<|Mu<|ap e<|kx<|jM<|ap b<|.PP f ⟨cz hl,jr<|Xh f j 0<|.LB<|.LV<|gk (λq=>q rfl)<|f_ k⟩)
set_option smartUnfolding false in
theorem Jh(D':Hd hb B (gZ W u z a) h)(hw:(bu (eM W D) n).getD .none=w)(hn:n=1\/n=2)(k: ∀h',Hd hb B (gZ W u z a) h'->P .next (aq<|sZ v W D y t p z u o j a l dW n<|U<|.op w) h'):
  ex I CX (.af (.x 24)<|.me (.at (.x 19) 37) 3<|.cons (.x 23) .nil) (aq<|sZ v W D y t p z u o j a l dW n<|x24.map .op) h P:=by
 rcases hn with rfl|rfl
 ·exact gy (n:=0) [] [.v<|.op w] D' (uD rfl rfl<|bJ bk) (.c ⟨hw,tI⟩<|.d λh' D _=>k h' D)
 ·exact gy (n:=0) [] [.v<|.op w] D' (uD rfl rfl<|bJ bk) (.c ⟨hw,tI⟩<|.d λh' D _=>k h' D)
set_option smartUnfolding false in
theorem Pa(D':Hd hb B (gZ W u z a) h)(hn:n=1\/n=2)(k: ∀x24 h',Hd hb B (gZ W u z a) h'->P .next (aq<|sZ v W D p y t z u l j a o dW n<|U<|.op x24) h'):
  aZ I CX Cd (aq<|sZ v W D p y t z u l j a o dW n<|U<|.op<|kC W n) h P/\aZ I CX Cd (aq<|sZ v W D p y t z u l j a o dW n<|U<|.op .none) h P:=by
 rcases hn with rfl|rfl
 ·exact⟨gF (n:=0) [] [.n,.n,.n] D' (uD rfl rfl<|aB bk)<|.c ⟨rfl,rfl⟩<|.d λh' D _=>k _ h' D,gF (n:=0) [] [] D' (uD rfl rfl<|aB bk)<|.d λh' D _=>k _ h' D⟩
 ·exact⟨gF (n:=0) [] [.n,.n,.n] D' (uD rfl rfl<|aB bk)<|.c ⟨rfl,rfl⟩<|.d λh' D _=>k _ h' D,gF (n:=0) [] [] D' (uD rfl rfl<|aB bk)<|.d λh' D _=>k _ h' D⟩
theorem Jp(D':Hd hb B (gZ W u z<|dV a left 0 l) h)(hl:(dV a left 0 l).length<=100)(hD:n∈D↔n∈lY l)(hn:n=1\/n=2)(k: ∀x24 h',Hd hb B (gZ W u z<|dV a left 0 l) h'->P .next (aq<|sZ v W D Q A y z u t o (dV a left 0 l) p dW n<|U<|.op x24) h'):
  aZ I CX KO (aq<|sZ v W D Q A y z u t o (dV a left 0 l) p dW n<|x24.map .op) h P:=
 if m:n∈D then bz (Jh D' (by rw[vD.1 m];rfl) hn λh1 D1=>bz<|KD rfl rfl rfl (λj=> .J_ rfl<|eq_true (hD.mp m)▸j) (D1.am 0 u _ rfl) hl (Pa D1 hn k).1)
 else bz (Jh D' (by rw[vD.2 m];rfl) hn λh1 D1=>bz<|KD rfl rfl rfl (λj=> .LA<|eq_false (λq=>m<|hD.mpr q)▸j) (D1.am 0 u _ rfl) hl (Pa D1 hn k).2)
end
abbrev PT:Fl->L->H->Prop:=λfl _ _=>vN fl= .bool aa
section
variable{W:Wt}{dW x24:Option V}
theorem ap1(b:h u=U (.list<|dV a left 0 j))(hz:h z=U (.list [.int<|W.s 1,.int<|W.s 2]))(nz:u≠z)(hl:(dV a left 0 j).length<=100)(hD: ∀n,n∈D↔n∈lY j):
  aZ I CX Ge (aq<|sY v (.op<|.ref z) W.M.v (.fz A 11<|mi W (dV a left 0 j) D t Q) o l u (.op p) (dW.map .op) Y Y) h PT:=
 have c:=Hd.of (g:=gZ W u z<|dV a left 0 j) (Fa.ls b (b8 nz bj)<|Fa.ls hz bj Fa.nl)
 bz (iE<|aL2<|mU<|ay<|bl<|ay<|bl<|bh<|.tV ⟨tI,eH<|Jp (x24:=Y) c hl (hD 1) (.inl rfl) λy h1 D1=>⟨h1,H.le_refl _,tI,eH<|Jp (x24:=U y) D1 hl (hD 2) (.inr rfl) λy h2 D2=>⟨h2,H.le_refl _,tI,bz<|mH<|bl rfl⟩⟩⟩)
set_option smartUnfolding false in
theorem ad8(D':Hd hb B [(u,.list<|dV a left 0 l)] h)(hl:(dV a left 0 l).length<=100)(k: ∀h',Hd hb B [(u,.list<|dV a left 0 l)] h'->aZ I CX Ge (aq<|sY v (.op<|.ref z) W.M.v (.fz t 11<|mi W (dV a left 0 l) D A y) p j u (.op o) (dW.map .op) Y Y) h' P):
  aZ I CX zK (aq<|sY v (.op<|.ref z) W.M.v (.fz t 11<|mi W (dV a left 0 l) D A y) p j u (.op o) (dW.map .op) Y Y) h P:=
 bz (gy (n:=0) [] [.n] D' (z9 rfl tI<|aB<|bJ<|aD<|aD bk)<|.c (cz hl)<|.c ⟨rfl,aI5 Z1⟩<|.d λh' D _=>k h' D)
end
def lv(l:List V):Nat->V:=λn=>(ah l n).getD .none
section
theorem Wm: ∀{h:List Pp} {n a:Int},(dV a left n h).length<=h.length:=λ{h}=>by
 induction h with
 |nil=>exact dO _
 |cons q h ih=>
  intro n a
  show(jN a (left+n) q++dV a left (n+q.wd) h).length<=h.length+1
  rw[aC,c4 h.length]
  refine gM ?_ ih
  unfold jN
  cases q.p with
  |lt c=>exact dO _
  |kn w=>exact j3 _
noncomputable abbrev s18(v:Nat->V)(m8 m1 v19:V)(a tall:Int):SL:=[U<|.op<|v 0,U<|.op m1,U<|.op<|v 2,U<|.op<|v 3,U<|.op<|v 4,U<|.op<|v 5,U<|.op<|v 6,U<|.int a .no,U<|.op m8,U<|.op<|v 9,U<|.op<|v 10,U<|.op<|v 11,U<|.op<|v 12,U<|.op<|v 13,U<|.op<|v 14,U<|.op<|v 15,U<|.int tall .no,U<|.op<|v 17,U<|.op<|v 18,U<|.op v19,Y,Y,Y,Y,Y]
set_option smartUnfolding false in
theorem ax8(g:v 6= .int left)(b:v 15= .fl (l.map qV))(hz:h z=U (.list [.int<|W.s 1,.int<|W.s 2]))(c:l.length<=16)(hD: ∀n,n∈D↔n∈lY l):
  aZ I CX EJ (aq<|s18 v (.ref z) W.M.v (.fz p 11<|mi W (dV (j+a) left 0 l) D o t) j a) h PT:=
 have rl:(dV (j+a) left 0 l).length<=100:=ak Wm (ak c dd)
 jU (n:=0) 1 [] [] (Hd.of Fa.nl)
  (aB<|aB<|aB<|aB<|aB<|aB<|aB<|aT tI<|aB<|aB<|aB<|aB<|aB<|aB<|aB<|aB<|aT tI<|aB<|aB<|aB<|aD<|aD<|aD<|aD<|aD bk)
  (.d λu h1 D1 _=>bz (iE (jM (ap (aA (λx=>U<|U x) b) (.fJ (by
   have q:=Yv (v19:= .fz p 11<|mi W (dV (j+a) left 0 l) D o t) (P:=og CX zK PT) l 0 [] Y Y Y (ak (jC<|gK _)<|ak c dd) D1 λlW dW h2 D2=>
    ad8 (v:=v) D2 rl λh3 f=>ap1 (f.am 0 u _ rfl) (f.f _ _ hz λm=>dz m) (λe=>gJ <|(e▸hz).symm.trans<|D1.im (k:=0) rfl nofun) rl hD
   rw[eZ] at q
   exact g.symm.subst (motive:=λy=>dg (cn CX (Tg.x 22) zz) bP (l.map qV) (aq<|sY v (.op<|.ref z) W.M.v (.fz p 11<|mi W (dV (j+a) left 0 l) D o t) j a u (.op y) Y Y Y) h1<|og CX zK PT) q))))))
theorem aP6:n∈(oy left j a).D↔n∈lY a:=(TH a 0 nJ).trans ⟨λh=>h.elim (λh=>dz h) id,.inr⟩
theorem XN{a0 Q y A X D p j t u}(wok:W.ok)(i:d7 vs a)(hl:a.length<=16)(ok: ∀q∈a,kD W q)(lb:0<=left/\left<=1000)(tb:0<=o/\o<=1000)(hz:h z=U (.list [.int<|W.s 1,.int<|W.s 2])):
  aZ I CX CM (pc (U a0) (U W.M.v) (U Q) (U y) (U A) (U X) left o (U<|.ref z) (U D) (U p) (U j) (U t) W (.fz b 4<|gm (fI a) (e8 0 a) (hI 0 a) vs) (U<|.fl<|a.map qV) (U<|.int<|e8 0 a) (U u) Y Y) h PT:=
 an7 wok i hl ok lb tb λdv w ta c h' l=>ax8 (v:=lv [a0,.none,Q,y,A,X,.int left,.none,.none,D,p,j,t,k5 W,.fz b 4<|gm (fI a) (e8 0 a) (hI 0 a) vs,.fl<|a.map qV,.none,u,.ref w]) rfl rfl (l _ _ hz) hl λn=>aP6
end
theorem WE{f:Fd}(ok:f.ok) i: -2100000<=a9 (kw i) f.sz/\a9 (kw i) f.sz<=60000000:=wS ok.s0 ok.s1 (show -70000<=kw i/\kw i<=2001000 by unfold kw;split <;>decide)
theorem Lf(hn: ∀c,n=U c->f.dB c): ∀p∈hH n,nk f p:=λp m=>by
 cases n with
 |none=>exact dz m
 |some c=>exact b9.mp m▸hn c rfl
theorem XM(ok:f.ok) tp: ∀p∈nU f tp,nk f p:=λp m=>by
 cases tp with
 |none=>exact dz m
 |some r=>exact b9.mp m▸WE ok r.2.2
theorem Bk{α:Type}{P:α->Prop}{l m:List α}(h: ∀x∈l,P x)(k: ∀x∈m,P x): ∀x∈l++m,P x:=λx i=>(pB.mp i).elim (h x) (k x)
theorem CR(ok:f.ok): ∀r now,(∀c,now=U c->f.dB c)-> ∀p∈J f now r,nk f p:=λr=>by
 induction r with
 |nil=>exact λnow hn=>Lf hn
 |cons c r ih=>
  intro now hn
  have go:=λe: ∀q,i_ f now c=U q->q.2.1=aa=>MU e▸Bk (Bk (Lf hn)<|XM ok _) (ih (nx f c) λ_=>QG)
  cases h:i_ f now c with
  |none=>exact go λq e=>bQ <|h.symm.trans e
  |some q=>
   obtain⟨p,b,y⟩:=q
   cases b with
   |true=>exact go λq e=>bM (h.symm.trans e)▸rfl
   |false=>exact Na h▸ih (U y) λz q=>bM q▸(Cn ok h).2
noncomputable abbrev C9(f:Fd)(a:ai)(N:List Pt):List Pp:=N.map λp=>⟨f,a,p⟩
theorem fM.items(ok:f.ok)(i:fM (f.v a) vs N):(∀p∈N,nk f p)->d7 vs (C9 f a N):=by
 induction i with
 |nil=>exact λ_=> .nil
 |cons x _ ih=>exact λh=> .cons x ⟨ok,h _<|.head _⟩ (ih λp m=>h p<|.tail _ m)
theorem Wt.ok.f{W:Wt}(w:W.ok)(hn:n=1\/n=2):(W.f n).ok:=hn.elim (λe=>e▸⟨w.M,(dd:(1:Int)<=1),(dd:(1:Int)<=255),.inl rfl,w.s0 1,w.s1 1⟩) λe=>e▸⟨w.M,(dd:(1:Int)<=2),(dd:(2:Int)<=255),.inr rfl,w.s0 2,w.s1 2⟩
def jl(W:Wt)(n:Int)(t:List Int):List Pp:=C9 (W.f n) (W.a n) (J (W.f n) Y t)
theorem Lx{n:Int}(hn:n=1\/n=2):1<=n/\n<=2:=hn.elim (λe=>e▸(dd:(1:Int)<=1/\(1:Int)<=2)) λe=>e▸(dd:(1:Int)<=2/\(2:Int)<=2)
theorem J5(w:W.ok)(hn:n=1\/n=2): ∀q∈jl W n t,kD W q:=λq m=>(AS.mp m).elim λp h=>h.2▸
 ⟨⟨w.f hn,CR (w.f hn) t Y (λ_ e=>bQ e) p h.1⟩,(Lx hn).1,(Lx hn).2,rfl,rfl⟩
theorem uJ(h:t.length<=4):(jl W n t).length<=8:=by
 unfold jl
 rw[bN]
 exact ak (yj (W.f n) t Y) (ji 2 h)
section
variable{P:Fl->L->H->Prop}
noncomputable abbrev lp(x0 x1 x2 x3 x4 x5:Option V)(left a:Int)(x8 x9 x10 cA kG pV l8 nA mA tJ:Option V):L:=[x0,x1,x2,x3,x4,x5,U<|.int left,U<|.int a,x8,x9,x10,cA,kG,pV,l8,nA,mA,tJ,Y,Y,Y,Y,Y,Y,Y]
theorem av9(k:P .next (lp o x1 x2 t x4 x5 left j p (U<|W.v 1) (U<|W.v 2) a l (U<|k5 W) Y Y Y Y) h):ex I CX (.af (.x 13)<|.di aa (.cons (.c<|.int 1)<|.cons (.c<|.int 2) .nil)<|.cons (.x 9)<|.cons (.x 10) .nil) (lp o x1 x2 t x4 x5 left j p (U<|W.v 1) (U<|W.v 2) a l Y Y Y Y Y) h P:=
 nN (Za<|ay<|bl<|ay<|bl<|bh<|ay<|ap rfl<|ay<|ap rfl<|bh<|eH (C:=CX) k)
theorem ab9(wok:W.ok)(l1:a.length<=4)(l2:l.length<=4)(b1: ∀c∈a,0<=c/\c<=255)(b2: ∀c∈l,0<=c/\c<=255)(ht:h t=U (.list [.fl<|vi a,.fl<|vi l]))
  (k: ∀b vs h',H.le h h'->d7 vs (jl W 1 a++jl W 2 l)->P .next (lp A x1 x2 z x4 x5 left u y (U<|W.v 1) (U<|W.v 2) (U<|.ref t) o p (U<|.fz b 4<|gm (fI<|jl W 1 a++jl W 2 l) (e8 0<|jl W 1 a++jl W 2 l) (hI 0<|jl W 1 a++jl W 2 l) vs) Y Y Y) h'):
  ex I CX (.af (.x 14)<|.ix (.call 49<|.cons (.dY .add (.call 100<|.cons (.x 9)<|.cons (.ix (.x 11)<|.c<|.int 0) .nil)<|.call 100<|.cons (.x 10)<|.cons (.ix (.x 11)<|.c<|.int 1) .nil) .nil)<|.c<|.int 0) (lp A x1 x2 z x4 x5 left u y (U<|W.v 1) (U<|W.v 2) (U<|.ref t) o p Y Y Y Y) h P:=
 nN (iC (eI (ay (eE (eI (ay (ap rfl (ay (iC (ap rfl (bl (.o_ ht dd dd rfl (bh (OG (wok.f<|.inl rfl) l1 b1 λh1 g e1 s=>eI (ay (ap rfl (ay (iC (ap rfl (bl (.o_ (e1 _ _ ht) dd dd rfl (bh (OG (wok.f<|.inr rfl) l2 b2 λh2 q e2 i2=>
  have i:=s.items (wok.f<|.inl rfl) (CR (wok.f<|.inl rfl) a Y λ_ e=>bQ e)
  have f:=i2.items (wok.f<|.inr rfl) (CR (wok.f<|.inr rfl) l Y λ_ e=>bQ e)
  have j:=i.gT f
  have ll:=by rw[aC];exact gM (uJ l1) (uJ l2)
  .xa (cz<|j.len▸ak ll dd)<|bh<|TC j ll λb r h3 e3=>bl<|.nZ dd dd rfl<|eH<|k b (g++q) h3 (H.le_trans e1<|H.le_trans e2 e3) j)))))))))))))))))))))))
end
section
variable{W:Wt}{h:H}{t z:ai}{left lN:Int}{t1 t2:List Int}{x0 x1 x2 x3 x4 x5 x8 kG:Option V}{P:Fl->L->H->Prop}{x9 x10 cA pV l8 nA mA tJ:Option V}{qs:List Pp}
theorem IQ{ρ:L}{Q:V->H->Prop}(wok:W.ok)(hn:n=1\/n=2)(hi:0<=i/\i<=1)(e1:ah ρ 1=U (U W.M.v))(a:ah ρ 11=U (U<|.ref t))(e:ah ρ 8=U (U<|.ref z))(ht:h t=U (.list j))(hz:h z=U (.list [.int<|W.s 1,.int<|W.s 2]))(f:ah j i.toNat=U (.fl<|vi u))(g:ah [V.int<|W.s 1,.int<|W.s 2] i.toNat=U (.int<|W.s n))(c:u.length<=4)
  (k: ∀h',H.le h h'->Q (.fl<|(jl W n u).map qV) h'):(ao I CX (.comp aa [] (.call 108<|.cons (.x 1)<|.cons (.ix (.x 11)<|.c<|.int i)<|.cons (.ix (.x 8)<|.c<|.int i) .nil) (.c<|.bool aa)<|.dY .add (.tu<|.cons (.c<|.int n) .nil)<|.x 0) ρ).v h Q:=
 have b:=az hi.2 dd
 have l9:=by rw[bN];exact ak (yj (W.f n) u Y) (ak (ji 2 c) dd)
 kx (Jw (eI (ay (ap e1 (ay (iC (ap a (bl (.o_ ht hi.1 b f (ay (iC (ap e (bl (.o_ hz hi.1 b g (bh (TO (wok.f hn) c λh' l=> .fJ ⟨cz l9,jr (zs (J (W.f n) Y u) (λp _ Q q=>eE<|mU<|ay<|bl<|bh<|ap rfl<|.PU (dd:5<=1000000) q) (by
  have k:=k h' l
  unfold jl C9 at k
  rw[AU] at k
  exact k))⟩))))))))))))))))
theorem TY(wok:W.ok)(l1:t1.length<=4)(l2:t2.length<=4)(ht:h t=U (.list [.fl<|vi t1,.fl<|vi t2]))(hz:h z=U (.list [.int<|W.s 1,.int<|W.s 2]))
  (k: ∀h',H.le h h'->P .next (lp x0 (U W.M.v) x2 x3 x4 x5 left lN (U<|.ref z) x9 x10 (U<|.ref t) kG pV l8 (U<|.fl<|(jl W 1 t1++jl W 2 t2).map qV) Y Y) h'):
  ex I CX (.af (.x 15)<|.dY .add (.comp aa [] (.call 108<|.cons (.x 1)<|.cons (.ix (.x 11)<|.c<|.int 0)<|.cons (.ix (.x 8)<|.c<|.int 0) .nil) (.c<|.bool aa)<|.dY .add (.tu<|.cons (.c<|.int 1) .nil)<|.x 0)<|.comp aa [] (.call 108<|.cons (.x 1)<|.cons (.ix (.x 11)<|.c<|.int 1)<|.cons (.ix (.x 8)<|.c<|.int 1) .nil) (.c<|.bool aa)<|.dY .add (.tu<|.cons (.c<|.int 2) .nil)<|.x 0) (lp x0 (U W.M.v) x2 x3 x4 x5 left lN (U<|.ref z) x9 x10 (U<|.ref t) kG pV l8 Y Y Y) h P:=
 nN (eE (IQ wok (.inl rfl) dd rfl rfl rfl ht hz rfl rfl l1 λh1 e1=>IQ wok (.inr rfl) dd rfl rfl rfl (e1 _ _ ht) (e1 _ _ hz) rfl rfl l2 λh2 e2=>
  .xa (cz<|by rw[aC,bN,bN];exact ak (gM (uJ l1)<|uJ l2) dd)<|eH<|by rw[<-qW];exact k h2<|H.le_trans e1 e2))
theorem K8{i:Int}{ρ:L}{g:Pp->Int}(hi:0<=i/\i<=10)(a:ah ρ 15=U (U<|.fl<|qs.map qV))(b:qs.length<=16)(f: ∀q,ah [V.int q.f.n,(match q.p with|.lt c=> .int c|.kn _=> .none),.int q.wd,.int q.ht,.int q.dp] i.toNat=U (.int<|g q))(k:Q (.int<|dL 0<|qs.map g) h):
  (ao I CX (.bi .max<|.cons (.dY .add (.li aa<|.cons (.c<|.int 0) .nil)<|.comp aa [] (.x 15) (.c<|.bool aa)<|.ix (.x 0)<|.c<|.int i) .nil) ρ).v h Q:=
 have l9:=by rw[bN];exact b
 eJ (ay (eE (wO (ay (bl (bh (kx (jM (ap a (.fJ ⟨cz<|ak l9 dd,jr (zs qs (λq _ Q w=>iC<|ap rfl<|bl<|.nZ hi.1 (az hi.2 dd) (f q) w) (.xa (cz<|by rw[aC,bN];exact gM (dd:1<=84) b) (bh (by
  have e:[V.int 0]++qs.map (λq=>V.int<|g q)=vi (0::qs.map g):=by show _=V.int 0::(qs.map g).map V.int;rw[AU];rfl
  rw[e]
  exact .aL3 k))))⟩))))))))))
end
section
variable{W:Wt}
theorem ao2(b:a.length<=16)(k:P .next (lp u x1 x2 z x4 x5 left o y x9 x10 j p l t (U<|.fl<|a.map qV) (U<|.int<|e8 0 a)<|U<|.int<|hI 0 a) h):
  ex I CX (.af (.aj<|.cons (.x 16)<|.cons (.x 17) .nil)<|.tu<|.cons (.bi .max<|.cons (.dY .add (.li aa<|.cons (.c<|.int 0) .nil)<|.comp aa [] (.x 15) (.c<|.bool aa)<|.ix (.x 0)<|.c<|.int 3) .nil)<|.cons (.bi .max<|.cons (.dY .add (.li aa<|.cons (.c<|.int 0) .nil)<|.comp aa [] (.x 15) (.c<|.bool aa)<|.ix (.x 0)<|.c<|.int 4) .nil) .nil) (lp u x1 x2 z x4 x5 left o y x9 x10 j p l t (U<|.fl<|a.map qV) Y Y) h P:=
 nN (mU<|ay<|K8 dd rfl b (λ_=>rfl)<|ay<|K8 dd rfl b (λ_=>rfl)<|bh<|Fw rfl<|ut<|eH<|ut<|eH<|CO k)
theorem W_(c:a.length<=16)(k:P .next (lp y x1 x2 u x4 x5 left p t x9 x10 j l o (U<|.fz b 4<|gm (fI a) (e8 0 a) (hI 0 a) vs) (U<|.fl<|a.map qV) (U<|.int<|e8 0 a)<|U<|.int<|hI 0 a) h):
  ex I CX (.ite (.eW .ne (.tu<|.cons (.at (.x 14) 22)<|.cons (.at (.x 14) 23)<|.cons (.at (.x 14) 24) .nil)<|.tu<|.cons (.bi .sum<|.cons (.comp aa [] (.x 15) (.c<|.bool aa)<|.ix (.x 0)<|.c<|.int 2) .nil)<|.cons (.x 16)<|.cons (.x 17) .nil) Jl .nil) (lp y x1 x2 u x4 x5 left p t x9 x10 j l o (U<|.fz b 4<|gm (fI a) (e8 0 a) (hI 0 a) vs) (U<|.fl<|a.map qV) (U<|.int<|e8 0 a)<|U<|.int<|hI 0 a) h P:=
 have l9:=by rw[bN];exact c
 Gg (iS (mU (ay (cJ (ap rfl (.iA rfl (ay (cJ (ap rfl (.iA rfl (ay (cJ (ap rfl (.iA rfl (bh (mU (ay (eJ (ay (kx (jM (ap rfl (.fJ ⟨cz<|ak l9 dd,jr (zs a (λq _ Q w=>iC<|ap rfl<|bl<|.nZ dd dd rfl w) (bh (by
  have e:a.map (λq=>V.int q.wd)=vi (a.map Pp.wd):=by show _=(a.map Pp.wd).map V.int;rw[AU];rfl
  rw[e]
  exact .Cy<|ay<|ap rfl<|ay<|ap rfl<|bh<|.MD rfl<|gk id<|f_ k)))⟩)))))))))))))))))))))))
theorem XH{D y p u A j}(wok:W.ok)(l1:l.length<=4)(l2:o.length<=4)(b1: ∀c∈l,0<=c/\c<=255)(b2: ∀c∈o,0<=c/\c<=255)(ht:h t=U (.list [.fl<|vi l,.fl<|vi o]))(hz:h z=U (.list [.int<|W.s 1,.int<|W.s 2]))(lb:0<=left/\left<=1000)(tb:0<=a/\a<=1000):
  aZ I CX Oi (lp (U D) (U W.M.v) (U y) (U p) (U u) (U A) left a (U<|.ref z) (U<|W.v 1) (U<|W.v 2) (U<|.ref t) (U j) Y Y Y Y Y) h PT:=
 have ll:=by rw[aC];exact gM (uJ l1) (uJ l2)
 bz (av9<|bz<|ab9 wok l1 l2 b1 b2 ht λb vs h1 e1 e=>bz<|TY wok l1 l2 (e1 _ _ ht) (e1 _ _ hz) λh2 e2=>bz<|ao2 ll<|bz<|W_ ll<|XN wok e ll (Bk (J5 wok<|.inl rfl)<|J5 wok<|.inr rfl) lb tb<|e2 _ _<|e1 _ _ hz)
end
section
variable{M:aW}{a t z:ai}{b:cY}
noncomputable abbrev Wd:E:= .dY .add (.c<|.int 65) (.call 103<|.cons (.x 1)<|.cons (.dY .add (.bi .len<|.cons (.ix (.x 2)<|.c<|.int 0) .nil)<|.c<|.int 1) .nil)
theorem UY(ok:M.ok): ∀(n:Nat) i m (b:cY) h K,h a=U b.o->b.ok m->m+n<=900->(∀cs b' h',cs.length=n->(∀c∈cs,65<=c/\c<=69)->cY.ok b' (m+n)->h' a=U (cY.o b')->Fr h h' [a]->K (vi cs) h')->
  hO (qD CX (.c<|.bool aa) Wd [U<|.ref a,U M.v]) bP (eh i 1 n) h K:=λn=>by
 induction n with
 |zero=>exact λi m b h K ha hb _ k=>⟨tI,k [] b h rfl (λ_ m=>dz m) ((eZ m).symm▸hb) ha λ_ _ e _=>e⟩
 |succ n ih=>
  intro i m b h K ha hb hm k
  have e:m+((n+1:Nat))=m+1+n:=by rw[qU,iu<|n,<-gp];rfl
  rw[e] at hm
  have m9:=az (n6 (dd:(0:Int)<=1)) (az (n6<|Int.natCast_nonneg n) hm)
  have n4:((M.ls.map lV).length:Int)<=4:=by rw[bN];exact bS.mpr ok.n4
  exact⟨tI,nG (eE (bl (eI (ay (ap rfl (ay (eE (eJ (ay (iC (ap rfl (bl (.nZ dd dd rfl (bh (.xQ (cz<|by rw[bN];exact ak ok.n4 dd) (bl (.jb (bh (zj ha hb ⟨GG<|Int.natCast_nonneg _,az (g8 n4 1) dd⟩ (az m9 dd) λh1 r b1 r0 r1 g e1 f1=>
   .jb<|ih (i+1) (m+1) b1 h1 _ e1 g hm λcs b2 h2 l2 j f e2 f2=>k ((65+r)::cs) b2 h2 (aA (· +1) l2) (i3 ⟨n6 r0,fG (iO<|Int.lt_of_lt_of_le r1<|Int.add_le_add_right n4 1) 65⟩ j) (e▸f) e2<|Fr.tr f1 f2)))))))))))))))))))⟩
theorem Op{ρ:L}(ok:M.ok)(e3:ah ρ 3=U (U<|.ref a))(e1:ah ρ 1=U (U M.v))(j:ah ρ 11=U (U<|.ref t))(ha:h a=U b.o)(hb:b.ok m)(m9:m<=500)(ta:t≠a)(ht:h t=U (.list l))(hl:l.length<=5)
  (k: ∀cs b' h',cs.length<=4->(∀c∈cs,65<=c/\c<=69)->cY.ok b' (m+5)->h' a=U (cY.o b')->h' t=U (.list<|l++[.fl<|vi cs])->Fr h h' [a,t]->P .next ρ h'):
  aZ I CX MK ρ h P:=
 bz (ip (gv (ap j (.pL ht rfl (ay (kx (iY (ay (eI (ay (ap e3 (ay (bl (bh (zj ha hb dd (az m9 dd) λh1 r b1 r0 r1 o p f1=>
  have g:=uV.mpr (iO r1)
  bh (.ma ⟨az dd r0,az (eR r1) dd⟩ ⟨cz (by rw[tU];exact ak g dd),(nX e3 (nX e1 (jr (UY ok r.toNat 0 (m+1) b1 h1 _ p o (az (fS (g8 m9 1)<|bS.mpr g) dd) λcs b2 h2 l2 u i s f2=>
   have f:=Fr.tr f1 f2
   have t2:=f _ _ ht (hJ ta)
   bh<|.vq t2 (cz<|ak (cf hl) dd)<|f_<|k cs b2 _ (l2▸g) u (i.aG<|gp m 1 _▸fG (fG (bS.mpr g) 1) m) ((H.jZ ta.symm).trans s) (H.kb ..) λb y e n=>(H.jZ λq=>n<|bB.mpr<|.inr<|b9.mpr q).trans<|f b y e<|hJ λq=>n<|bB.mpr<|.inl q))))⟩))))))))))))))))
end
section
variable{W:Wt}{a2 a4 a5:V}
theorem cb{cs:List Int}(h: ∀c∈cs,65<=c/\c<=69): ∀c∈cs,0<=c/\c<=255:=λc m=>⟨az dd (h c m).1,az (h c m).2 dd⟩
theorem aj7(hx:xs.length<=63)(wok:W.ok)(hz:h z=U (.list [.int<|W.s 1,.int<|W.s 2]))(lb:0<=left/\left<=1000)(tb:0<=j/\j<=1000):
  aZ I CX vF (lp (U<|.fl<|vi xs) (U W.M.v) (U a2) u (U a4) (U a5) left j (U<|.ref z) (U<|W.v 1) (U<|W.v 2) Y Y Y Y Y Y Y) h PT:=
 j1 (eI (ay (eI (ay (ap rfl (ay (bl (bh (Gd hx dd dd λc h1 l1=>bh (E1 λa b h2 na ok e l=>
  j1 (Up (bh λt nt=>
   have ta:t≠a:=λq=>gJ <|(q▸e).symm.trans nt
   have z1:=l1 _ _ hz
   have o:=l _ _ z1
   have i:=λq=>gJ <|(q▸z1).symm.trans na
   have f:=λq=>gJ <|(q▸o).symm.trans nt
   bz (iE (iY (ay (bl (bh (.ma ⟨dd,dd⟩ ⟨tI,eH (Op wok.M rfl rfl rfl ((H.jZ ta.symm).trans e) ok dd ta (H.kb ..) dd λc1 b1 h3 l1 o1 g e1 t1 f1=>⟨h3,H.le_refl _,tI,
    eH<|Op wok.M rfl rfl rfl e1 g dd ta t1 (dd:1<=5) λs b2 h4 l2 o2 p e2 t2 f2=>⟨h4,H.le_refl _,tI,XH wok l1 l2 (cb o1) (cb o2) t2 (f2 _ _ (f1 _ _ ((H.jZ f).trans o)<|kh i f)<|kh i f) lb tb⟩⟩)⟩))))))))))))))))))
end
def CS:cW:=λf vs h Q=>al I 100 f vs h Q\/(∃(w:List Int) (sc:Int),(sc=0\/sc=32769)/\f=109/\vs=[.a6 w,.int 2,.int 0,.int sc]/\Q .none h)
theorem UO(hs:a=0\/a=32769)(k:Q .none h):CS 109 [.a6 w,.int 2,.int 0,.int a] h Q:= .inr ⟨w,a,hs,rfl,rfl,k⟩
noncomputable def Ac(g:L->H->(Fl->L->H->Prop)->Prop)(Q:Fl->L->H->Prop):Fl->L->H->Prop:=λfl ρ h=>match fl with|.next=>g ρ h Q|fl=>Q fl ρ h
def k3(f g:L->H->(Fl->L->H->Prop)->Prop):L->H->(Fl->L->H->Prop)->Prop:=λρ h Q=>f ρ h (Ac g Q)
theorem p8(k:f ρ h<|Ac g Q):k3 f g ρ h Q:=k
theorem om(k:g ρ h Q):Ac g Q .next ρ h:=k
noncomputable abbrev EZ:S:= .af (.x 1) (.call 104<|.cons (.call 102<|.cons (.call 101<|.cons (.x 0)<|.cons (.c<|.int 0) .nil) .nil) .nil)
noncomputable abbrev CA:S:= .af (.x 2) (.call 106<|.cons (.call 105<|.cons (.x 1) .nil) .nil)
noncomputable abbrev B2:S:= .af (.x 3) (.call 102<|.cons (.call 101<|.cons (.x 0)<|.cons (.c<|.int 1) .nil) .nil)
noncomputable abbrev Eg:S:= .af (.x 4) (.ix (.tu<|.cons (.c<|.int 655360)<|.cons (.c<|.int 786432)<|.cons (.c<|.int 1000003)<|.cons (.c<|.int 8388609)<|.cons (.c<|.int 70001)<|.cons (.c<|.int 1) .nil)<|.call 103<|.cons (.x 3)<|.cons (.c<|.int 6) .nil)
noncomputable abbrev F6:S:= .af (.x 5) (.ix (.tu<|.cons (.c<|.int 1)<|.cons (.c<|.int 500)<|.cons (.c<|.int 1000)<|.cons (.c<|.int 1200)<|.cons (.c<|.int 2986)<|.cons (.c<|.int 32768)<|.cons (.c<|.int 0)<|.cons (.c<|.int 32769)<|.cons (.c<|.int 7) .nil)<|.call 103<|.cons (.x 3)<|.cons (.c<|.int 9) .nil)
noncomputable abbrev EV:S:= .af (.aj<|.cons (.x 6)<|.cons (.x 7) .nil) (.tu<|.cons (.call 103<|.cons (.x 3)<|.cons (.c<|.int 1000) .nil)<|.cons (.call 103<|.cons (.x 3)<|.cons (.c<|.int 1000) .nil) .nil)
noncomputable abbrev Fc:S:= .af (.x 8) (.li ae<|.cons (.x 4)<|.cons (.dY .nY (.dY .mul (.ix (.x 1)<|.c<|.int 3)<|.x 5)<|.c<|.int 1000) .nil)
noncomputable abbrev wE:S:= .af (.aj<|.cons (.x 9)<|.cons (.x 10) .nil) (.tu<|.cons (.call 109<|.cons (.x 2)<|.cons (.c<|.int 1)<|.cons (.x 4)<|.cons (.c<|.int 0) .nil)<|.cons (.call 109<|.cons (.x 2)<|.cons (.c<|.int 2)<|.cons (.c<|.int 0)<|.cons (.x 5) .nil) .nil)
def Gf:L->H->(Fl->L->H->Prop)->Prop:=
 k3 (ex I CX EZ) (k3 (ex I CX CA)<|k3 (ex I CX B2)<|k3 (ex I CX Eg)<|k3 (ex I CX F6)<|k3 (ex I CX EV)<|k3 (ex I CX Fc)<|k3 (ex I CS wE)<|aZ I CX q8)
section
abbrev mS(M:aW):SV:= .aj [.op<|.fl<|M.ls.map lV,.op<|.fl<|M.rs.map rV,.int M.ck .no,.int M.de<|.b 327680 917519]
theorem T7(ok:M.ok):aN g<|mS M:=d4 (bD<|bD<|bL tI<|cD ok.d0 ok.d1 aY)
abbrev mu(xs:List Int)(M:aW)(a:ai)(x4 x5 x6 x7 x8 x9 x10:Option SV):SL:=[U<|.op<|.fl<|vi xs,U<|mS M,U<|.op<|.a6<|bs M.W,U<|.ref 0 a,x4,x5,x6,x7,x8,x9,x10,Y,Y,Y,Y,Y,Y,Y,Y,Y,Y,Y,Y,Y,Y]
theorem vB{g:G}(ok:M.ok)(e:ah g 0=U (a,o))(w:a8 g [x4,x5,x6,x7,h,x9,x10,Y,Y,Y,Y,Y,Y,Y,Y,Y,Y,Y,Y,Y,Y]):a8 g<|mu xs M a x4 x5 x6 x7 h x9 x10:=aB (aT (T7 ok)<|aB<|bG e w)
theorem r6:a8 g [Y,Y,Y,Y,Y,Y,Y,Y,Y,Y,Y,Y,Y,Y]:=aD (aD<|aD<|aD<|aD<|aD<|aD<|aD<|aD<|aD<|aD<|aD<|aD<|aD bk)
end
section
variable{M:aW}{P:Fl->L->H->Prop}
abbrev sI(a:ai)(b:cY):G:=[(a,kf b)]
noncomputable abbrev qC(s:Int):SV:= .int s (.b 1 8388609)
noncomputable abbrev my(s:Int):SV:= .int s (.b 0 32769)
abbrev pM(s:Int):Prop:=(1<=s/\s<=32768)\/(s=0\/s=32769)
set_option smartUnfolding false in
theorem WL(c:M.ok)(ok:b.ok m)(m9:m<=900)(D:Hd hb B (sI a b) h)(k: ∀s b' h',1<=s/\s<=8388609->cY.ok b' (m+1)->Hd hb B (sI a b') h'->P .next (aq<|mu xs M a (U<|qC s) Y Y Y Y Y Y) h'):ex I CX Eg (aq<|mu xs M a Y Y Y Y Y Y Y) h P:=
 gy (n:=1) [103] [hD 6 5 0<|m+1,hP 1 8388609] D (vB c rfl<|aD<|aD<|aD<|aD<|aD<|aD<|aD r6)
  (.c (jw rfl ok dd dd dd<|az m9 dd)<|.c (λx w=>yu (xs:=[655360,786432,1000003,8388609,70001,1]) w.1 rfl dd)<|.d λx w y v h' D _=>k y x.2 h' v w.2 D)
set_option smartUnfolding false in
theorem aK9(e:M.ok)(ok:b.ok m)(m9:m<=900)(hs:1<=s/\s<=8388609)(D:Hd hb B (sI a b) h)(k: ∀c b' h',pM c->cY.ok b' (m+1)->Hd hb B (sI a b') h'->P .next (aq<|mu xs M a (U<|qC s) (U<|my c) Y Y Y Y Y) h'):ex I CX F6 (aq<|mu xs M a (U<|qC s) Y Y Y Y Y Y) h P:=
 gy (n:=1) [103] [hD 9 8 0<|m+1,.c Int (λ_ c=>pM c) λ_ c=>(my c,[])] D (vB e rfl<|aT hs<|aD<|aD<|aD<|aD<|aD<|aD r6)
  (.c (jw rfl ok dd dd dd<|az m9 dd)<|.c (λx w=>(yo w.1.1 w.1.2).elim λy q=>⟨y,(dd: ∀y∈[1,500,1000,1200,2986,32768,0,32769,7],pM y) y q.1,q.2,(dd: ∀y∈[1,500,1000,1200,2986,32768,0,32769,7],(0:Int)<=y/\y<=32769) y q.1⟩)<|.d λx w y v h' D _=>k y x.2 h' v w.2 D)
theorem M0(h:pM a):0<=a/\a<=32769:=h.elim (λh=>⟨az dd h.1,az h.2 dd⟩) λh=>h.elim (λe=>e▸(dd:(0:Int)<=0/\(0:Int)<=32769)) λe=>e▸(dd:(0:Int)<=32769/\(32769:Int)<=32769)
set_option smartUnfolding false in
theorem Uq(e:M.ok)(ok:b.ok m)(m9:m<=900)(hs:1<=s/\s<=8388609)(hc:pM j)(D:Hd hb B (sI a b) h)(k: ∀left c b' h',0<=left/\left <1000->0<=c/\c <1000->Hd hb B (sI a b') h'->P .next (aq<|mu xs M a (U<|qC s) (U<|my j) (U<|.int left .no) (U<|.int c .no) Y Y Y) h'):ex I CX EV (aq<|mu xs M a (U<|qC s) (U<|my j) Y Y Y Y Y) h P:=
 gy (n:=1) [103] [hD 1000 999 0<|m+1,hD 1000 999 0<|m+1+1] D (vB e rfl<|aT hs<|aT (M0 hc)<|aD<|aD<|aD<|aD<|aD r6)
  (.c (jw rfl ok dd dd dd<|az m9 dd)<|.c (λx w=>jw rfl w.2 dd dd dd<|az (g8 m9 1) dd)<|.d λx w y v h' D _=>k x.1 y.1 y.2 h' w.1 v.1 D)
abbrev nB(a:ai)(b:cY)(z:ai)(s s2:Int):G:=[(a,kf b),(z,.list [.int s,.int s2])]
set_option smartUnfolding false in
theorem ZS(c:M.ok)(hs:1<=s/\s<=8388609)(hc:pM j)(D:Hd hb B (sI a b) h)(k: ∀z h',Hd hb B (nB a b z s<|M.de*j/1000) h'->P .next (aq<|mu xs M a (U<|qC s) (U<|my j) (U<|.int left .no) (U<|.int l .no) (U<|.ref 1 z) Y Y) h'):ex I CX Fc (aq<|mu xs M a (U<|qC s) (U<|my j) (U<|.int left .no) (U<|.int l .no) Y Y Y) h P:=
 gy (n:=1) [103] [] D (vB c rfl<|aT hs<|aT (M0 hc)<|aT tI<|aT tI<|aD<|aD<|aD r6)
  (.d λz h' D _=>k z h' D)
end
section
variable{P:Fl->L->H->Prop}
noncomputable abbrev fA(M:aW)(s:Int):Fd:=⟨M,1,"fa",s⟩
noncomputable abbrev fB(M:aW)(s:Int):Fd:=⟨M,2,"fb",s⟩
abbrev kQ(xs:List Int)(M:aW)(a z:ai)(s left b:Int)(x5:SV)(x9 x10:Option SV):SL:=mu xs M a (U<|qC s) (U x5) (U<|.int left .no) (U<|.int b .no) (U<|.ref 1 z) x9 x10
theorem Ek(c:M.ok)(hs:1<=s/\s<=8388609)(e:aN (nB a b z s h) x5)(w:a8 (nB a b z s h) [x9,x10,Y,Y,Y,Y,Y,Y,Y,Y,Y,Y,Y,Y,Y,Y]):a8 (nB a b z s h)<|kQ xs M a z s left j x5 x9 x10:=vB c rfl (aT hs<|aT e<|aT tI<|aT tI<|bG rfl w)
theorem Xq(e:M.ok)(hs:1<=s/\s<=8388609)(g:1<=j/\j<=32768-> ∀b f h',H.le h h'->P .next (aq<|kQ xs M a z s left l (my j) (U<|.op<|(fA M s).v b)<|U<|.op<|(fB M<|M.de*j/1000).v f) h')(k2:j=0\/j=32769-> ∀b h',H.le h h'->P .next (aq<|kQ xs M a z s left l (my j) (U<|.op<|(fA M s).v b)<|U<|.op .none) h')(hc:pM j):
  ex I CS wE (aq<|kQ xs M a z s left l (my j) Y Y) h P:=
 nN (mU (ay (eI (ay (ap rfl (ay (bl (ay (ap rfl (ay (bl (bh (.inl (aw2 e hs.1 (az hs.2 dd) λb h1 l1=>
  ay (eI (ay (ap rfl (ay (bl (ay (bl (ay (ap rfl (bh (hc.elim (λc=> .inl<|ar9 e c.1 c.2 λf h2 l2=>bh<|Fw rfl<|ut<|eH<|ut<|eH<|CO<|g c b f h2<|H.le_trans l1 l2)
   λc=>UO c<|bh<|Fw rfl<|ut<|eH<|ut<|eH<|CO<|k2 c b h1 l1)))))))))))))))))))))))))
set_option smartUnfolding false in
theorem aE4(c:M.ok)(hs:1<=s/\s<=8388609)(hc:1<=l/\l<=32768)(D:Hd hb B (nB a b z s j) h)(k: ∀h',Hd hb B (nB a b z s j) h'->aZ I CX vF (aq<|kQ xs M a z s left o (.int l<|.b 1 32768) (U<|.op<|(fA M s).v t)<|U<|.op<|(fB M j).v p) h' P):aZ I CX q8 (aq<|kQ xs M a z s left o (.int l<|.b 1 32768) (U<|.op<|(fA M s).v t)<|U<|.op<|(fB M j).v p) h P:=
 jU (n:=1) 2 [109] [] D (Ek c hs hc<|aB<|aB r6) (.d λh' D _=>k h' D)
theorem OE(b:M.ok)(hs:1<=s/\s<=8388609):lR (d+8) hb B 1 109 [.op<|.a6<|bs M.W,.int 2 x,.int s y,aL 0] g ai (λ_=>True) λa=>(.op<|(fB M s).v a,[]):=
 ⟨λ_ _=>tI,λh Q D k=>az6 b hs.1 (az hs.2 dd) λa h' l=>k a h' tI<|D.le l⟩
set_option smartUnfolding false in
theorem ao3(c:M.ok)(hs:1<=s/\s<=8388609)(hc:l=0\/l=32769)(D:Hd hb B (nB a b z s p) h)(k: ∀e h',Hd hb B (nB a b z s s) h'->aZ I CX vF (aq<|kQ xs M a z s left j (.int l .no) (U<|.op<|(fA M s).v o)<|U<|.op<|(fB M s).v e) h' P):aZ I CX q8 (aq<|kQ xs M a z s left j (.int l .no) (U<|.op<|(fA M s).v o)<|U<|.op .none) h P:=by
 rcases hc with rfl|rfl
 ·exact jU (n:=1) (ρ:=kQ xs M a z s left j (aL 0) (U<|.op<|(fA M s).v o)<|some<|.op .none) 2 [109] [hF<|fB M s] D (Ek c hs ⟨aU _,aU _⟩<|aB<|aB r6) (.c (OE c hs)<|.d λe _ h' D _=>k e h' D)
 ·exact jU (n:=1) (ρ:=kQ xs M a z s left j (aL 32769) (U<|.op<|(fA M s).v o)<|some<|.op .none) 2 [109] [hF<|fB M s] D (Ek c hs ⟨aU _,aU _⟩<|aB<|aB r6) (.c (OE c hs)<|.d λe _ h' D _=>k e h' D)
end
section
variable{M:aW}{P:Fl->L->H->Prop}
abbrev pJ(xs:List Int)(x1 x2 x3:Option V):L:=[U<|.fl<|vi xs,x1,x2,x3,Y,Y,Y,Y,Y,Y,Y,Y,Y,Y,Y,Y,Y,Y,Y,Y,Y,Y,Y,Y,Y]
theorem an3(hx:xs.length<=63)(k: ∀(M:aW) h',M.ok->P .next (pJ xs (U M.v) Y Y) h'):ex I CX EZ (pJ xs Y Y Y) h P:=
 nN (eI<|ay<|eI<|ay<|eI<|ay<|ap rfl<|ay<|bl<|bh<|Gd hx dd dd λc h1 l1=>bh<|E1 λa b h2 na ok e l=>bh<|aG1 e ok λM h3 f=>eH<|k M h3 f)
theorem ax0(a:M.ok)(k: ∀h',P .next (pJ xs (U M.v) (U<|.a6<|bs M.W) Y) h'):ex I CX CA (pJ xs (U M.v) Y Y) h P:=
 nN (eI<|ay<|eI<|ay<|ap rfl<|bh<|U0 a λh1 l1=>bh<|ai8 (by rw[CY];have:=a.n4;have:=a.m3;lia) λh2 l2=>eH<|k h2)
theorem ZQ(hx:xs.length<=63)(k: ∀a b h',cY.ok b 0->h' a=U (cY.o b)->P .next (pJ xs x1 x2<|U<|.ref a) h'):ex I CX B2 (pJ xs x1 x2 Y) h P:=
 nN (eI<|ay<|eI<|ay<|ap rfl<|ay<|bl<|bh<|Gd hx dd dd λc h1 l1=>bh<|E1 λa b h2 na ok e l=>eH<|k a b h2 ok e)
theorem ZP(b:M.ok)(h1:0 <h/\h<=30100000)(h2:0 <a/\a<=30100000):(WW M h a j l).ok:=⟨b,λn=>by show 0 <(if n=1 then h else a);split;exact h1.1;exact h2.1,λn=>by show(if n=1 then h else a)<=_;split;exact h1.2;exact h2.2⟩
theorem H4{s:Int}(h:1<=s/\s<=8388609):0 <s/\s<=30100000:=⟨h.1,az h.2 dd⟩
theorem Qk{s:Int}(h:0<=s/\s <1000):0<=s/\s<=1000:=⟨h.1,eR h.2⟩
theorem Ln(hx:xs.length<=63)(c:M.ok)(hs:1<=s/\s<=8388609)(h2:0 <l/\l<=30100000)(lb:0<=left/\left <1000)(tb:0<=j/\j <1000)(e:Hd hb B (nB a b z s l) h):aZ I CX vF (aq<|kQ xs M a z s left j (.int t u) (U<|.op<|(fA M s).v p)<|U<|.op<|(fB M l).v o) h PT:=
 aj7 (W:=WW M s l p o) hx (ZP c (H4 hs) h2) (e.am 1 z _ rfl) (Qk lb) (Qk tb)
theorem Zy(hx:xs.length<=63)(e:M.ok)(hs:1<=s/\s<=8388609)(hc:pM o)(lb:0<=left/\left <1000)(tb:0<=j/\j <1000)(D:Hd hb B (nB a b z s<|M.de*o/1000) h):k3 (ex I CS wE) (aZ I CX q8) (aq<|kQ xs M a z s left j (my o) Y Y) h PT:=
 p8 (Xq e hs (λc p i q l=>om<|aE4 e hs c (D.le l) λg f=>Ln hx e hs (BM e c.1 c.2) lb tb f) (λc p q l=>om<|ao3 e hs c (D.le l) λi g f=>Ln hx e hs (H4 hs) lb tb f) hc)
theorem aN4(hx:xs.length<=63):Gf (pJ xs Y Y Y) nH PT:=by
 unfold Gf
 exact p8 (an3 hx λM h1 c=>om (p8 (ax0 c λh2=>om (p8 (ZQ hx λa b h3 ok e=>om (p8 (WL c ok dd (Hd.of<|Fa.ls e bj Fa.nl) λs b1 h4 hs g D1=>om (p8 (aK9 c g dd hs D1 λsc b2 o hc f D2=>
  om<|p8<|Uq c f dd hs hc D2 λleft i b3 p lb tb j=>om<|p8<|ZS c hs hc j λz l h=>om<|Zy hx c hs hc lb tb h)))))))))
end
end c6.La
namespace c6
open PySem PySem.W PySem.Calls PyProof.Rows PySem.SeqAt
set_option genCtorIdx true in
inductive Kd where
 |fr
 |own
 |it
inductive Rl where
 |kp (b:Kd) (o:Obj)
 |abs
 |dict (a:ai)
abbrev Rm:=ai->Option Rl
noncomputable def D7:Kd->Nat:=λ|.fr=>1|.own=>2|.it=>3
noncomputable def HS:Rl->Nat:=λ|.kp b _=>D7 b|.abs=>4|.dict _=>5
noncomputable def Jy:Option Rl->Nat:=λ|Y=>0|U (.kp _ _)=>1|U .abs=>2|U (.dict _)=>3
theorem bH{a b:Option Rl}{C:Prop}(h:a=b)(e:(Jy a).beq (Jy b)=ae:=by rfl):C:=jK ((AP _).symm.trans<|h▸e)
theorem qv{a b:Rl}{C:Prop}(h:a=b)(e:(HS a).beq (HS b)=ae:=by rfl):C:=jK ((AP _).symm.trans<|h▸e)
theorem fU{a b:Kd}{C:Prop}(h:a=b)(e:(D7 a).beq (D7 b)=ae:=by rfl):C:=jK ((AP _).symm.trans<|h▸e)
def Rm.kp(R:Rm)(b:Kd)(a:ai)(o:Obj):Prop:=R a=U (.kp b o)
abbrev Rm.is(R:Rm)(a:ai)(o:Obj):Prop:=R.kp .fr a o
noncomputable def Rm.bw(R:Rm)(a:ai)(r:Rl):Rm:=λx=>if x=a then U r else R x
def Rm.fl(R S:Rm):Prop:= ∀a o,R.is a o->S.is a o
def Rm.le(R S:Rm):Prop:= ∀a b o,R.kp b a o->S.kp b a o
theorem Rm.le.fl{R S:Rm}(l:R.le S):R.fl S:=λa o=>l a .fr o
theorem Rm.le_refl(R:Rm):R.le R:=λ_ _ _ e=>e
theorem Rm.cN(R:Rm)(a:ai)(r:Rl):R.bw a r a=U r:=aM rfl
theorem Rm.cQ{R:Rm}{a b}{r}(e:b≠a):R.bw a r b=R b:=aE e
theorem Rm.ne{R:Rm}{a c}{o}{b}(e:R a=Y)(q:R.kp b c o):c≠a:=λz=>bH <|e.symm.trans ((aA R z).symm.trans q)
theorem Rm.jd{R:Rm}{a}{r}(h:R a=Y):R.le<|R.bw a r:=λ_ _ _ e=>(Rm.cQ<|Rm.ne h e).trans e
noncomputable abbrev gU(ws:List au)(n:Nat):Obj:=⟨.type "tuple",Y,.seq ws.toArray n,#[]⟩
noncomputable abbrev cy(ws:List au)(n:Nat):Obj:=⟨.type "list",Y,.seq ws.toArray n,#[]⟩
noncomputable abbrev gi(es:List jg)(n:Nat):Obj:=⟨.type "dict",Y,.dict es.toArray n,#[]⟩
abbrev oO(c:Nat)(d:ai):Obj:=⟨.ref<|dK c,U d,.plain,#[]⟩
noncomputable abbrev jL(a:Array UInt8):List Int:=a.toList.map λx:UInt8=>(x.toNat:Int)
noncomputable def dI(ds:List<|Int×V):List Int:=ds.map (·.1)
inductive iN (o:Obj) (m:Str->Option au) (k:Nat):Prop
 |mk (es:Array jg) (ep:Nat):o.data= .dict es ep->StrKeys es->(∀x,lE es x=m x)->es.size<=k->iN o m k
inductive bW {α β:Type} (r:α->β->Prop):List α->List β->Prop
 |nil:bW r [] []
 |cons {a:α} {b:β} {l:List α} {m:List β}:r a b->bW r l m->bW r (a::l) (b::m)
set_option inductive.autoPromoteIndices false in
inductive z_ (r:V->au->Prop):Nat->List (Nat×V)->Obj->Prop
 |mk {c:Nat} {fs:List (Nat×V)} {o:Obj} {m:Str->Option au} (g:Nat->au):iN o m fs.length->(∀x w,m x=U w-> ∃f v,bc fs f=U v/\x=cM f)->
   (∀f v,bc fs f=U v->f <gA.length/\I.nP c f=aa/\m (cM f)=U (g f))->(∀f v,bc fs f=U v->r v (g f))->z_ r c fs o
noncomputable def fY:List (Int×V)->List (Tok×au)->List jg
 |d::ds,t::ts=>⟨hashInt d.1,.int d.1 t.1,t.2⟩::fY ds ts
 |_,_=>[]
inductive ax (R:Rm):V->au->Prop
 |none:ax R .none .none
 |bool (b:Bool):ax R (.bool b) (.bool b)
 |int (i:Int) (t:Tok):ax R (.int i) (.int i t)
 |str (s:Str) (t:Tok):ax R (.str s) (.str s t)
 |a6 (a:Array UInt8) (t:Tok):ax R (.a6<|jL a) (.bytes a t)
 |aj {vs:List V} {ws:List au} {a:ai} {n:Nat}:R.is a (gU ws n)->bW (ax R) vs ws->ax R (.aj vs) (.ref a)
 |fl {vs:List V} {ws:List au} {a:ai} {n:Nat}:R.is a (cy ws n)->bW (ax R) vs ws->ax R (.fl vs) (.ref a)
 |fz {c:Nat} {fs:List<|Nat×V} {a d:ai} {o:Obj}:R.is a (oO c d)->R.is d o->z_ (ax R) c fs o->ax R (.fz a c fs) (.ref a)
 |fd {ds:List<|Int×V} {tw:List<|Tok×au} {a:ai} {n:Nat}:R.is a (gi (fY ds tw) n)->(a==kL)=ae->(dI ds).Nodup->bW (λd t=>ax R d.2 t.2) ds tw->ax R (.fd ds) (.ref a)
 |ref (a:ai):ax R (.ref a) (.ref a)
abbrev aV(R:Rm):List V->List au->Prop:=bW (ax R)
abbrev dE(R:Rm):List (Int×V)->List (Tok×au)->Prop:=bW λd t=>ax R d.2 t.2
abbrev gX(R:Rm):Nat->List (Nat×V)->Obj->Prop:=z_ (ax R)
theorem ax.aG{R S}(l:R.fl S){v}{w}(r:ax R v w):ax S v w:=
 ax.rec
  .none .bool .int .str .a6 (λe _ r=> .aj (l _ _ e) r) (λe _ r=> .fl (l _ _ e) r) (λe d _ r=> .fz (l _ _ e) (l _ _ d) r) (λe m n _ r=> .fd (l _ _ e) m n r) .ref
  .nil (λ_ _=> .cons) (λg n a b _=> .mk g n a b) .nil (λ_ _ a b=>bW.cons a b) r
section
variable{r q:α->β->Prop}
theorem bW.aG(h: ∀a b,r a b->q a b)(x:bW r l m):bW q l m:=x.rec .nil λa _=> .cons (h _ _ a)
theorem bW.length(x:bW r l m):m.length=l.length:=x.rec rfl λ_ _=>aA (· +1)
theorem bW.append(x:bW r l m)(y:bW r j h):bW r (l++j)<|m++h:=x.rec y λa _=> .cons a
@[elab_as_elim] theorem bW.of{P:List β->Prop}{a}(x:bW r (a::l) m)(k: ∀b m,r a b->bW r l m->P (b::m)):P m:=
 bW.rec (motive:=λl' m _=>a::l=l'->P m) (λe=>nomatch e) (λp y _ e=>k _ _ ((aT4 e).1▸p)<|(aT4 e).2▸y) x rfl
@[elab_as_elim] theorem bW.bq{P:List β->Prop}{a}(x:bW r [a] m)(k: ∀b,r a b->P [b]):P m:=x.of λb m p y=>by cases y;exact k b p
@[elab_as_elim] theorem bW.none{P:List β->Prop}(x:bW r [] m)(k:P []):P m:=by cases x;exact k
end
theorem aV.aG{R S}{vs}{a}(r:aV R vs a)(l:R.fl S):aV S vs a:=bW.aG (λ_ _=>ax.aG l) r
theorem dE.aG{R S}{ds}{h}(r:dE R ds h)(l:R.fl S):dE S ds h:=bW.aG (λa b=>ax.aG l) r
theorem gX.aG{R S}(l:R.fl S){c}{h}{o}(r:gX R c h o):gX S c h o:=r.casesOn λg n a b r=> .mk g n a b λf v e=>(r f v e).aG l
theorem gX.of{R}{c}{h}{o}{G:Prop}(F:gX R c h o)(k: ∀(m:Str->Option au) (g:Nat->au),iN o m h.length->(∀x w,m x=U w-> ∃f v,bc h f=U v/\x=cM f)->
  (∀f v,bc h f=U v->f <gA.length/\I.nP c f=aa/\m (cM f)=U (g f))->(∀f v,bc h f=U v->ax R v (g f))->G):G:=
 z_.casesOn (motive:=λc' e o' _=>c'=c->e=h->o'=o->G) F (λg n a b r h1 h2 h3=>by subst h1;subst h2;subst h3;exact k _ g n a b r) rfl rfl rfl
noncomputable def TJ(R:Rm)(P:au->Prop):V->Prop
 |.none=>P .none
 |.bool b=>P (.bool b)
 |.int i=> ∀t,P (.int i t)
 |.str s=> ∀t,P (.str s t)
 |.a6 l=> ∀a t,jL a=l->P (.bytes a t)
 |.aj vs=> ∀ws a n,R.is a (gU ws n)->aV R vs ws->P (.ref a)
 |.fl vs=> ∀ws a n,R.is a (cy ws n)->aV R vs ws->P (.ref a)
 |.fz a c fs=> ∀d o,R.is a (oO c d)->R.is d o->gX R c fs o->P (.ref a)
 |.fd ds=> ∀e a n,R.is a (gi (fY ds e) n)->(a==kL)=ae->(dI ds).Nodup->dE R ds e->P (.ref a)
 |.ref a=>P (.ref a)
@[elab_as_elim] theorem ax.of{R}{P}{v}{w}(r:ax R v w):TJ R P v->P w:=
 ax.casesOn r id (λ_=>id) (λ_ t k=>k t) (λ_ t k=>k t) (λa t k=>k a t rfl) (λe r k=>k _ _ _ e r) (λe r k=>k _ _ _ e r) (λe d r k=>k _ _ e d r) (λe m n r k=>k _ _ _ e m n r) λ_=>id
inductive hU (R:Rm) (h:ct) (a:ai):O->Prop
 |list {vs:List V} {ws:List au} {n:Nat}:h.get? a=U (cy ws n)->aV R vs ws->hU R h a (.list vs)
 |dict {ds:List (Int×V)} {tw:List (Tok×au)} {n:Nat}:h.get? a=U (gi (fY ds tw) n)->(dI ds).Nodup->dE R ds tw->hU R h a (.dict ds)
 |aK {c:Nat} {fs:List (Nat×V)} {d:ai} {o:Obj}:h.get? a=U (oO c d)->R d=U (.dict a)->h.get? d=U o->gX R c fs o->hU R h a (.aK c fs)
noncomputable def ai3(R:Rm)(h:ct)(a:ai)(G:Prop):O->Prop
 |.list vs=> ∀ws n,h.get? a=U (cy ws n)->aV R vs ws->G
 |.dict ds=> ∀b n,h.get? a=U (gi (fY ds b) n)->(dI ds).Nodup->dE R ds b->G
 |.aK c fs=> ∀d o,h.get? a=U (oO c d)->R d=U (.dict a)->h.get? d=U o->gX R c fs o->G
theorem hU.of{R}{h}{a}{G}{o}(x:hU R h a o):ai3 R h a G o->G:=
 hU.casesOn x (λe r k=>k _ _ e r) (λe n r k=>k _ _ e n r) λe d e' r k=>k _ _ e d e' r
theorem hU.at{R}{h}{a}{o}{G:Prop}(x:hU R h a o)(e:h.get? a=Y):G:=x.casesOn (λq _=>bQ <|e.symm.trans q) (λq _ _=>bQ <|e.symm.trans q) λq _ _ _=>bQ <|e.symm.trans q
theorem hU.keep{R S}{h h'}{a}{o}(l:R.fl S)(k: ∀p,h.get? a=U p->h'.get? a=U p)(kd: ∀d p,R d=U (.dict a)->h.get? d=U p->h'.get? d=U p/\S d=U (.dict a))(x:hU R h a o):hU S h' a o:=
 hU.casesOn x (λe r=> .list (k _ e)<|r.aG l) (λe n r=> .dict (k _ e) n<|r.aG l) λe d e' r=> .aK (k _ e) (kd _ _ d e').2 (kd _ _ d e').1 (r.aG l)
structure c2(R:Rm)(A:H)(h:ct):Prop where
 kp: ∀a b o,R.kp b a o->h.get? a=U o
 ob: ∀a o,A a=U o->R a=U .abs/\hU R h a o
 no: ∀a,h.get? a=Y->R a=Y
section
variable{R S:Rm}{A B:H}{h h':ct}
theorem fW{a}(k: ∀o,h.get? a=U o->h'.get? a=U o)(e:h'.get? a=Y):h.get? a=Y:=match q:h.get? a with
 |.none=>rfl
 |U o=>bQ <|e.symm.trans (k o q)
theorem c2.jx(s:c2 R A h)(a:ai)(f: ∀b,b≠a->S b=R b)(hA: ∀b,b≠a-> ∀o,B b=U o->A b=U o)(hh: ∀b o,b≠a->h.get? b=U o->h'.get? b=U o)
  (l:R.fl S) (hk: ∀b o,S.kp b a o->h'.get? a=U o) (ho: ∀o,B a=U o->S a=U .abs/\hU S h' a o) (hd: ∀b,R a=U (.dict b)->B b=Y) (g:h'.get? a=Y->S a=Y):c2 S B h':=
 ⟨λb c o e=>if q:b=a then q▸hk c o (q▸e) else hh _ _ q<|s.kp _ c _<|(f b q).symm.trans e,
  λb o e=>if q:b=a then q▸ho o (q▸e) else
   have p:=s.ob b o (hA b q o e)
   ⟨(f b q).trans p.1,.keep l (λ_=>hh _ _ q) (λd _ dd e3=>
    have n:d≠a:=λz=>gJ <|e.symm.trans (hd b<|z▸dd)
    ⟨hh _ _ n e3,(f d n).trans dd⟩) p.2⟩,
  λb e=>if q:b=a then q▸g (q▸e) else(f b q).trans<|s.no b<|fW (λ_=>hh _ _ q) e⟩
theorem c2.lt(s:c2 R A h)(e:R a≠Y):a <h.objs.size:=match q:h.get? a with
 |.none=>absurd (s.no a q) e
 |U _=>g9 q
theorem c2.dm(s:c2 R A h)(a:ai)(e:h.objs.size<=a):R a=Y:=Classical.byContradiction λq=>Rh.mpr e (s.lt q)
theorem c2.oJ(s:c2 R A h)(l:H.le B A):c2 R B h:=⟨s.kp,λa o e=>s.ob a o<|l a o e,s.no⟩
theorem c2.kP(s:c2 R A h)(k: ∀a o,h.get? a=U o->h'.get? a=U o):c2 R A h':=
 ⟨λa b o e=>k _ _<|s.kp a b o e,λa o e=>⟨(s.ob a o e).1,.keep (λ_ _ e=>e) (λp=>k _ p) (λd p dd e=>⟨k _ _ e,dd⟩) (s.ob a o e).2⟩,λa e=>s.no a<|fW (k a) e⟩
theorem c2.j9(s:c2 R A h)(e:R a≠U .abs):A a=Y:=match q:A a with
 |.none=>rfl
 |U o=>absurd (s.ob a o q).1 e
theorem H.C6(A:H)(a:ai):A.k_ a a=Y:=aM rfl
theorem H.E3(A:H)(a:ai):H.le (A.k_ a) A:=λb o e=>by
 unfold H.k_ at e
 split at e
 ·cases e
 ·exact e
theorem H.LI(A:H){a b}{o p}(n:b≠a)(e:A.cq a o b=U p):A b=U p:=(aE n).symm.trans e
theorem c2.keep(s:c2 R A h)(o:Obj)(hf:o.isFreed=ae)(b:Kd):c2 (R.bw h.objs.size<|.kp b o) A<|h.push o:=
 have d:=s.dm _ (dO _)
 s.jx h.objs.size (λ_=>Rm.cQ) (λ_ _ _=>id) (λ_ _ _=>eA _) (Rm.jd d).fl λ_ _ e=>by cases(Rm.cN ..).symm.trans e;exact g_ _ hf
  (λ_ e=>gJ <|e.symm.trans<|s.j9 λq=>bH <|d.symm.trans q) (λ_ e=>bH <|d.symm.trans e) λe=>gJ <|(g_ _ hf).symm.trans e
theorem c2.abs(s:c2 R A h)(a:ai)(c: ∀b,b≠a->S b=R b)(hh: ∀b o,b≠a->h.get? b=U o->h'.get? b=U o)(e:S a=U .abs)(n: ∀o,¬R.is a o)(nd: ∀b,R a≠U (.dict b)){o}(r:hU S h' a o):c2 S (A.cq a o) h':=
 s.jx a c (λ_ n _=>H.LI A n) hh (λb o q=>(c b λz=>n o<|z▸q).trans q) (λ_ _ q=>bH <|e.symm.trans q) (λp q=>⟨e,by cases(aM rfl).symm.trans q;exact r⟩) (λb q=>absurd q<|nd b) λz=>r.at z
theorem c2.mW(s:c2 R A h)(a:ai){b}{o}(e:h'.get? a=U o)(hh: ∀b o,b≠a->h.get? b=U o->h'.get? b=U o)(q:A a=Y)(n: ∀o,¬R.is a o)(nd: ∀b,R a=U (.dict b)->A b=Y):c2 (R.bw a<|.kp b o) A h':=
 s.jx a (λ_=>Rm.cQ) (λ_ _ _=>id) hh (λc p z=>(Rm.cQ λy=>n p<|(aA (λx=>R.is x p) y).mp z).trans z) (λ_ _ z=>by cases(Rm.cN ..).symm.trans z;exact e) (λ_ z=>bQ <|q.symm.trans z) nd λz=>gJ <|e.symm.trans z
end
noncomputable def Rm.of(B:ct):Rm:=λa=>(B.get? a).map (.kp .fr)
theorem Rm.yO{B}{a}{o}(e:(Rm.of B).is a o):B.get? a=U o:=by
 unfold Rm.is Rm.kp Rm.of at e
 cases q:B.get? a with
 |none=>rw[q] at e;cases e
 |some p=>rw[q] at e;cases e;rfl
structure Pk(B:ct) where
 K:n7
 i7:K.In B
 ga: ∀c,c <kZ.length->hZ K (.ref<|dK c) "__getattribute__"=U (U<|.builtin "object.__getattribute__")
 gt: ∀c,c <kZ.length->hZ K (.ref<|dK c) "__getattr__"=U Y
 hd: ∀c,c <kZ.length->hasDictIn K (dK c)=aa
 po: ∀c,c <kZ.length->plainOver K (dK c)=aa
 Bl: ∀c f,I.nP c f=aa->c <kZ.length/\f <gA.length
 Og: ∀c f,I.nP c f=aa-> ∃attr,hZ K (.ref<|dK c) (cM f)=U attr/\noGet K attr=aa
 tk: ∀c f,I.nP c f=aa->GO K (dK c) (cM f)=U Y
 Oe: ∀c f v,I.vE c f=U v->c <kZ.length/\f <gA.length/\ ∃a,hZ K (.ref<|dK c) (cM f)=U (U a)/\Ri K a "__get__"=U Y/\ax (Rm.of B) v a/\Rj.contains (cM f)=ae
 oI: ∀c m f,I.ms c m=U f->c <kZ.length/\hZ K (.ref<|dK c) (kt m)=U (U<|.ref<|bR f)/\AW K (.ref<|bR f)=U (.type "function")
 rD: ∀c f,I.lu c=U f->c <kZ.length/\hZ K (.ref<|dK c) "__init__"=U (U<|.ref<|bR f)/\AW K (.ref<|bR f)=U (.type "function")/\makesIn K (dK c)=aa
 set: ∀c,c <kZ.length->hZ K (.ref<|dK c) "__setattr__"=U (U<|.builtin "object.__setattr__")
 Qt: ∀m f,f <gA.length->cM f=kt m->f=I.mf m
 names: ∀f g,f <gA.length->g <gA.length->cM f=cM g->f=g
noncomputable def tG:List<|Str×au:=[("len",.builtin "len"),("abs",.builtin "abs"),("max",.builtin "max"),("min",.builtin "min"),("sum",.builtin "sum"),("ord",.builtin "ord"),
 ("tuple",.type "tuple"),("list",.type "list"),("dict",.type "dict"),("bytes",.type "bytes"),("sorted",.builtin "sorted"),("range",.type "range"),("enumerate",.type "enumerate"),
 ("isinstance",.builtin "isinstance"),("int",.type "int"),("bool",.type "bool"),("str",.type "str")]
structure NW(B:ct) where
 mg:Str->Option au
 mb:Str->Option au
 ng:B.Ns uL mg
 nb:B.Ns AX mb
 gw: ∀k v,I.gw k=U v-> ∃w,mg (si k)=U w/\ax (Rm.of B) v w
 bi: ∀n v,(n,v)∈tG->mg n=Y/\mb n=U v
noncomputable def rF(n:Nat):List Nat->Bool
 |[]=>ae
 |k::r=>cond (bE k n) aa (rF n r)
structure qM where
 prog:qN
 w:kJ
 B:ct
 p:Pk B
 g:NW B
 Dt: ∀f,f <rK.length->qX p.K (.ref<|bR f)=aa
 cls: ∀c f,I.lu c=U f->qX p.K (.ref<|dK c)=aa
 oI: ∀c m f,I.ms c m=U f->qX p.K (.ref<|bR f)=aa
 Ju:Obj
 nm:B.get? kL=U Ju
 G:List Nat
 hG: ∀f,rF f G=aa->g.mg (sd f)=U (.ref<|bR f)
 hC: ∀k,(I.lu k).isSome=aa->g.mg (tY k)=U (.ref<|dK k)
structure nQ(env:Env)(ns:List Str):Prop where
 kind:env.scope.kind= .function
 gw:env.globals=uL
 blt:env.builtins=AX
 nd:ns.Nodup
 apart: ∀n n' c,env.cells.lookup n=U c->env.cells.lookup n'=U c->n=n'
structure Cx where
 T:qM
 env:Env
 ns:List Str
 gens:Array Q1
 os:ml
 st:nQ env ns
 ρ:L
abbrev Cx.at(x:Cx)(ρ:L):Cx:=⟨x.T,x.env,x.ns,x.gens,x.os,x.st,ρ⟩
abbrev M(x:Cx):Model:=fH x.T.prog x.T.w
abbrev N0:au->bA->Prop:=λ_ _=>False
def Cx.own(x:Cx)(a:ai):Prop:=a=x.env.locals\/ ∃n,x.env.kindOf n=U .cell/\x.env.cells.lookup n=U a
inductive uq (x:Cx) (R:Rm) (i:Nat) (n:Str):Prop
 |dR:x.env.kindOf n=U .local->uq x R i n
 |cell (c:ai) (o:Obj) (cv:Option au):x.env.kindOf n=U .cell\/x.env.kindOf n=U .free->x.env.cells.lookup n=U c->R.kp .own c o->o.data= .cell cv->
   (∀v,ah x.ρ i=U (U v)-> ∃w,cv=U w/\ax R v w)->uq x R i n
inductive wo (x:Cx) (R:Rm):Prop
 |mk (o:Obj) (m:Str->Option au) (k:Nat):R.kp .own x.env.locals o->iN o m k->(∀i n v,ah x.ns i=U n->x.env.kindOf n=U .local->ah x.ρ i=U (U v)-> ∃w,m n=U w/\ax R v w)->wo x R
structure Fr(x:Cx)(R:Rm):Prop where
 len:x.ρ.length=x.ns.length
 dR:wo x R
 var: ∀i n,ah x.ns i=U n->uq x R i n
theorem Fr.tW{x}{R S}(f:Fr x R)(l:R.fl S)(k: ∀a o,R.kp .own a o->S.kp .own a o):Fr x S:=
 ⟨f.len,f.dR.casesOn λo m n e ns h=>⟨o,m,n,k _ _ e,ns,λi n v a b c=>(h i n v a b c).imp λ_ q=>⟨q.1,q.2.aG l⟩⟩,
  λi n e=>(f.var i n e).casesOn .dR λc o cv h1 h2 h3 h4 g=> .cell c o cv h1 h2 (k _ _ h3) h4 λv e=>(g v e).imp λ_ q=>⟨q.1,q.2.aG l⟩⟩
theorem Fr.keep{x}{R S}(f:Fr x R)(l:R.le S):Fr x S:=f.tW l.fl λa o=>l a _ o
structure St(x:Cx) where
 R:Rm
 A:H
 s:bA
 bg:c2 R A s.heap
 bX: ∀a o,x.T.B.get? a=U o->R.is a o
 gens:s.gens=x.gens
 os:s.os=x.os
 fr:Fr x R
abbrev St.le{x y}(σ:St x)(τ:St y):Prop:=σ.R.le τ.R
def St.lo{x y}(σ:St x)(τ:St y):Prop:= ∀a b o,σ.R.kp b a o->(b= .own-> ¬x.own a)->τ.R.kp b a o
inductive PV {x:Cx} {α β:Type} (hM:Rm->β->α->Prop) (σ:St x) (K:β->H->Prop):α->bA->Prop
 |mk (τ:St x) (v:β) (w:α):σ.le τ->hM τ.R v w->K v τ.A->PV hM σ K w τ.s
def Ev{α β:Type}(a:Rm->β->α->Prop)(x:Cx)(Ar:cV)(m:Sem α)(f:H->(β->H->Prop)->Prop):Prop:=
 ∀(σ:St x) (K),f σ.A K->aw (M x) Ar m (PV a σ K) N0 σ.s
abbrev a3:= @Ev au V ax
abbrev aL8(n:Nat)(R:Rm)(vs:List V)(ws:List au):Prop:=aV R vs ws/\ws.length=n
abbrev fX(n:Nat):= @Ev (List au) (List V) (aL8 n)
abbrev rB(_:Rm)(b c:Bool):Prop:=b=c
def dS(x:Cx)(Ar:cV)(m:Sem Bool)(f:H->(H->Prop)->(H->Prop)->Prop):Prop:=Ev rB x Ar m λh K=>f h (K aa) (K ae)
section
variable{x:Cx}{σ:St x}{Ar:cV}{K:V->H->Prop}
def St.to(σ:St x)(R:Rm)(A:H)(h:ct)(t:Nat)(m:c2 R A h)(l:σ.R.le R):St x:=⟨R,A,{σ.s with heap:=h,toks:=t},m,λa o e=>l _ _ _<|σ.bX a o e,σ.gens,σ.os,σ.fr.keep l⟩
def St.ke(σ:St x)(t:Nat):St x:=σ.to σ.R σ.A σ.s.heap t σ.bg (Rm.le_refl _)
def St.oJ(σ:St x){A}(l:H.le A σ.A):St x:=σ.to σ.R A σ.s.heap σ.s.toks (σ.bg.oJ l) (Rm.le_refl _)
theorem St.new(σ:St x):σ.R σ.s.heap.objs.size=Y:=σ.bg.dm _ (dO _)
theorem St.zV(σ:St x):σ.A σ.s.heap.objs.size=Y:=σ.bg.j9 λq=>bH <|σ.new.symm.trans q
theorem St.dQ(σ:St x)(r:Rl):σ.R.le<|σ.R.bw σ.s.heap.objs.size r:=Rm.jd σ.new
def St.keep(σ:St x)(o:Obj)(hf:o.isFreed=ae):St x:=σ.to (σ.R.bw σ.s.heap.objs.size<|.kp .fr o) σ.A (σ.s.heap.push o) σ.s.toks (σ.bg.keep o hf .fr) (σ.dQ _)
theorem St.uG(σ:St x)(o:Obj)(hf:o.isFreed=ae):(σ.keep o hf).R.is σ.s.heap.objs.size o:=Rm.cN ..
def St.abs(σ:St x)(o:Obj)(a:O)(r:hU (σ.R.bw σ.s.heap.objs.size .abs) (σ.s.heap.push o) σ.s.heap.objs.size a):St x:=
 σ.to (σ.R.bw σ.s.heap.objs.size .abs) (σ.A.cq σ.s.heap.objs.size a) (σ.s.heap.push o) σ.s.toks (σ.bg.abs _ (λ_=>Rm.cQ) (λ_ _ _=>eA _) (Rm.cN ..) (λ_ e=>bH <|σ.new.symm.trans e) (λ_ e=>bH <|σ.new.symm.trans e) r) (σ.dQ _)
theorem St.at{a}{b}{o}(σ:St x)(e:σ.R.kp b a o):σ.s.heap.get? a=U o:=σ.bg.kp _ b _ e
theorem St.i7(σ:St x){a}{o}(e:x.T.B.get? a=U o):σ.s.heap.get? a=U o:=σ.at (σ.bX _ _ e)
theorem St.M3(σ:St x){v}{w}(r:ax (Rm.of x.T.B) v w):ax σ.R v w:=r.aG λa o e=>σ.bX a o (Rm.yO e)
theorem St.mD(σ:St x):x.T.p.K.In σ.s.heap:=λa o e=>σ.i7 (x.T.p.i7 a o e)
theorem St.zx(σ:St x){a}{m}(e:x.T.B.Ns a m):σ.s.heap.Ns a m:=e.imp λ_ e=>e.imp λ_ e=>e.imp λ_ e=>⟨σ.i7 e.1,e.2⟩
theorem St.ns(σ:St x){a}{o}{b}{m}{k}(e:σ.R.kp b a o)(n:iN o m k):σ.s.heap.Ns a m:=n.casesOn λes ep h1 h2 h3 _=>⟨o,es,ep,σ.at e,h1,h2,h3⟩
theorem St.rf(σ:St x){a}{o}(e:σ.A a=U o):(a==kL)=ae:=
 beq_eq_false_iff_ne.mpr λz=>bH <|(σ.bg.ob a o e).1.symm.trans ((aA σ.R z).trans<|σ.bX _ _ x.T.nm)
variable{α β γ δ:Type}{hM:Rm->β->α->Prop}{m:Sem α}{f:H->(β->H->Prop)->Prop}{J:β->H->Prop}
theorem PV.dc{v}{w}(r:hM σ.R v w)(k:J v σ.A):PV hM σ J w σ.s:=⟨σ,v,w,Rm.le_refl _,r,k⟩
theorem PV.tk{v}{w}{t}(r:hM σ.R v w)(k:J v σ.A):PV hM σ J w {σ.s with toks:=t}:=⟨σ.ke t,v,w,Rm.le_refl _,r,k⟩
theorem PV.aG{τ:St x}{w}{s}(l:σ.le τ)(p:PV hM τ J w s):PV hM σ J w s:=p.casesOn λυ v w l' r k=>⟨υ,v,w,λ_ _ _ e=>l' _ _ _<|l _ _ _ e,r,k⟩
theorem Ev.bind{Q:α->δ->bA->Prop}{g:α->Sem δ}(e:Ev hM x Ar m f)(h:f σ.A J)
  (k: ∀(τ:St x) v w,σ.le τ->hM τ.R v w->J v τ.A->aw (M x) Ar (g w) (Q w) N0 τ.s):aw (M x) Ar m (λw s=>aw (M x) Ar (g w) (Q w) N0 s) N0 σ.s:=
 bx (e σ J h) (λ_ _ p=>p.casesOn λτ v w l r j=>k τ v w l r j) λ_ _=>id
theorem Ev.map{Q:α->bA->Prop}(e:Ev hM x Ar m f)(h:f σ.A J)(k: ∀(τ:St x) v w,σ.le τ->hM τ.R v w->J v τ.A->Q w τ.s):aw (M x) Ar m Q N0 σ.s:=
 bx (e σ J h) (λ_ _ p=>p.casesOn λτ v w l r j=>k τ v w l r j) λ_ _=>id
theorem up{τ:St x}(l:σ.le τ)(h:aw (M x) Ar m (PV hM τ J) N0 τ.s):aw (M x) Ar m (PV hM σ J) N0 τ.s:=bx h (λ_ _ p=>p.aG l) λ_ _=>id
theorem aq9{k}{pos}:a3 x Ar (aQ (.Constant .none k pos) x.env) λA K=>K .none A:=λσ K h=>wpAny_Constant_none (.dc .none h)
theorem Zg{b}{k}{pos}:a3 x Ar (aQ (.Constant (.bool b) k pos) x.env) λA K=>K (.bool b) A:=λσ K h=>wpAny_Constant_bool (.dc (.bool b) h)
theorem az9{b}{k}{pos}:a3 x Ar (aQ (.Constant (.str b) k pos) x.env) λA K=>K (.str b) A:=λσ K h=>wpAny_Constant_str (.tk (.str b _) h)
theorem PQ{b}{k}{pos}:a3 x Ar (aQ (.Constant (.int b) k pos) x.env) λA K=>K (.int b) A:=λσ K h=>Rk (.tk (.int b _) h)
theorem q7{ρ}{i}{P}{G:Prop}(h:gh ρ i P)(k: ∀v,ah ρ i=U (U v)->P v->G):G:=by
 unfold gh at h
 generalize q:ah ρ i=o at h k
 cases o with
 |none=>exact h.elim
 |some u=>cases u with
  |none=>exact h.elim
  |some v=>exact k v rfl h
theorem St.Bw(σ:St x){i}{n}{pos}{v}{G:Prop}(hn:ah x.ns i=U n)(hd:(n==("__debug__":Str))=ae)(hc:(n==("__classdict__":Str))=ae)(hv:ah x.ρ i=U (U v))
  (k: ∀w,ax σ.R v w->(∀Q:au->bA->Prop,Q w σ.s->aw (M x) Ar (aQ (.Name n pos) x.env) Q N0 σ.s)->G):G:=
 (σ.fr.var i n hn).casesOn
  (λhl=>σ.fr.dR.casesOn λo m c e ns h=>(h i n v hn hl hv).elim λw q=>k w q.2 λQ z=>GP (GQ x.st.kind hl (σ.ns e ns) q.1 z) hd)
  λc o cv hk h2 h3 h4 b=>(b v hv).elim λw q=>k w q.2 λQ z=>
   have a:=⟨o,σ.at h3,h4.trans<|aA _ q.1⟩
   GP (hk.elim (λhk=>wpAny_loadName_cell x.st.kind hk h2 a z) λhk=>wpAny_loadName_free x.st.kind hk h2 a z hc) hd
theorem ag9{i}{n}{pos}(hn:ah x.ns i=U n)(hd:(n==("__debug__":Str))=ae)(hc:(n==("__classdict__":Str))=ae):a3 x Ar (aQ (.Name n pos) x.env) λA K=>gh x.ρ i λv=>K v A:=λσ K h=>
 q7 h λv e h=>σ.Bw hn hd hc e λw r k=>k _ (.dc r h)
theorem v2{n}{pos}{w}{Q}(σ:St x)(hk:x.env.kindOf n=U .globalImplicit)(hd:(n==("__debug__":Str))=ae)(hw:x.T.g.mg n=U w)(h:Q w σ.s):aw (M x) Ar (aQ (.Name n pos) x.env) Q N0 σ.s:=
 Rn x.st.kind hk (aT5 (σ.zx<|x.st.gw▸x.T.g.ng) hw h) hd
theorem wt{n}{pos}{w}{Q}(σ:St x)(hk:x.env.kindOf n=U .globalImplicit)(hd:(n==("__debug__":Str))=ae)(hw:(n,w)∈tG)(h:Q w σ.s):aw (M x) Ar (aQ (.Name n pos) x.env) Q N0 σ.s:=
 Rn x.st.kind hk (loadGlobal_builtin (σ.zx<|x.st.gw▸x.T.g.ng) (x.T.g.bi _ _ hw).1 (σ.zx<|x.st.blt▸x.T.g.nb) (x.T.g.bi _ _ hw).2 h) hd
theorem TK{k}{pos}(hk:x.env.kindOf (si k)=U .globalImplicit)(hd:((si k)==("__debug__":Str))=ae):a3 x Ar (aQ (.Name (si k) pos) x.env) (λh Q=>match I.gw k with|U v=>Q v h|.none=>False):=λσ K h=>by
 cases e:I.gw k with
 |none=>rw[e] at h;exact h.elim
 |some v=>rw[e] at h;exact(x.T.g.gw k v e).elim λw q=>v2 σ hk hd q.1 (.dc (σ.M3 q.2) h)
theorem fX.nil:fX 0 x Ar (iP []) (λh K=>K [] h):=λσ K h=>Ro (.dc ⟨.nil,rfl⟩ h)
theorem fX.cons{n}{m}{f}{r}{g}(e:a3 x Ar m f)(er:fX n x Ar (iP r) g):
  fX (n+1) x Ar (iP<|(ae,m)::r) (λh K=>f h λv h=>g h λvs h=>K (v::vs) h):=λσ K h=>
 AY (e.bind h λτ v w l r k=>er.map k λυ vs ws l' q k=>⟨υ,v::vs,w::ws,λ_ _ _ e=>l' _ _ _<|l _ _ _ e,⟨.cons (r.aG l'.fl) q.1,aA (· +1) q.2⟩,k⟩)
theorem jo{n}(h:a_ n):n<=jD:=AZ▸ak h dd
theorem VU{a}{k n}{pos}{g}(e:fX n x Ar (iP<|eU pos<|eV a x.env) g)(hn:a_ n):a3 x Ar (aQ (.Tuple a k pos) x.env) (λh Q=>g h λvs h=>Q (.aj vs) h):=λσ K h=>
 aT6 (e.map h λτ vs ws l r k=>⟨r.2▸jo hn,⟨τ.keep (gU ws 0) rfl,V.aj vs,_,λ_ _ _ e=>τ.dQ _ _ _ _<|l _ _ _ e,.aj (τ.uG ..)<|r.1.aG (τ.dQ _).fl,k⟩⟩)
theorem St.list{τ:St x}{fr}{vs}{a}(l:σ.le τ)(r:aV τ.R vs a)(k:jO fr vs τ.A K):PV ax σ K (.ref τ.s.heap.objs.size) {τ.s with heap:=τ.s.heap.push<|cy a 0}:=match fr,k with
 |aa,k=>⟨τ.keep (cy a 0) rfl,V.fl vs,_,λ_ _ _ e=>τ.dQ _ _ _ _<|l _ _ _ e,.fl (τ.uG ..)<|r.aG (τ.dQ _).fl,k⟩
 |ae,k=>⟨τ.abs (cy a 0) (.list vs)<|.list (g_ _ rfl)<|r.aG (τ.dQ _).fl,.ref _,_,λ_ _ _ e=>τ.dQ _ _ _ _<|l _ _ _ e,.ref _,k _ τ.zV⟩
theorem aj3{a}{n}{pos}{g}(e:fX n x Ar (iP<|eU pos<|eV a x.env) g)(hn:a_ n)(fr:Bool):a3 x Ar (aQ (.List a pos) x.env) (λh Q=>g h λvs h=>jO fr vs h Q):=λσ K h=>
 wpAny_List_spliced (e.map h λτ vs ws l r k=>⟨r.2▸jo hn,St.list l r.1 k⟩)
end
noncomputable def nR:jY->Operator
 |.add=> .Add
 |.sJ=> .Add
 |.sub=> .Sub
 |.mul=> .Mult
 |.nY=> .FloorDiv
 |.mG=> .Mod
 |.o6=> .Pow
 |.xb=> .RShift
theorem Nl{a b:Int}{n:Nat}(h: -b<=a)(q:a<=b)(e:b=n):a.natAbs<=n:=bS.mp (e▸(Int.le_total 0 a).elim (λp=>(aT7 p).symm▸q) λp=>(aT8 p).symm▸(Int.neg_neg b▸Gz h))
theorem Mi(h:sP a):a.natAbs <2^64:=mo (Nl h.1 h.2 rfl) dd
theorem W3{a:Int}(h:0 <a)(q:a <1073741824):a.natAbs <1073741824:=mo (Nl (az dd<|eR h) (iO q) rfl) dd
section
variable{σ:St x}{K:V->H->Prop}
@[elab_as_elim] theorem ax.kH{P:au->au->Prop}(ra:ax R (.int i) w)(rb:ax R (.int j) u)(k: ∀t a,P (.int i t)<|.int j a):P w u:=ra.of λt=>rb.of λa=>k t a
theorem St.gV(σ:St x){G:Prop}(e:σ.A a=U (.list l))(k: ∀ws n,σ.s.heap.get? a=U (cy ws n)->aV σ.R l ws->G):G:=(σ.bg.ob a _ e).2.of k
theorem St.i5(σ:St x){G:Prop}(e:σ.A a=U (.dict l))(k: ∀b n,σ.s.heap.get? a=U (gi (fY l b) n)->(dI l).Nodup->dE σ.R l b->G):G:=(σ.bg.ob a _ e).2.of k
theorem aV.line(r:aV R l a)(h:a_ l.length):a.length<=jD:=r.length▸jo h
theorem aV.Fq(r:aV R a j)(q:aV R b us)(h:a_ (a++b).length):j.toArray.size+us.toArray.size<=jD:=by
 rw[j4,j4,<-aC];exact(bW.append r q).length▸jo h
theorem BZ{p q n m:Nat}(e1:σ.s.heap.get? p=U (cy h n))(e2:σ.s.heap.get? q=U (cy us m))(r1:aV σ.R a h)(r2:aV σ.R b us)(hl:a_ (a++b).length)(k:jO fr (a++b) σ.A K):
  aw (M x) Ar (Rp .Add (.ref p)<|.ref q) (PV ax σ K) N0 σ.s:=
 PySem.P.add_list e1 e2 (by rw[aT9];exact St.list (Rm.le_refl _) (r1.append r2) k) (r1.Fq r2 hl)
theorem ZU{p q n m:Nat}(c:σ.R.is p<|gU h n)(i2:σ.R.is q<|gU us m)(r1:aV σ.R a h)(r2:aV σ.R b us)(hl:a_ (a++b).length)(k:K (.aj<|a++b) σ.A):
  aw (M x) Ar (Rp .Add (.ref p)<|.ref q) (PV ax σ K) N0 σ.s:=by
 refine xm (p:=h=[]) (λz=> ?_) λz=>xm (p:=us=[]) (λy=> ?_) λy=> ?_
 ·subst z
  refine Rq ⟨_,σ.at c,rfl⟩ ⟨_,σ.at i2,rfl⟩ Rr Rs Rt Ru (Rv _ _) (tuple_addW0 p q _ _ n m Y Y #[] #[] rfl) ⟨σ.at c,σ.at i2,.dc ?_ k⟩
  cases r1;exact .aj i2 r2
 ·subst y
  refine Rq ⟨_,σ.at c,rfl⟩ ⟨_,σ.at i2,rfl⟩ Rr Rs Rt Ru (Rv _ _) (tuple_addW1 p q _ _ n m Y Y #[] #[] (by simpa using z) rfl) ⟨σ.at c,σ.at i2,.dc ?_ k⟩
  cases r2;rw[c8];exact .aj c r1
 ·refine Rq ⟨_,σ.at c,rfl⟩ ⟨_,σ.at i2,rfl⟩ Rr Rs Rt Ru (Rv _ _) (tuple_addW2 p q _ _ n m Y Y #[] #[] (by simpa using z) (by simpa using y) (r1.Fq r2 hl)) ⟨σ.at c,σ.at i2,?_⟩
  rw[aT9]
  exact⟨σ.keep (gU (h++us) 0) rfl,_,_,σ.dQ _,.aj (σ.uG ..)<|aV.aG (r1.append r2) (σ.dQ _).fl,k⟩
theorem ar2(h:g6 σ.A K o j l)(ra:ax σ.R j w)(rb:ax σ.R l u):aw (M x) Ar (Rp (nR o) w u) (PV ax σ K) N0 σ.s:=
 g6.casesOn h
  (λk ra rb=>ra.kH rb λ_ _=>add_int<|.tk (.int _ _) k)
  (λk ra rb=>ra.kH rb λ_ _=>sub_int<|.tk (.int _ _) k)
  (λh k ra rb=>ra.kH rb λ_ _=>mul_int (.tk (.int _ _) k)<|.of_left<|intBits_le_iff.mpr<|Mi h)
  (λh h' k ra rb=>ra.kH rb λ_ _=>floordiv_int (pu h) (.tk (.int _ _)<|aU0 _ (eR h)▸k)<|.inl<|aU1<|W3 h h')
  (λh k ra rb=>ra.kH rb λ_ _=>mod_int' (pu h)<|.tk (.int _ _)<|Int.fmod_eq_emod_of_nonneg _ (eR h)▸k)
  (λh h0 h1 k ra rb=>ra.kH rb λ_ _=>pow_int_small h0 (az h1 dd) (Mi h)<|.tk (.int _ _) k)
  (λh k ra rb=>ra.kH rb λ_ _=>rshift_int h<|.tk (.int _ _)<|aU0 _ (eR<|Int.pow_pos (show(0) <2 by decide))▸k)
  (λhl k ra rb=>ra.of λ_ _ _ a r1=>rb.of λ_ _ _ i2 r2=>ZU a i2 r1 r2 hl k)
  (λhl k ra rb=>ra.of λ_ _ _ a r1=>rb.of λ_ _ _ i2 r2=>BZ (fr:=aa) (σ.at a) (σ.at i2) r1 r2 hl k)
  (λe hl k ra rb=>σ.gV e λ_ _ e1 r1=>ra.of<|rb.of λ_ _ _ i2 r2=>BZ (fr:=aa) e1 (σ.at i2) r1 r2 hl k)
  (λhl k ra rb=>ra.of λ_ _ _ a r1=>rb.of λ_ _ _ i2 r2=>BZ (fr:=ae) (σ.at a) (σ.at i2) r1 r2 hl k) ra rb
theorem Xy(e:a3 x Ar (aQ a x.env) f)(er:a3 x Ar (aQ b x.env) g):
  a3 x Ar (aQ (.BinOp a (nR j) b pos) x.env) (λh Q=>f h λc h=>g h λi h=>g6 h Q j c i):=λσ K h=>
 wpAny_BinOp (e.bind h λτ v w l r k=>er.bind k λυ v w l' r' k=>up (λ_ _ _ e=>l' _ _ _<|l _ _ _ e)<|ar2 k (r.aG l'.fl) r')
end
theorem FJ{R}{v}{w}(r:ax R v w):handedIn w=aa:=r.casesOn rfl (λ_=>rfl) (λ_ _=>rfl) (λ_ _=>rfl) (λ_ _=>rfl) (λ_ _=>rfl) (λ_ _=>rfl) (λ_ _ _=>rfl) (λ_ _ _ _=>rfl) λ_=>rfl
theorem iN.zh{o}{m}{k}(h:iN o m k)(n:Str):Rw n o=U (m n):=by
 cases h with
 |mk es ep hd hk hf hz=>
  have q:=hf n
  unfold lE findBy at q
  rw[<-Array.find?_toList] at q
  unfold Rw
  rw[hd,<-q]
  show(match es.toList.find? (·.key.isStr n) with|U e=>U (U e.val)|Y=>if es.toList.any (·.refKey) then Y else U Y)=U ((es.toList.find? (·.key.isStr n)).map (·.val))
  cases es.toList.find? (·.key.isStr n) with
  |some e=>rfl
  |none=>
   refine aE λz=> ?_
   obtain⟨d,h1,h2⟩:=List.any_eq_true.mp z
   obtain⟨a,t,h3⟩:=hk d (A0.mp h1)
   unfold aU2 at h2
   rw[h3] at h2
   cases h2
section
theorem Lj{β:Type}{k n:Nat}{a b:β}:cond (bE k n) a b=if k=n then a else b:=by
 rw[BT.beq_eq];exact xm (λh=>by rw[decide_eq_true h,aM h];rfl) λh=>by rw[decide_eq_false h,aE h];rfl
theorem oV(k:Nat)(v:α)(r:List<|Nat×α)(n:Nat):bc ((k,v)::r) n=if k=n then U v else bc r n:=Lj
theorem FR(k:Nat)(w:α)(r:List<|Nat×α)(n:Nat)(v:α):iw ((k,w)::r) n v=if k=n then(k,v)::r else(k,w)::iw r n v:=Lj
theorem Ah(l:List<|Nat×α)(n:Nat)(v:α):bc (iw l n v) n=U v:=l.rec (oV n v [] n▸aM rfl) λe r ih=>by
 rw[FR]
 refine xm (p:=e.1=n) (λh=> ?_) λh=> ?_
 ·rw[aM h,oV,aM h]
 ·rw[aE h,oV,aE h];exact ih
theorem wB(l:List<|Nat×α){n i}(v:α)(q:n≠i):bc (iw l n v) i=bc l i:=l.rec ((oV n v [] i).trans<|aE q) λe r ih=>by
 rw[FR,oV]
 refine xm (p:=e.1=n) (λh=> ?_) λh=> ?_
 ·rw[aM h,oV,aE<|h▸q,aE<|h▸q]
 ·rw[aE h,oV,ih]
theorem Os(l:List<|Nat×α)(n:Nat)(v:α):(iw l n v).length=if(bc l n).isSome then l.length else l.length+1:=l.rec rfl λe r ih=>by
 rw[FR,oV]
 refine xm (p:=e.1=n) (λh=> ?_) λh=> ?_
 ·rw[aM h,aM h];rfl
 ·rw[aE h,aE h,eT,ih]
  cases(bc r n).isSome <;>rfl
theorem xE: ∀{l:List α} {i:Nat} {a:α},ah l i=U a->i <l.length
 |_::_,0,_,_=>aQ3 _
 |_::r,i+1,a,e=>GB (xE e)
theorem pp: ∀{l:List α} {i:Nat} {a:α},ah l i=U a->a∈l
 |_::_,0,_,e=>bM e▸ .head _
 |_::r,i+1,a,e=> .tail _ (pp e)
theorem Eo: ∀{l:List α},l.Nodup-> ∀{i j:Nat} {a:α},ah l i=U a->ah l j=U a->i=j
 |_::_,_,0,0,_,_,_=>rfl
 |x::r,d,0,j+1,a,e,e'=>absurd (pp (l:=r) e') (bM e▸(lF.mp d).1)
 |x::r,d,i+1,0,a,e,e'=>absurd (pp (l:=r) e) (bM e'▸(lF.mp d).1)
 |x::r,d,i+1,j+1,a,e,e'=>aA (· +1) (Eo (lF.mp d).2 e e')
end
theorem ED(v:V): ∀(ρ:L) (i:Nat),(cX ρ i v).length=ρ.length
 |[],_=>rfl
 |_::_,0=>rfl
 |_::r,i+1=>aA (· +1) (ED v r i)
theorem ya(v:V): ∀{ρ:L} {i:Nat},i <ρ.length->ah (cX ρ i v) i=U (U v)
 |_::_,0,_=>rfl
 |_::r,i+1,h=>ya v (ρ:=r) (xh h)
theorem wD(v:V): ∀{ρ:L} {i j:Nat},i≠j->ah (cX ρ i v) j=ah ρ j
 |[],_,_,_=>rfl
 |_::_,0,0,h=>absurd rfl h
 |_::_,0,_+1,_=>rfl
 |_::_,_+1,0,_=>rfl
 |_::r,i+1,j+1,h=>wD v (ρ:=r) λq=>h (aA (· +1) q)
noncomputable def Bp(m:Str->Option au)(n:Str)(v:au):Str->Option au:=λx=>if x=n then U v else m x
theorem I1{M}{Ar}{E}{s}{d}{o}{m}{k}{name}{v}{Q}(e:s.heap.get? d=U o)(n:iN o m k)
  (h: ∀o' h',h'.get? d=U o'->iN o' (Bp m name v) (if(m name).isSome then k else k+1)->sV d s.heap h'->Q () {s with heap:=h',toks:=s.toks+1}):
  aw M Ar (nsSet d name v) Q E s:=by
 obtain⟨es,ep,hd,hk,hm,hz⟩:=n
 unfold nsSet
 refine aF (aF<|wpAny_askSetting<|wpAny_pure<|wpAny_bind<|wpAny_mkText<|wpAny_bind<|wpAny_loadPart e ?_)
 rw[hd]
 dsimp only
 have hany:es.any (·.refKey)=ae:=by
  rw[Array.any_eq_false'];intro e he;obtain⟨n,t,h⟩:=hk e he;simp[aU2,h]
 rw[aRefKeyMayBeTheName_eq]
 unfold aRefKeyMayBeTheNameByArray
 rw[hany,Bool.and_false,aE<|by simp]
 refine wpAny_updatePart e ?_
 obtain⟨c,dd,a,b⟩:=o
 subst hd
 cases hi:es.findIdx? (·.key.isStr name) with
 |some i=>
  refine h _ _ (uW _ e<|by simp only[GR,GS,hi];rfl) ⟨_,ep,by simp only[GR,GS,hi];rfl,hk.modify _ _,λx=> ?_,?_⟩ (A1 ..)
  ·show _=if x=name then U v else m x
   rw[<-hm];exact findBy_modify (λn v=>v.isStr n) au.isStr_inj es name x v i hi
  ·rw[Array.size_modify]
   split
   ·exact hz
   ·exact uR hz
 |none=>
  refine h _ _ (uW _ e<|by simp only[GR,GS,hi];rfl) ⟨_,ep+1,by simp only[GR,GS,hi];rfl,hk.push _ _ _ _,λx=> ?_,?_⟩ (A1 ..)
  ·show _=if x=name then U v else m x
   rw[<-hm]
   exact findBy_push (λn v=>v.isStr n) es name x _ _ v (λy=>by
    show(name==y)=decide (y=name)
    by_cases q:y=name
    ·subst q;simp
    ·rw[decide_eq_false q];exact beq_eq_false_iff_ne.mpr λz=>q z.symm) hi
  ·have:m name=Y:=by
    rw[<-hm]
    show(es.find? λe=>e.key.isStr name).map (·.val)=Y
    rw[Option.map_eq_none_iff,Array.find?_eq_none]
    rw[Array.findIdx?_eq_none_iff] at hi
    exact λe he=>by rw[hi e he];exact A2
   rw[this,Array.size_push]
   exact cf hz
section
variable{σ:St x}{K:V->H->Prop}
theorem iN.SB{o}{m}{k}{b:Bool}(n:iN o m (if b then k else k+1))(h:k<=100):o.data.pastItsLine=Y:=n.casesOn λes ep h1 _ _ h4=>h1▸aU3 (AZ▸ak h4 (by cases b <;>first|exact ak (cf h) dd|exact ak h dd))
theorem Oc{a d c f:Nat}{o}{h}{b}{v}(e1:σ.s.heap.get? a=U (oO c d))(e2:σ.s.heap.get? d=U o)(F:gX σ.R c h o)(e:bc h f=U v)(k:K v σ.A):
  aw (M x) Ar (Rx (.ref a) (cM f) b) (PV ax σ K) N0 σ.s:=F.of λm g n h1 h2 r=>
 have q:=(h2 f v e).2
 have hc:=(x.T.p.Bl c f q.1).1
 (x.T.p.Og c f q.1).elim λ_ z=>get_value σ.mD ⟨e1,rfl,rfl,e2⟩ (x.T.p.ga c hc) (findObj_own (x.T.p.hd c hc) z.1 z.2<|(n.zh _).trans<|aA U q.2) (FJ<|r f v e) (.tk (r f v e) k)
theorem gX.QR{R}{c}{o}{j}(F:gX R c j o){n}(h: ∀f v,f <gA.length->bc j f=U v->n≠cM f):Rw n o=U Y:=F.of λm g q h1 h2 r=>
 (q.zh n).trans (aA U (match z:m n with
  |Y=>rfl
  |U w=>(h1 _ _ z).elim λb y=>y.elim λa y=>absurd y.2<|h b a (h2 b a y.1).1 y.1))
theorem Hk{v}{f}{b}(hf:f <gA.length)(h:j6 I σ.A K v f){w}(r:ax σ.R v w):aw (M x) Ar (Rx w (cM f) b) (PV ax σ K) N0 σ.s:=
 j6.casesOn (motive:=λv g _=>g=f->ax σ.R v w->aw (M x) Ar (Rx w (cM f) b) (PV ax σ K) N0 σ.s) h
  (λe k q r=>r.of λ_ _ e1 e2 F=>Oc (σ.at e1) (σ.at e2) F (q▸e) k)
  (λq e k z r=>r.of<|(σ.bg.ob _ _ q).2.of λ_ _ e1 _ e2 F=>Oc e1 e2 F (z▸e) k)
  (λ{a c g fs v} en e k z r=>r.of λd o e1 e2 F=>
   have p:=x.T.p.Oe c f v (z▸e)
   p.2.2.elim λj y=>get_value σ.mD ⟨σ.at e1,rfl,rfl,σ.at e2⟩ (x.T.p.ga c p.1) (findObj_cls (x.T.p.hd c p.1) y.1 y.2.1 (FJ y.2.2.1) y.2.2.2<|F.QR λg i l u t=>bQ <|(x.T.p.names _ _ hf l t▸z▸en).symm.trans u) (FJ y.2.2.1)<|.tk (σ.M3 y.2.2.1) k)
  rfl r
inductive PN (σ:St x) (K:H->Prop):bA->Prop
 |mk (τ:St x):σ.le τ->K τ.A->PN σ K τ.s
def St.cq(σ:St x){a}{p o}{h}(t:Nat)(e:σ.A a=U p)(b:sV a σ.s.heap h)(r:hU σ.R h a o):St x:=
 have q:=(σ.bg.ob _ _ e).1
 σ.to σ.R (σ.A.cq a o) h t (σ.bg.abs a (λ_ _=>rfl) (λb' _ n q=>(b.2 b' n).trans q) q (λ_ z=>bH <|q.symm.trans z) (λ_ z=>bH <|q.symm.trans z) r) (Rm.le_refl _)
def St.aA0(σ:St x){a d}{p o}{h}{od}(t:Nat)(e:σ.A a=U p)(dd:σ.R d=U (.dict a))(b:sV d σ.s.heap h)(there:h.get? d=U od)(r:hU σ.R h a o):St x:=
 have q:=(σ.bg.ob _ _ e).1
 σ.to σ.R (σ.A.cq a o) h t (((σ.bg.oJ<|H.E3 _ a).jx d (λ_ _=>rfl) (λ_ _ _=>id) (λb' _ n q=>(b.2 b' n).trans q) (λ_ _=>id) (λ_ _ z=>bH <|dd.symm.trans z) (λo z=>bH <|dd.symm.trans (σ.bg.ob d o<|H.E3 _ a d o z).1) (λb z=>by cases dd.symm.trans z;exact H.C6 ..) λz=>gJ <|there.symm.trans z)
  |>.jx a (λ_ _=>rfl) (λb n o z=>(aE n).trans (H.LI _ n z)) (λ_ _ _=>id) (λ_ _=>id) (λ_ _ z=>bH <|q.symm.trans z) (λo z=>⟨q,by cases(aM rfl).symm.trans z;exact r⟩) (λ_ z=>bH <|q.symm.trans z) λz=>r.at z) (Rm.le_refl _)
theorem gX.bw{R}{c f}{a}{o}{v}{w}(p: ∀f g,f <gA.length->g <gA.length->cM f=cM g->f=g)(hf:f <gA.length)(hk:I.nP c f=aa)(F:gX R c a o)(r:ax R v w)
  {G:Prop} (k: ∀m,iN o m a.length->(∀o',iN o' (Bp m (cM f) w) (if(m<|cM f).isSome then a.length else a.length+1)->gX R c (iw a f v) o')->G):G:=F.of λm g n h1 h2 h3=>k m n λo' n=>
 have hs:(m<|cM f).isSome=(bc a f).isSome:=match q1:bc a f,q2:m (cM f) with
  |U b,_=>q2▸(aA Ry (h2 f b q1).2.2)
  |Y,Y=>rfl
  |Y,U j=>(h1 _ _ q2).elim λe z=>z.elim λb z=>bQ <|(p f e hf (h2 e b z.1).1 z.2▸q1).symm.trans z.1
 .mk (m:=Bp m (cM f) w) (λi=>if i=f then w else g i) (by rw[hs,<-Os a f v] at n;exact n)
  (λy j h=>if z:y=cM f then⟨f,v,Ah ..,z⟩ else(h1 _ _<|(aE z).symm.trans h).imp λe q=>q.imp λb q=>⟨(wB _ _ λt=>z<|q.2.trans<|aA cM t.symm).trans q.1,q.2⟩)
  (λi u hi=>if z:f=i then z▸⟨hf,hk,(aM rfl).trans<|aA U (aM rfl).symm⟩ else
   have y:=h2 i u ((wB _ _ z).symm.trans hi)
   ⟨y.1,y.2.1,(aE λt=>z (p i f y.1 hf t).symm).trans<|y.2.2.trans<|aA U (aE λt=>z t.symm).symm⟩)
  λi u hi=>if z:f=i then by subst z;cases(Ah ..).symm.trans hi;exact(aM rfl).symm▸r else(aE λt=>z t.symm:(if i=f then w else g i)=g i).symm▸h3 i u ((wB _ _ z).symm.trans hi)
theorem KE{f}{v j}{P}{Q:Unit->bA->Prop}{w u}(h:oq I σ.A f v P j)(r:ax σ.R v w)(ra:ax σ.R j u)(q: ∀τ:St x,τ.R=σ.R->P τ.A->Q () τ.s):aw (M x) Ar (setAttr u (cM f) w) Q N0 σ.s:=by
 refine oq.casesOn h (λ{a c fs} ha hk hl k ra=>ra.of<|(σ.bg.ob _ _ ha).2.of λd o e1 ed e2 F=> ?_) ra
 have p:=x.T.p.Bl _ _ hk
 refine(any_some<|x.T.p.hd _ p.1).elim λl hd=>set_plain σ.mD (od:=U o) ⟨e1,rfl,rfl,e2⟩ (x.T.p.set _ p.1) (osa_open (od:=U o) σ.mD ⟨e1,rfl,rfl,e2⟩ (x.T.p.po _ p.1) (x.T.p.tk _ _ hk) λb=> ?_)
 refine aF (bV<|aF<|aF<|wpAny_loadPart e1<|aF<|looks_clsIn σ.mD hd.1 _ _ _ _ (λ_ _ e=>e) ?_)
 rw[hd.2]
 exact bV (aF (bV (aF (F.bw x.T.p.names p.2 hk r λm n i=>I1 e2 n λo' h' e' g sb=>
  aF (aU4 e' (g.SB<|d5 hl)
   (bV<|q (σ.aA0 _ ha ed sb e'<|.aK ((sb.2 a λz=>bH <|((aA σ.R z).symm.trans (σ.bg.ob _ _ ha).1).symm.trans ed).trans e1) ed e'<|i o' g) rfl k))))))
theorem jX{R:Rm}{a}{b c}{o p}(h:R.kp b a o)(q:R.kp c a p):b=c/\o=p:=by cases(Eq.symm h).trans q;exact⟨rfl,rfl⟩
theorem iL{R:Rm}{a b}{c}{o}(y:b=a)(e:R.kp c a o):R.kp c b o:=y.symm▸e
theorem uh{R:Rm}{a b}{o p}(z:R.kp .fr b p)(e:R.kp .own a o):b≠a:=λy=>fU (jX z<|iL y e).1
def St.own(σ:St x){a}{o p}{h}(ρ:L)(t:Nat)(e:σ.R.kp .own a o)(q:h.get? a=U p)(sb:sV a σ.s.heap h)(f:Fr (x.at ρ)<|σ.R.bw a<|.kp .own p):St<|x.at ρ:=
 ⟨σ.R.bw a<|.kp .own p,σ.A,{σ.s with heap:=h,toks:=t},σ.bg.mW a q (λb _ n e=>(sb.2 b n).trans e) (σ.bg.j9 λz=>bH <|e.symm.trans z) (λ_ z=>fU (jX e z).1) λ_ z=>bH <|e.symm.trans z,
  λb o' z=>(Rm.cQ<|uh (σ.bX b o' z) e).trans<|σ.bX b o' z,σ.gens,σ.os,f⟩
theorem St.I2(σ:St x){a}{o p}{h}{ρ}{t}{e:σ.R.kp .own a o}{q}{j:sV a σ.s.heap h}{f:Fr (x.at ρ)<|σ.R.bw a<|.kp .own p}(w:x.own a):σ.lo<|σ.own ρ t e q j f:=
 λb c o' z n=>(Rm.cQ λy=>n (jX z<|iL y e).1<|y.symm▸w).trans z
theorem qI{R:Rm}{a}{o p}(e:R.kp .own a o):R.fl<|R.bw a<|.kp .own p:=λb o' z=>(Rm.cQ<|uh z e).trans z
theorem uq.keep{R S:Rm}{i j}{n}{v}(l:R.fl S)(k: ∀c o,x.env.cells.lookup n=U c->R.kp .own c o->S.kp .own c o)(ne:i≠j)(h:uq x R j n):uq (x.at<|cX x.ρ i v) S j n:=h.casesOn (λh=> .dR h) λc o cv h1 h2 h3 h4 a=>
 .cell c o cv h1 h2 (k c o h2 h3) h4 λv e=>(a v<|(wD _ ne).symm.trans e).imp λ_ q=>⟨q.1,q.2.aG l⟩
theorem wo.keep{R S}{i}{v}{w}{p}{m o:Str->Option au}{t}(l:R.fl S)(e:S.kp .own x.env.locals p)(n:iN p o t)(h: ∀i n v,ah x.ns i=U n->x.env.kindOf n=U .local->ah x.ρ i=U (U v)-> ∃w,m n=U w/\ax R v w)
  (hi: ∀n,ah x.ns i=U n->x.env.kindOf n=U .local->o n=U w/\ax R v w) (ho: ∀j n,i≠j->ah x.ns j=U n->o n=m n) (hl:i <x.ρ.length):wo (x.at<|cX x.ρ i v) S:=
 .mk p o t e n λj n u a b c=>if q:i=j then⟨w,by
  subst q;obtain⟨h1,h2⟩:=hi n a b;cases(ya v hl).symm.trans c;exact⟨h1,h2.aG l⟩⟩ else(h j n u a b<|(wD _ q).symm.trans c).imp λ_ z=>⟨(ho j n q a).trans z.1,z.2.aG l⟩
theorem vI{i}{n}{v}{w}{P:H->Prop}{Q:Unit->bA->Prop}(hn:ah x.ns i=U n)(hf:x.env.kindOf n≠U .free)(r:ax σ.R v w)(k:P σ.A)(q: ∀τ:St<|x.at<|cX x.ρ i v,σ.lo τ->(x.env.kindOf n=U .local-> ∀a b o,a≠x.env.locals->σ.R.kp b a o->τ.R.kp b a o)->P τ.A->Q () τ.s):
  aw (M x) Ar (storeName x.env n w) Q N0 σ.s:=by
 have hl:=σ.fr.len▸xE hn
 have len:(cX x.ρ i v).length=x.ns.length:=(ED ..).trans σ.fr.len
 obtain⟨o,m,c,e,ns,h⟩:=σ.fr.dR
 have nd: ∀{j:Nat} {f:Str},i≠j->ah x.ns j=U f->f≠n:=λne a z=>ne (Eo x.st.nd hn<|z▸a)
 have apart: ∀{c' o' cv},σ.R.kp .own c' o'->o'.data= .cell cv->c'≠x.env.locals:=λg d z=>ns.casesOn λ_ _ h0 _ _ _=>nomatch h0.symm.trans ((aA Obj.data (jX e<|iL z.symm g).2).trans d)
 refine(σ.fr.var i n hn).casesOn (λhk=> ?_) λc' o' cv hk h2 h3 h4 l=> ?_
 ·refine wpAny_storeName_local hk (σ.ns e ns) (λh' f sb=> ?_) (by rw[x.st.kind];rfl)
  obtain⟨p,es,ep,e1,e2,e3,e4⟩:=f
  have F:Fr (x.at<|cX x.ρ i v)<|σ.R.bw x.env.locals<|.kp .own p:=by
   refine⟨len,.keep (w:=w) (qI e) (Rm.cN ..) ⟨es,ep,e2,e3,e4,dO _⟩ h (λf a b=> ?_) (λj f ne a=>aE<|nd ne a) hl,λj f a=> ?_⟩
   ·exact p7 (hn.symm.trans a) ⟨aM rfl,r⟩
   ·refine if z:i=j then ?_ else ?_
    ·subst z;exact p7 (hn.symm.trans a) (.dR hk)
    ·exact(σ.fr.var j f a).casesOn (λh=> .dR h) λc o' cv h1 h2 h3 h4 l=> .cell c o' cv h1 h2 ((Rm.cQ<|apart h3 h4).trans h3) h4 λv e'=>(l v<|(wD _ z).symm.trans e').imp λ_ q=>⟨q.1,q.2.aG<|qI e⟩
  exact q (σ.own _ _ e e1 sb F) (σ.I2<|.inl rfl) (λ_ a b o n z=>(Rm.cQ n).trans z) k
 ·have hk:=hk.resolve_right hf
  refine wpAny_storeName_cell x.st.kind hk h2 ⟨o',σ.at h3,h4⟩ λh' f sb=> ?_
  obtain⟨p,e1,e2⟩:=f
  have F:Fr (x.at<|cX x.ρ i v)<|σ.R.bw c'<|.kp .own p:=by
   refine⟨len,.keep (w:=w) (qI h3) ((Rm.cQ λz=>apart h3 h4 z.symm).trans e) ns h (λf a b=> ?_) (λj f ne a=>rfl) hl,λj f a=> ?_⟩
   ·rw[bM<|a.symm.trans hn,hk] at b;exact nomatch b
   ·refine if z:i=j then ?_ else(σ.fr.var j f a).keep (qI h3) (λu t g s=>(Rm.cQ λy=>nd z a<|x.st.apart f n c' (g.trans<|congrArg U y) h2).trans s) z
    subst z
    exact p7 (hn.symm.trans a) (.cell c' p _ (.inl hk) h2 (Rm.cN ..) e2 λv e=>⟨w,rfl,bM (bM<|(ya _ hl).symm.trans e)▸r.aG (qI h3)⟩)
  exact q (σ.own _ _ h3 e1 sb F) (σ.I2<|.inr ⟨n,hk,h2⟩) (λz=>nomatch hk.symm.trans z) k
end
open Classical in
theorem mx{p} [d:Decidable p]:decide p=fD p:=by unfold fD;congr
open Classical in
theorem uF{p}:(!fD p)=fD (¬p):=(mx (p:= ¬p))▸(decide_not).symm
open Classical in
theorem tC{p}(h:p):aa=fD p:=(decide_eq_true h).symm
open Classical in
theorem oY{p}(h: ¬p):ae=fD p:=(decide_eq_false h).symm
theorem Jk{b}:b=fD (b=aa):=by cases b;exact oY A2;exact tC rfl
theorem ad0{p q}(h:p↔q):fD p=fD q:=aA fD (propext h)
theorem Z7{A}{s}(b c:Array UInt8)(t u:Tok):xn A s (.bytes b t) (.bytes c u)<|b.toList==c.toList:=λprog w E Q h=>by
 unfold eqBool
 refine e7 ?_
 by_cases hab:(aU5 b t==aU5 c u)=aa
 ·rw[aM hab]
  have e:b=c:=by have:=c9 hab;injection this
  subst e
  exact aF (wpAny_rule<|bV<|by simpa using h)
 ·rw[aE hab]
  exact aF (eq_bytes<|pD h)
theorem Vd{b c}(h:jL b=jL c):b.toList=c.toList:=(List.map_inj_right λx y e=>UInt8.toNat_inj.mp<|aT0 e).mp h
section
variable{σ:St x}{R:Rm}{s:bA}
def DO(Ar:cV)(s:bA)(ws us:List au):Prop:=ws.toArray.size=us.toArray.size/\ ∀j (h1) (h2:j <us.toArray.size),xn Ar.in1 s ws.toArray[j] us.toArray[j] aa
theorem xR{n}{Ar}(b:Ar.units+(n+1) <qY)(ih: ∀(Ar:cV) (v:V) (w u:au),fR n v=aa->Ar.units+n <qY->ax R v w->ax R v u->xn Ar s w u aa){vs}{a us}(h:vs.all (fR n)=aa)(r:aV R vs a)(q:aV R vs us):DO Ar s a us:=
 bW.rec
  (λus _ q=>q.none ⟨rfl,λj h1=>absurd h1<|Gx _⟩) (λ{v w vs a} p _ ih2 us h q=>q.of λu us y q=>
   have h:=fT.mp h
   have z:=ih2 us h.2 q
   ⟨aA (· +1) z.1,λj=>match j with
    |0=>λ_ _=>ih _ _ _ _ h.1 (show Ar.units+1+n <qY by rw[cG,c4 1];exact b) p y
    |j+1=>λh1 h2=>z.2 j (xh h1)<|xh h2⟩) r us h q
theorem MJ{Ar}{a b m j:Nat}{h us}(e:s.heap.get? a=U (gU h m))(e':s.heap.get? b=U (gU us j))(c:Ar.units <qY)(y:DO Ar s h us):uX Ar s (.ref a) (.ref b) aa/\xo Ar s (.ref a) (.ref b) ae:=by
 have h1:=uX.tuples ⟨_,e,rfl,_,rfl⟩ ⟨_,e',rfl,_,rfl⟩ c y.2
 have h2:=xo.tuples (e:=λ_=>aa) ⟨_,e,rfl,_,rfl⟩ ⟨_,e',rfl,_,rfl⟩ c y.2
 rw[y.1,beq_self_eq_true,A3.mpr λ_ _=>rfl] at h1 h2
 exact⟨h1,h2⟩
theorem Nx{Ar}{a b m j:Nat}{h us}(e:s.heap.get? a=U (cy h m))(e':s.heap.get? b=U (cy us j))(c:Ar.units <qY)(y:DO Ar s h us):uX Ar s (.ref a) (.ref b) aa/\xo Ar s (.ref a) (.ref b) ae:=by
 have h1:=aU6 ⟨_,e,rfl,_,rfl⟩ ⟨_,e',rfl,_,rfl⟩ y.1 c y.2
 have h2:=aU7 (e:=λ_=>aa) ⟨_,e,rfl,_,rfl⟩ ⟨_,e',rfl,_,rfl⟩ y.1 c y.2
 rw[A3.mpr λ_ _=>rfl] at h1 h2
 exact⟨h1,h2⟩
theorem Ot(g: ∀a o,R.is a o->s.heap.get? a=U o): ∀(n:Nat) (Ar:cV) (v:V) (w u:au),fR n v=aa->Ar.units+n <qY->ax R v w->ax R v u->xn Ar s w u aa:=by
 intro n
 refine n.rec (λ_ _ _ _ h=>fy h) λn ih Ar v w u h j r q=> ?_
 have f:=mo (cg ..) j
 cases v with
 |none=>exact r.of (q.of<|.same _)
 |int i=>exact r.of λt=>q.of λc=>(beq_self_eq_true i)▸aU8 i t i c
 |str i=>exact r.of λt=>q.of λc=>(beq_self_eq_true i)▸xn.str_str i t i c
 |a6 l=>exact r.of λa t e=>q.of λb c e'=>by have:=Z7 (A:=Ar) (s:=s) a b t c;rwa[Vd<|e.trans e'.symm,beq_self_eq_true] at this
 |aj l=>exact r.of λws a m e r=>q.of λus b p e' q=>if z:a=b then z▸ .same _ else .of_refs z (MJ (g _ _ e) (g _ _ e') f<|xR j ih h r q).1
 |fl l=>exact r.of λws a m e r=>q.of λus b p e' q=>if z:a=b then z▸ .same _ else .of_refs z (Nx (g _ _ e) (g _ _ e') f<|xR j ih h r q).1
 |_=>cases h
theorem Cg{a b n m:Nat}{l}(e:s.heap.get? a=U (cy l n))(e':s.heap.get? b=U (cy [] m))(c:Ar.units <qY):uX Ar s (.ref a) (.ref b) l.isEmpty/\xo Ar s (.ref a) (.ref b) (!l.isEmpty):=match l,e with
 |[],e=>⟨aU6 (e:=λ_=>aa) ⟨_,e,rfl,_,rfl⟩ ⟨_,e',rfl,_,rfl⟩ rfl c λj h=>absurd h<|Gx _,aU7 (e:=λ_=>aa) ⟨_,e,rfl,_,rfl⟩ ⟨_,e',rfl,_,rfl⟩ rfl c λj h=>absurd h<|Gx _⟩
 |_::_,e=>⟨.lists_lengths ⟨_,e,rfl,_,rfl⟩ ⟨_,e',rfl,_,rfl⟩ rfl c,.lists_lengths ⟨_,e,rfl,_,rfl⟩ ⟨_,e',rfl,_,rfl⟩ rfl c⟩
theorem aV.F4{l}{a}(r:aV R l a):a.isEmpty=fD (l=[]):=r.casesOn (tC rfl) λ_ _=>oY λz=>zk z
noncomputable def l_(i:Int):au->Bool
 |.int j _=>j==i
 |_=>ae
theorem aV.BH(i:Int)(t:Tok): ∀(l:List Int) (ws:List au),aV R (vi l) ws->(∀y∈ws,xn Ar s y (.int i t)<|l_ i y)/\ws.any (l_ i)=fD (i∈l):=by
 intro l
 refine l.rec (λws r=>r.none ⟨λy h=>(dz h),oY λz=>dz z⟩) λj l ih ws r=>r.of λw ws p r=>p.of λu=> ?_
 have z:=ih ws r
 refine⟨λy h=>(bB.mp h).elim (λe=>e▸aU8 j u i t)<|z.1 y,?_⟩
 show(j==i||ws.any (l_ i))=_
 rw[z.2]
 refine if e:i=j then ?_ else ?_
 ·rw[<-tC<|bB.mpr<|.inl e];exact xj.mpr (.inl<|beq_iff_eq.mpr e.symm)
 ·rw[ad0<|bB.trans<|or_iff_right e,beq_eq_false_iff_ne.mpr λq=>e q.symm];rfl
abbrev ik(x:Cx):PySem.KeyKind x.T.prog x.T.w Int:=intKind x.T.prog x.T.w
noncomputable def kv:List (Int×V)->List (Tok×au)->List (Int×au)
 |d::ds,t::ts=>(d.1,t.2)::kv ds ts
 |_,_=>[]
theorem mP(k:Int)(t:Tok):A4 k (.int k t)=aa:=beq_self_eq_true k
theorem dE.Mc{ds}{h}(r:dE R ds h):aU9 (ik x) (fY ds h)<|kv ds h:=r.rec .nil λ{a b _ _} _ _ q=> .cons (mP a.1 b.1) rfl q
theorem dE.dI{ds:List<|Int×V}{a:List<|Tok×au}(r:dE R ds a):(kv ds a).map (·.1)=dI ds:=r.rec rfl λ_ _ q=>aA (_) q
theorem dE.has{ds}{j}(r:dE R ds j): ∀e∈fY ds j,∃k,(ik x).is k e.key=aa/\e.hash=(ik x).hash k:=r.rec (λ_ h=>dz h) λ{a b _ _} _ _ q e h=>(bB.mp h).elim (λz=>z▸⟨_,mP a.1 b.1,rfl⟩) (q e)
theorem rq{h:ct}{a n:Nat}{ds}{j}(e:h.get? a=U (gi (fY ds j) n))(nd:(dI ds).Nodup)(r:dE R ds j):h.DictOf (ik x) a<|kv ds j:=
 ⟨_,(fY ds j).toArray,n,e,⟨rfl,rfl,rfl⟩,rfl,λe he=>r.has e<|A0.mpr he,r.Mc,r.dI▸nd⟩
noncomputable def sj(R:Rm)(o:Option V)(q:Option au):Prop:=match o with
 |U v=> ∃w,q=U w/\ax R v w
 |Y=>q=Y
theorem dE.get{ds}{a}(r:dE R ds a)(k:Int):sj R (bu ds k)<|Rz (kv ds a) k:=r.rec rfl λ{d t ds ts} p _ q=>by
 show sj R (if d.1=k then U d.2 else bu ds k) (Rz ((d.1,t.2)::kv ds ts) k)
 unfold Rz
 rw[List.find?_cons]
 refine if e:d.1=k then ?_ else ?_
 ·rw[aM e,decide_eq_true e];exact⟨_,rfl,p⟩
 ·rw[aE e,decide_eq_false e];exact q
theorem sj.some{o}{q}(g:sj R o q):q.isSome=o.isSome:=match o,g with
 |.some _,g=>g.elim λ_ z=>z.1▸rfl
 |.none,g=>aA Ry g
def wv(x:Cx)(Ar:cV)(s:bA)(a:CmpOp)(w u:au)(p:Prop):Prop:= ∀Q:au->bA->Prop,(∀t,Q (.bool<|fD p) {s with toks:=t})->aw (M x) Ar (uY a w u) Q N0 s
theorem wv.mk{a}{w u}{p}{b}(e:b=fD p)(t:Tok)(h: ∀Q:au->bA->Prop,Q (.bool b) {s with toks:=t}->aw (M x) Ar (uY a w u) Q N0 s):wv x Ar s a w u p:=λQ q=>h Q (e▸q t)
theorem zO{a}{ds}{h}{n}{i}{t}(e:s.heap.get? a=U (gi (fY ds h) n))(nd:(dI ds).Nodup)(r:dE R ds h)(hm:(a==kL)=ae):
  wv x Ar s .In (.int i t) (.ref a) ((bu ds i).isSome=aa)/\wv x Ar s .NotIn (.int i t) (.ref a) (¬(bu ds i).isSome=aa):=
 have m:=(rq e nd r).mapOf
 ⟨.mk ((r.get i).some.trans Jk) (s.toks+1) λ_=>wpAny_in_of (mP i t) hm m,.mk ((aA not<|(r.get i).some.trans Jk).trans uF) (s.toks+1) λ_=>wpAny_notIn_of (mP i t) hm m⟩
theorem Sr{a b c j d l:Nat}{Q}(ha:s.heap.get? a=U (oO c d))(hb:s.heap.get? b=U (oO j l))(h:Q (a==b) s):aw (M x) Ar (isSame (.ref a)<|.ref b) Q N0 s:=by
 show aw (M x) Ar (if(a==b)=aa then cF aa else _) Q N0 s
 cases e:a==b with
 |true=>exact bV (e▸h)
 |false=>exact aF (RA ha<|wpAny_bind<|wpAny_load hb<|wpAny_pure<|e▸h)
theorem Pq{v}{w}(h:sK v=ae)(r:ax R v w):(w==au.none)=ae:=ax.casesOn r (λh=>jK h) (λ_ _=>rfl) (λ_ _ _=>rfl) (λ_ _ _=>rfl) (λ_ _ _=>rfl) (λ_ _ _=>rfl) (λ_ _ _=>rfl) (λ_ _ _ _=>rfl) (λ_ _ _ _ _=>rfl) (λ_ _=>rfl) h
noncomputable def iG:nj->CmpOp
 |.eq=> .Eq
 |.ne=> .NotEq
 |.lt=> .Lt
 |.le=> .LtE
 |.gt=> .Gt
 |.ge=> .GtE
 |.is=> .Is
 |.l6=> .IsNot
 |.pa=> .In
 |.su=> .NotIn
structure d6(k:Nat)(Ar:cV):Prop where
 hd:Ar.handled=Y
 oD:Ar.depth+k <GT
 un:Ar.units+8*k+20 <qY
theorem d6.u{k n}(r:d6 k Ar)(h:n<=20):Ar.units+n <qY:=mo (gM (cg _ _) h) r.un
theorem vS{k}(rm:d6 k Ar){W}{X D}{w u}{J}{G:Prop}(h:cB σ.A J W X D)(ra:ax σ.R X w)(rb:ax σ.R D u)(z: ∀p,J p->wv x Ar σ.s (iG W) w u p->G):G:=by
 have j:=rm.u (j3 _)
 have hF: ∀a o,σ.R.is a o->σ.s.heap.get? a=U o:=λa o e=>σ.at e
 exact cB.casesOn h
  (λk ra rb=>ra.kH rb λt f z=>z _ k<|.mk mx _ λQ q=>uX.int_int _ _ _ _ _ _ _ _ q)
  (λk ra rb=>ra.kH rb λt f z=>z _ k<|.mk ((aA not mx).trans uF) _ λQ q=>xo.int_int _ _ _ _ _ _ _ _ q)
  (λk ra rb=>ra.of<|rb.of λz=>z _ k<|.mk ((aA not mx).trans uF) _ λQ q=>xo.bool_bool _ _ _ _ _ _ q)
  (λk ra rb=>ra.kH rb λt f z=>z _ k<|.mk mx _ λQ q=>PySem.P.lt_int q)
  (λk ra rb=>ra.kH rb λt f z=>z _ k<|.mk mx _ λQ q=>PySem.P.le_int q)
  (λk ra rb=>ra.kH rb λt f z=>z _ k<|.mk mx _ λQ q=>PySem.P.gt_int q)
  (λk ra rb=>ra.kH rb λt f z=>z _ k<|.mk mx _ λQ q=>PySem.P.ge_int q)
  (λk ra rb=>ra.of λt=>rb.of λf z=>z _ k<|.mk mx _ λQ q=>uX.str_str _ _ _ _ _ _ _ _ q)
  (λk ra rb=>ra.of<|rb.of λf z=>z _ k<|.mk (oY id) _ λQ q=>uX.none_int _ _ _ _ _ _ q)
  (λk ra rb=>ra.of λws a n e r=>rb.of λus b m e' q z=>z _ k<|.mk r.F4 _ λQ y=>(Cg (σ.at e) (q.none id<|σ.at e') j).1 _ _ _ _ y)
  (λk ra rb=>ra.of λws a n e r=>rb.of λus b m e' q z=>z _ k<|.mk ((aA not r.F4).trans uF) _ λQ y=>(Cg (σ.at e) (q.none id<|σ.at e') j).2 _ _ _ _ y)
  (λg k ra rb=>ra.of<|rb.of λus b m e' q z=>σ.gV g λws n e r=>z _ k<|.mk r.F4 _ λQ y=>(Cg e (q.none id<|σ.at e') j).1 _ _ _ _ y)
  (λg k ra rb=>ra.of λws a n e r=>rb.of λus b m e' q z=>z _ k<|.mk (oY id) _ λQ y=>(MJ (σ.at e) (σ.at e') j<|xR (rm.u dd) (Ot hF 7) g r q).2 _ _ _ _ y)
  (λg k ra rb=>ra.of λws a n e r=>rb.of λus b m e' q z=>z _ k<|.mk (oY id) _ λQ y=>(Nx (σ.at e) (σ.at e') j<|xR (rm.u dd) (Ot hF 7) g r q).2 _ _ _ _ y)
  (λk ra rb=>ra.of<|rb.of λz=>z _ k<|.mk (tC tI) _ λQ q=>is_none_gen q)
  (λg k ra rb=>rb.of λz=>z _ k<|.mk ((Pq g ra).trans<|oY id) _ λQ q=>is_none_gen q)
  (λk ra rb=>ra.of<|rb.of λz=>z _ k<|.mk (oY id) _ λQ q=>aV0 q)
  (λg k ra rb=>rb.of λz=>z _ k<|.mk ((aA not<|Pq g ra).trans<|tC tI) _ λQ q=>aV0 q)
  (λ{a b c d fs gs} k ra rb=>ra.of λ_ _ e _ _=>rb.of λ_ _ e' _ _ z=>z _ k<|.mk ((aA not mx).trans uF) _ λQ q=>aF<|Sr (σ.at e) (σ.at e')<|bV q)
  (λk ra rb=>ra.of λt=>rb.of λA a n e hm nd r z=>z _ k (zO (σ.at e) nd r hm).1)
  (λg k ra rb=>ra.of λt=>rb.of λz=>σ.i5 g λA n e nd r=>z _ k (zO e nd r<|σ.rf g).1)
  (λk ra rb=>ra.of λt=>rb.of λA a n e hm nd r z=>z _ k (zO (σ.at e) nd r hm).2)
  (λg k ra rb=>ra.of λt=>rb.of λz=>σ.i5 g λA n e nd r=>z _ k (zO e nd r<|σ.rf g).2)
  (λ{l i} k ra rb=>ra.of λt=>rb.of λws a n e r z=>z _ k (have y:=r.BH i t; .mk y.2 _ λQ q=>in_listAt _ ⟨_,σ.at e,rfl,_,rfl⟩ (λv h=>y.1 v<|RB.mp h)<|RC▸q))
  (λ{l i} k ra rb=>ra.of λt=>rb.of λws a n e r z=>z _ k (have y:=r.BH i t; .mk y.2 _ λQ q=>in_tupleAt _ ⟨_,σ.at e,rfl,_,rfl⟩ (λv h=>y.1 v<|RB.mp h)<|RC▸q))
  (λ{l i} k ra rb=>ra.of λt=>rb.of λws a n e r z=>z _ k (have y:=r.BH i t; .mk ((aA not y.2).trans uF) _ λQ q=>notIn_tupleAt _ ⟨_,σ.at e,rfl,_,rfl⟩ (λv h=>y.1 v<|RB.mp h)<|RC▸q)) ra rb z
end
section
variable{σ:St x}{a b d:Expr}
theorem F5{p}{K:Bool->Prop}(h:(p->K aa)/\(¬p->K ae)):K<|fD p:=(GU p).elim (λq=>tC q▸h.1 q) λq=>oY q▸h.2 q
theorem ET{vs j}{s}{Q}{E}(h:Q () s):aw (M x) Ar (xp vs j) Q E s:=λc p _=>by rw[Sem.wp_release];exact h
theorem CC{vs}{s}{m}{Q}{E}(h:aw (M x) Ar m Q E s):aw (M x) Ar (xq vs m) Q E s:=λe p c=>by rw[Sem.wp_operate];exact h e p c
theorem ak9(rm:d6 k Ar)(hm:xr (iG o) b=ae)(ea:a3 x Ar (aQ a x.env) f)(eb:a3 x Ar (aQ b x.env) g):
  a3 x Ar (aQ (.Compare a [iG o] [b] pos) x.env) (λh Q=>f h λi h=>g h λq h=>cB h (λp=>Q (.bool<|fD p) h) o i q):=λσ K h=>
 wpAny_Compare1 (ea.bind h λτ v w l r k=>eb.map k λυ s u l' r' k=>vS rm k (r.aG l'.fl) r' λp j c=>c _ λt=>⟨υ.ke t,_,_,λ_ _ _ e=>l' _ _ _<|l _ _ _ e,.bool _,j⟩) hm
theorem VN(rm:d6 k Ar){o}(hm:xr (iG u) b=ae)(ea:a3 x Ar (aQ a x.env) f)(eb:a3 x Ar (aQ b x.env) g):
  dS x Ar (isTrue (.Compare a [iG u] [b] pos) x.env o) (λh T F=>f h λq h=>g h λi h=>cB h (λp=>(p->T h)/\(¬p->F h)) u q i):=λσ K h=>
 wpAny_isTrue_Compare1 (ea.bind h λτ v w l r k=>eb.map k λυ s y l' r' k=>vS rm k (r.aG l'.fl) r' λp j c=>c _ λt=>pD ⟨υ.ke t,_,_,λ_ _ _ e=>l' _ _ _<|l _ _ _ e,rfl,F5 (K:=λb=>K b υ.A) j⟩) hm
theorem Y6(env:Env)(l op op2 r r2 pos):aQ (.Compare l [op,op2] [r,r2] pos) env=(do
  let a<-aQ l env
  let b<-iQ [a] (aQ r env)
  uZ pos
  let c<-iQ [a,b] (uY op a b)
  xp [a,b] [c]
  if<-iQ [c,b] (xt c) then(do
   let rv<-iQ [b] (aV1 op2 r2<|aQ r2 env)
   uZ pos
   xq [b,rv]<|uY op2 b rv) else cF c):=rfl
theorem WP(env:Env)(l op op2 r r2 pos whole):isTrue (.Compare l [op,op2] [r,r2] pos) env whole=(do
  let a<-aQ l env
  let b<-iQ [a] (aQ r env)
  uZ pos
  let c<-iQ [a,b] (uY op a b)
  xp [a,b] [c]
  if<-iQ [c,b] (xt c) then(do
   let rv<-iQ [b] (aV1 op2 r2<|aQ r2 env)
   uZ pos
   let d<-xq [b,rv] (uY op2 b rv)
   iQ [d]<|xt d) else cF ae):=rfl
theorem yS{α}{m:au->Sem α}{n:au->Sem α}{Q}{J:H->V->Prop->Prop}(rm:d6 k Ar)(ea:a3 x Ar (aQ a x.env) f)(eb:a3 x Ar (aQ b x.env) g)(h:f σ.A λA h=>g h λi h=>cB h (λp=>J h i p) u A i)
  (z: ∀(τ:St x) v w p,σ.le τ->ax τ.R v w->J τ.A v p->(p->aw (M x) Ar (m w) Q N0 τ.s)/\(¬p->aw (M x) Ar (n<|.bool ae) Q N0 τ.s)):
  aw (M x) Ar (do
   let a<-aQ a x.env
   let b<-iQ [a] (aQ b x.env)
   uZ pos
   let c<-iQ [a,b] (uY (iG u) a b)
   xp [a,b] [c]
   if<-iQ [c,b] (xt c) then m b else n c) Q N0 σ.s:=
 aF (ea.bind h λτ v w l r k=>aF (e7 (eb.map k λυ s o l' r' k=>aF (jk (aF (e7 (vS rm k (r.aG l'.fl) r' λp j c=>c _ λt=>aF (ET (aF (e7 (pD
  (have y:=z (υ.ke t) s o p (λ_ _ _ e=>l' _ _ _<|l _ _ _ e) r' j
   F5 (K:=λb=>aw (M x) Ar (if b=aa then m o else n<|.bool b) Q N0 (υ.ke t).s) ⟨λq=>y.1 q,λq=>y.2 q⟩))))))))))))
theorem U8(rm:d6 k Ar)(hm:xr (iG o) d=ae)(ea:a3 x Ar (aQ a x.env) f)(eb:a3 x Ar (aQ b x.env) g)(ed:a3 x Ar (aQ d x.env) e):
  a3 x Ar (aQ (.Compare a [iG u,iG o] [b,d] pos) x.env) (λh Q=>f h λs h=>g h λi h=>cB h (λp=>(p->e h λy h=>cB h (λp=>Q (.bool<|fD p) h) o i y)/\(¬p->Q (.bool ae) h)) u s i):=λσ K h=>by
 rw[Y6]
 refine yS rm ea eb h λτ v w p l r j=>⟨λq=>aF<|e7 ?_,λq=>bV ⟨τ,_,_,l,.bool _,j.2 q⟩⟩
 rw[aV2 hm]
 exact ed.map (j.1 q) λυ z A l' r' k=>aF (jk<|CC<|vS rm k (r.aG l'.fl) r' λp j c=>c _ λt=>⟨υ.ke t,_,_,λ_ _ _ e=>l' _ _ _<|l _ _ _ e,.bool _,j⟩)
theorem aI2(rm:d6 k Ar){o}(hm:xr (iG u) d=ae)(ea:a3 x Ar (aQ a x.env) f)(eb:a3 x Ar (aQ b x.env) g)(ed:a3 x Ar (aQ d x.env) e):
  dS x Ar (isTrue (.Compare a [iG y,iG u] [b,d] pos) x.env o) (λh T F=>f h λs h=>g h λi h=>cB h (λp=>(p->e h λz h=>cB h (λp=>(p->T h)/\(¬p->F h)) u i z)/\(¬p->F h)) y s i):=λσ K h=>by
 rw[WP]
 refine yS rm ea eb h λτ v w p l r j=>⟨λq=>aF<|e7 ?_,λq=>bV ⟨τ,_,_,l,rfl,j.2 q⟩⟩
 rw[aV2 hm]
 exact ed.map (j.1 q) λυ A D l' r' k=>aF (jk<|aF<|CC<|vS rm k (r.aG l'.fl) r' λp j c=>c _ λt=>e7<|pD ⟨υ.ke t,_,_,λ_ _ _ e=>l' _ _ _<|l _ _ _ e,rfl,F5 (K:=λb=>K b υ.A) j⟩)
theorem IA(ev:a3 x Ar (aQ a x.env) f):a3 x Ar (aQ (.UnaryOp .USub a pos) x.env) (λh Q=>f h λv h=>sC h Q v):=λσ K h=>
 aV3 (ev.map h λτ v w l r k=>sC.casesOn k (λz r=>r.of λt=>PySem.P.neg_int ⟨τ.ke _,_,_,l,.int _ _,z⟩) r)
theorem ax4(ev:a3 x Ar (aQ a x.env) f):a3 x Ar (aQ (.UnaryOp .Not a pos) x.env) (λh Q=>f h λv h=>sO h Q v):=λσ K h=>
 aV3 (ev.map h λτ v w l r k=>sO.casesOn k (λz r=>r.of<|not_of<|pD ⟨τ,_,_,l,.bool _,z⟩) r)
theorem UW{j}{f}(ev:dS x Ar (isTrue a x.env<|aQ a x.env) f):dS x Ar (isTrue (.UnaryOp .Not a pos) x.env j) (λh T F=>f h F T):=λσ K h=>
 wpAny_isTrue_Not (Ev.map ev h λτ v w l r k=>⟨τ,_,_,l,aA not r,k⟩)
theorem Dc{m}(ev:a3 x Ar m f):dS x Ar (do let v<-m;uZ a.pos;iQ [v] (xt v)) (λh T F=>f h λv h=>tv h T F v):=λσ K h=>
 aF (ev.map h λτ v w l r k=>aF<|jk<|e7<|tv.casesOn k (λ{b} y n r=>r.of<|pD ⟨τ,_,_,l,rfl,match b with|aa=>y rfl|ae=>n rfl⟩) r)
theorem af9{t}{ft}(c:dS x Ar (isTrue t x.env<|aQ t x.env) ft)(ea:a3 x Ar (aQ a x.env) f)(eb:a3 x Ar (aQ b x.env) g):
  a3 x Ar (aQ (.IfExp t a b pos) x.env) (λh Q=>ft h (λh=>f h Q) λh=>g h Q):=λσ K h=>
 wpAny_IfExp (Ev.map c (J:=λb h=>match b with|aa=>f h K|ae=>g h K) h λτ v w l r k=>match v,w,r,k with
  |aa,_,rfl,k=>up l (ea τ K k)
  |ae,_,rfl,k=>up l<|eb τ K k)
@[elab_as_elim] theorem kX.of{R}{A B}{P:au->Prop}{v}{w}(q:kX A B v)(r:ax R v w)(y:A->P (.bool aa))(n:B->P (.bool ae)):P w:=
 kX.casesOn q (λ{b} z z' r=>r.of (match b,z,z' with|aa,z,_=>y (z rfl)|ae,_,z=>n<|z rfl)) r
theorem Xm{m j}{r}(e:a3 x Ar m f)(er:a3 x Ar (A5 pos .And<|j::r) g):a3 x Ar (A5 pos .And<|m::j::r) (λh Q=>f h λv h=>kX (g h Q) (Q (.bool ae) h) v):=λσ K h=>by
 refine(?_)
 exact aF (e.map h λτ v w l r k=>aF<|jk<|aF<|e7<|k.of r (λk=>pD<|up l<|er τ K k) λk=>pD<|bV ⟨τ,_,_,l,.bool _,k⟩)
theorem S6{m j}{r}(e:a3 x Ar m f)(er:a3 x Ar (A5 pos .Or<|j::r) g):a3 x Ar (A5 pos .Or<|m::j::r) (λh Q=>f h λv h=>kX (Q (.bool aa) h) (g h Q) v):=λσ K h=>by
 refine(?_)
 exact aF (e.map h λτ v w l r k=>aF<|jk<|aF<|e7<|k.of r (λk=>pD<|bV ⟨τ,_,_,l,.bool _,k⟩) λk=>pD<|up l<|er τ K k)
theorem YF{j}(ev:dS x Ar (isTrue a x.env<|aQ a x.env) t):dS x Ar (xu j [a] x.env) t:=λσ K h=>match j with
 |.And=>aV4 (bx (ev σ K h) (λb s p=>match b,p with|ae,p=>p|aa,p=>wpAny_allTrue_And_nil p) λ_ _=>id)
 |.Or=>aV5 (bx (ev σ K h) (λb s p=>match b,p with|aa,p=>p|ae,p=>wpAny_allTrue_Or_nil p) λ_ _=>id)
theorem aA9{r}(ev:dS x Ar (isTrue a x.env<|aQ a x.env) t)(er:dS x Ar (xu .And r x.env) u):dS x Ar (xu .And (a::r) x.env) (λh T F=>t h (λh=>u h T F) F):=λσ K h=>
 aV4 (Ev.map ev (J:=λb h=>match b with|aa=>u h (K aa) (K ae)|ae=>K ae h) h λτ v w l r k=>match v,w,r,k with
  |aa,_,rfl,k=>up l (er τ K k)
  |ae,_,rfl,k=>⟨τ,_,_,l,rfl,k⟩)
theorem aj1{r}(ev:dS x Ar (isTrue a x.env<|aQ a x.env) t)(er:dS x Ar (xu .Or r x.env) u):dS x Ar (xu .Or (a::r) x.env) (λh T F=>t h T λh=>u h T F):=λσ K h=>
 aV5 (Ev.map ev (J:=λb h=>match b with|aa=>K aa h|ae=>u h (K aa)<|K ae) h λτ v w l r k=>match v,w,r,k with
  |aa,_,rfl,k=>⟨τ,_,_,l,rfl,k⟩
  |ae,_,rfl,k=>up l<|er τ K k)
end
section
variable{σ:St x}{K:V->H->Prop}
theorem bW.Ej{α β}{r}{G:Prop}{l}{m:List β}(q:bW r l m): ∀(i:Nat) (a:α),c6.ah l i=U a->(∀b,m[i]? =U b->r a b->G)->G:=
 q.rec (λ_ _ h=>bQ h) λp _ ih i a h k=>match i,h,k with
  |0,h,k=>k _ rfl (bM h▸p)
  |_+1,h,k=>ih _ a h k
theorem bW.ah{α β}{r}{G:Prop}{l}{m:List β}{i}{a:α}(q:bW r l m)(h:c6.ah l i=U a)(k: ∀b,m[i]? =U b->r a b->G):G:=q.Ej i a h k
theorem lK{α}: ∀(l:List α) (i:Nat),c6.ah l i=l[i]?
 |[],_=>rfl
 |_::_,0=>rfl
 |_::r,i+1=>lK r i
theorem KA{α:Type}{l:List α}{i}{a}(h:l[i]? =U a):i <l.length:=(List.getElem?_eq_some_iff.mp h).1
theorem Le{i}{n}(h:0<=i)(q:i.toNat <n):seqIndex? i n=U i.toNat:=by
 have h0:=fF.mpr h
 unfold seqIndex?
 rw[aE h0]
 exact aM (fT.mpr ⟨decide_eq_true h,decide_eq_true<|(aV6 h).mp q⟩)
theorem FF{i:Int}(q:i<=4611686018427387904):i <2^63:=g7 q dd
theorem Mk{i}(h:0<=i): -2^63<=i:=az dd h
theorem Ii{a n:Nat}{l}{h}{i}{t}{v}(e:σ.s.heap.get? a=U (cy h n))(r:aV σ.R l h)(h0:0<=i)(h1:i<=4611686018427387904)(hv:ah l i.toNat=U v)(k:K v σ.A):aw (M x) Ar (mq (.ref a)<|.int i t) (PV ax σ K) N0 σ.s:=
 r.ah hv λw e' p=>wpAny_getItem_list ⟨_,e,rfl,_,rfl⟩ h0 (FF h1) ((u1 ..).trans e') (.dc p k)
theorem bW.Vv{α β}{r}{a}{G:Prop}: ∀(l:List α) (m:List β),bW r (l++[a]) m->(∀us w,m=us++[w]->bW r l us->r a w->G)->G:=by
 intro l
 refine l.rec (λm q k=> ?_) λc l ih m q k=> ?_
 ·exact q.of (P:=λf=>m=f->G) (λb f p q e=>k [] b (q.none id e) .nil p) rfl
 ·exact q.of (P:=λf=>m=f->G) (λb f p q e=>ih f q λus w e' g h=>k (b::us) w (e.trans<|aA (b:: ·) e') (.cons p g) h) rfl
theorem bW.mL{α β}{r}{a}{G:Prop}{l:List α}{m:List β}(q:bW r (l++[a]) m)(k: ∀us w,m=us++[w]->bW r l us->r a w->G):G:=bW.Vv l m q k
theorem MT{a n:Nat}{l}{h}{t}{v}(e:σ.s.heap.get? a=U (cy h n))(r:aV σ.R (l++[v]) h)(k:K v σ.A):aw (M x) Ar (mq (.ref a)<|.int (-1) t) (PV ax σ K) N0 σ.s:=
 r.mL λus w e' _ p=>wpAny_getItem_list_neg ⟨_,e,rfl,_,rfl⟩ dd (by rw[e',j4,aC];exact Gz<|GG<|du _) dd
  (by
   rw[e',j4,aC,u1,qU,iu]
   show(us++[w])[((us.length:Int)+1+ -1).toNat]? =_
   rw[Int.add_neg_cancel_right,aV7,aV8<|dO _,aV9];rfl) (.dc p k)
theorem QD{a n:Nat}{ds}{h}{i}{t}{v}(e:σ.s.heap.get? a=U (gi (fY ds h) n))(nd:(dI ds).Nodup)(r:dE σ.R ds h)(hv:bu ds i=U v)(k:K v σ.A):aw (M x) Ar (mq (.ref a)<|.int i t) (PV ax σ K) N0 σ.s:=
 have g:=r.get i
 (show sj σ.R (U v) _ from hv▸g).elim λw z=>wpAny_getItem_of (mP i t) (rq e nd r).mapOf z.1 (.tk z.2 k)
theorem Yn{b}{i}{t a}{v}(hv:ah (vi<|jL b) i.toNat=U v)(h0:0<=i)(h1:i<=4611686018427387904)(k:K v σ.A):aw (M x) Ar (mq (.bytes b t)<|.int i a) (PV ax σ K) N0 σ.s:=by
 have hb: ∃c,b.toList[i.toNat]? =U c/\v= .int c.toNat:=by
  rw[lK,GV,GV] at hv
  cases e:b.toList[i.toNat]? with
  |none=>rw[e] at hv;cases hv
  |some c=>rw[e] at hv;exact⟨c,rfl,(bM hv).symm⟩
 obtain⟨c,e,rfl⟩:=hb
 refine getItem_gives (qZ σ.s b t) dd RD aW0 (aW1 _ _) (gives_bytes_getitem _ i t a c (fT.mpr ⟨decide_eq_true<|Mk h0,decide_eq_true<|FF h1⟩) ?_) (.tk (.int _ _) k)
 rw[Le h0<|Array.length_toList▸KA e];exact(sW ..).symm.trans e
def qL(s:bA)(w:au):Prop:= ∃T id,s.TypeIs w T/\typeLookup (.type T) "__getitem__"=cF (U<|.builtin id)
theorem ul{a n:Nat}{h}(e:s.heap.get? a=U (cy h n)):qL s<|.ref a:=⟨"list",_,⟨_,e,rfl⟩,PySem.F.slot_list_getitem.lookup⟩
theorem Ny{a n:Nat}{h}(e:s.heap.get? a=U (gU h n)):qL s<|.ref a:=⟨"tuple",_,⟨_,e,rfl⟩,PySem.F.slot_tuple_getitem.lookup⟩
theorem KM{a n:Nat}{h}(e:s.heap.get? a=U (gi h n)):qL s<|.ref a:=⟨"dict",_,⟨_,e,rfl⟩,PySem.F.slot_dict_getitem.lookup⟩
theorem Oj{b}{t}:qL s<|.bytes b t:=⟨"bytes",_,rfl,RD.lookup⟩
theorem Pj{o j}{w u}(h:gj σ.A K o j)(ra:ax σ.R o w)(ri:ax σ.R j u):qL σ.s w/\aw (M x) Ar (mq w u) (PV ax σ K) N0 σ.s:=
 gj.casesOn h
  (λh0 h1 hv k ra ri=>ra.of λws a n e r=>ri.of λt=>⟨Ny<|σ.at e,r.ah hv λw e' p=>PySem.P.getItem_tuple (σ.at e) (Mk h0) (FF h1) (Le h0<|j4▸KA e') ((u1 ..).trans e')<|.dc p k⟩)
  (λh0 h1 hv k ra ri=>ra.of λws a n e r=>ri.of λt=>⟨ul<|σ.at e,Ii (σ.at e) r h0 h1 hv k⟩)
  (λ{l i v} h0 h1 hv k ra ri=>ra.of λb t e=>ri.of λf=>⟨Oj,Yn (e▸hv) h0 h1 k⟩)
  (λg h0 h1 hv k ra ri=>ra.of<|ri.of λt=>σ.gV g λws n e r=>⟨ul e,Ii e r h0 h1 hv k⟩)
  (λk ra ri=>ra.of λws a n e r=>ri.of λt=>⟨ul<|σ.at e,MT (σ.at e) r k⟩)
  (λg k ra ri=>ra.of<|ri.of λt=>σ.gV g λws n e r=>⟨ul e,MT e r k⟩)
  (λhv k ra ri=>ra.of λc a n e hm nd r=>ri.of λt=>⟨KM<|σ.at e,QD (σ.at e) nd r hv k⟩)
  (λg hv k ra ri=>ra.of<|ri.of λt=>σ.i5 g λc n e nd r=>⟨KM e,QD e nd r hv k⟩) ra ri
end
section
variable{σ:St x}{K:V->H->Prop}
noncomputable def DP(e:Expr):Bool:= !bE e.ctorIdx 26
theorem aO9{a}{o i}(h:DP a=aa):RE a ae o i=xq [o,i] (mq o i):=by
 cases a <;>first|rfl|cases h
theorem qL.tail{v a}{w u}{vs}{Q:au->bA->Prop}(h:RE a ae w u=xq vs (mq w u))(z:qL s w)(q:aw (M x) Ar (mq w u) (λr s=>aw (M x) Ar (letTemporaryGo v w r) (λ_ s=>Q r s) N0 s) N0 s):aw (M x) Ar (RF v a w u) Q N0 s:=by
 obtain⟨T,i,hT,hl⟩:=z
 unfold RF
 refine aF ?_
 rw[getitemInPython_of_ne hT.not_modules]
 refine aF (aW2 hT hl<|wpAny_pure<|wpAny_bind ?_)
 rw[h]
 exact CC (bx q (λ_ _ q=>aF<|wpAny_mono q (λ_ _ q=>bV q) λ_ _=>id) λ_ _=>id)
theorem Zi(hs:DP b=aa)(ev:a3 x Ar (aQ a x.env) f)(ei:a3 x Ar (aQ b x.env) g):a3 x Ar (aQ (.Subscript a b pos) x.env) (λh Q=>f h λv h=>g h λi h=>gj h Q v i):=λσ K h=>
 RG (ev.bind h λτ v w l r k=>ei.map k λυ c j l' r' k=>
  have z:=Pj k (r.aG l'.fl) r'
  z.1.tail (aO9 hs)<|bx (up (λ_ _ _ e=>l' _ _ _<|l _ _ _ e) z.2) (λ_ _ q=>RH q) λ_ _=>id)
theorem as7{n}(hn:n <gA.length)(hb:xv a (cM n) x.env (aQ a x.env)=aQ a x.env)(ev:a3 x Ar (aQ a x.env) f):a3 x Ar (aQ (.Attribute a (cM n) pos) x.env) (λh Q=>f h λv h=>j6 I h Q v n):=λσ K h=>by
 rw[arm_eval_Attribute,hb]
 exact aF (ev.map h λτ v w l r k=>aF<|jk<|aF<|e7<|bx (up l<|Hk hn k r) (λr s q=>aF<|RH<|bV q) λ_ _=>id)
theorem qH{i}(n:Nat)(h:0<=i):A6 n i=min i.toNat n:=by
 have:=clipAt_nat n i.toNat;rwa[Rf h] at this
theorem bW.take{α β}{r}{l:List α}{m:List β}(q:bW r l m): ∀n,bW r (l.take n)<|m.take n:=q.rec (λn=>by rw[RI,RI];exact .nil) λp _ ih n=>match n with
 |0=> .nil
 |n+1=> .cons p (ih n)
theorem bW.drop{α β}{r}{l:List α}{m:List β}(q:bW r l m): ∀n,bW r (l.drop n)<|m.drop n:=q.rec (λn=>by rw[RJ,RJ];exact .nil) λp q ih n=>match n with
 |0=> .cons p q
 |n+1=>ih n
theorem NC{α}(l:List α)(a b:Nat):cu l a b=(l.drop a).take (b -a):=List.drop_take
theorem Zj(b n:Nat)(hb:b<=n):RK Y (U (b:Int)) 1 (n:Int)=(0,(b:Int)):=by
 unfold RK
 have h2:=fF.mpr (du b)
 simp only[h2,if_false,show¬((1) <0) by decide]
 exact aA (Prod.mk 0) (Int.min_eq_left<|bS.mpr hb)
theorem aO5(b:Nat):GW 0 (b:Int) 1=b:=by
 unfold GW
 simp only[show(1) >0 by decide,if_true,GE]
 split <;>lia
theorem Xk{E}{j}{b n:Nat}{u}{Q}(hs:s.heap.IsSliceOf j .none (.int b u) .none)(hb:b<=n)(h:Q (0,1,b) s):
  aw (M x) Ar (aW3 (.ref j)<|cF (n:Int)) Q E s:=by
 obtain⟨os,c,e,a⟩:=hs
 unfold aW3 iR.Slice.sliceFields
 refine aF (aF<|wpAny_field c a rfl<|wpAny_bind<|wpAny_field c a rfl<|wpAny_bind<|wpAny_field c a rfl<|wpAny_pure<|wpAny_bind<|slicePart_none ?_)
 refine(?_:aw _ _ (if((1)==0)=aa then _ else _) _ _ s)
 rw[aE dd]
 refine aF (slicePart_none<|wpAny_bind<|slicePart_int<|wpAny_bind<|wpAny_pure ?_)
 refine(?_:aw _ _ (match RK Y (U<|b) 1 (n) with|(lo,hi)=>cF (lo,(1:Int),GW lo hi 1)) _ _ s)
 rw[Zj b n hb]
 refine(?_:aw _ _ (cF ((0:Int),(1:Int),GW 0 (b) 1)) _ _ s)
 rw[aO5 b]
 exact bV h
theorem UC(ws:List au)(b:Nat):((u2 b).filterMap λ(k:Nat)=>ws.toArray[((0:Int)+(k:Int)*1).toNat]?).toArray=(ws.take b).toArray:=by
 have e:(λ(k:Nat)=>ws.toArray[((0)+(k:Int)*1).toNat]?)=λk=>ws.toArray[0+k]? :=funext λk=>by rw[Int.mul_one,qR,aV7,gK]
 have:=pick_run ws.toArray 0 b
 rw[List.filterMap_map] at this
 rw[e]
 exact aA List.toArray this
theorem ae2{t j n:Nat}{a}{b:Nat}{u}{Q}(e:s.heap.get? t=U (gU a n))(hs:s.heap.IsSliceOf j .none (.int b u) .none)(hb:b <a.length)
  (h:Q (.ref s.heap.objs.size) {s with heap:=s.heap.push<|gU (a.take b) 0}) (hsz:a.length<=jD):aw (M x) Ar (mq (.ref t)<|.ref j) Q N0 s:=by
 have hdrop:=(j4▸ak (List.length_take_le' ..) hsz:(a.take b).toArray.size<=jD)
 obtain⟨os,f,c,g⟩:=id hs
 have ht:IsTup s.heap t a.toArray:=⟨_,e,rfl,_,rfl⟩
 unfold mq
 try with_reducible refine e7 ?_
 first|refine aF (bV ?_)|skip
 refine aF (aW4 ht.typeIs dd ?_)
 refine aF (RL ht.typeIs aW5
  (GX aW5 ht.typeIs entry_tuple_getitem ?_<|args_tuple_getitem _ _))
 refine(?_:aw _ _ (iR.Tuple.tupleItemsOf (.ref t) >>=_) _ _ s)
 refine aF (tupleItemsOf_ ht<|wpAny_bind<|wpAny_typeOf ⟨os,f,c⟩ ?_)
 rw[aM dd]
 refine aF (Xk hs (j4▸uU hb) ?_)
 refine(?_:aw _ _ (if((0)==0&&(1)==1&&b==a.toArray.size)=aa then _ else _) _ _ s)
 rw[aE (by rw[show(b==a.toArray.size)=ae from beq_eq_false_iff_ne.mpr<|List.size_toArray▸jE hb];decide),UC]
 first
  |exact aF (u3 (bV ⟨_,rfl,bV h⟩) hdrop)
  |exact aF (u3 (aF<|wpAny_pure<|wpAny_pure ⟨_,rfl,bV h⟩) hdrop)
  |exact aF (aF<|wpAny_newObj_type (bV<|wpAny_pure ⟨_,rfl,bV h⟩) hdrop)
  |exact aF (aF<|wpAny_newObj_type (bV ⟨_,rfl,bV h⟩) hdrop)
theorem bW.iK{α β}{r}{l:List α}{m:List β}(q:bW r l m):bW r l.reverse m.reverse:=q.rec .nil λp _ ih=>by
 rw[pv,pv];exact ih.append (.cons p .nil)
def mX(σ:St x)(Ar:cV)(K:V->H->Prop)(w:au)(a:ai):Prop:=qL σ.s w/\aw (M x) Ar (mq w<|.ref a) (PV ax σ K) N0 σ.s
theorem qa{i}{w}(r:ax R (.int i) w):xw w<|U i:=r.of λt=> .int i t
theorem zH{w}(r:ax R .none w):xw w Y:=r.of .none
section
variable{lo hi:Option Int}
theorem yi{a n:Nat}{l}{h}(e:σ.s.heap.get? a=U (cy h n))(r:aV σ.R l h)(hs:σ.s.heap.IsSliceOf p t o .none)(hl:a_ l.length)(b:xw t lo)(c:xw o hi)
  (e1:lo.elim 0 (A6 l.length)=i) (e2:hi.elim l.length (A6 l.length)=j) (k:K (.fl<|cu l i j) σ.A):mX σ Ar K (.ref a) p:=
 ⟨ul e,aW6 ⟨_,e,rfl,_,rfl⟩ hs b c .none (λz=>bQ z) (by
  rw[slicePick_plain,show h.toArray.size=l.length from j4.trans r.length,e1,e2]
  rw[NC] at k
  exact St.list (fr:=aa) (Rm.le_refl _) ((r.drop _).take _) k)<|j4▸r.line hl⟩
theorem QE{c}{t}{l}(e:jL c=l)(hs:σ.s.heap.IsSliceOf o p h .none)(hl:a_ l.length)(a:xw p lo)(b:xw h hi)
  (e1:lo.elim 0 (A6 l.length)=i) (e2:hi.elim l.length (A6 l.length)=j) (k:K (.a6<|cu l i j) σ.A):mX σ Ar K (.bytes c t) o:=by
 subst e
 rw[show(jL c).length=c.size from(bN ..).trans<|sX ..] at hl e1 e2
 refine⟨Oj,getItem_meets (qZ _ _ _) dd RD aW0 (aW1 _ _) (KBc.meets_slice2 c t _ a b) ⟨hs,ak (KBc.size_picked_le c _ _)<|jo hl,λg f=> .tk (.a6 _ _) ?_⟩⟩
 rw[KBc.picked_eq,e1,e2]
 rw[NC,<-List.map_drop,<-List.map_take] at k
 exact k
theorem aN5{a n:Nat}{l}{h}{b}{t}(e:σ.s.heap.get? a=U (gU h n))(r:aV σ.R l h)(hs:σ.s.heap.IsSliceOf j .none (.int b t) .none)(hl:a_ l.length)(h0:0<=b)(h1:b <l.length)(k:K (.aj<|l.take b.toNat) σ.A):mX σ Ar K (.ref a) j:=by
 obtain⟨b,rfl⟩:=GM h0
 exact⟨Ny e,ae2 e hs (r.length▸mm.mp h1) ⟨σ.keep (gU (h.take b) 0) rfl,_,_,σ.dQ _,.aj (σ.uG ..)<|aV.aG (r.take b) (σ.dQ _).fl,k⟩<|r.line hl⟩
theorem aP7{v lo hi}{w}(h:ju σ.A K v lo hi)(hs:σ.s.heap.IsSliceOf l o j .none)(rl:ax σ.R lo o)(ru:ax σ.R hi j)(r:ax σ.R v w):mX σ Ar K w l:=
 ju.casesOn h
  (λhl h0 h1 k rl ru r=>r.of λc t e=>QE e hs hl (qa rl) (qa ru) (qH _ h0) (qH _ h1) k)
  (λhl h0 k rl ru r=>r.of λws a n e r=>yi (σ.at e) r hs hl (qa rl) (zH ru) (qH _ h0) rfl k)
  (λhl h0 k rl ru r=>r.of λws a n e r=>yi (σ.at e) r hs hl (zH rl) (qa ru) rfl (qH _ h0) k)
  (λhl h0 h1 k rl ru r=>r.of λws a n e r=>yi (σ.at e) r hs hl (qa rl) (qa ru) (qH _ h0) (qH _ h1) k)
  (λg hl h0 k rl ru r=>r.of<|σ.gV g λws n e r=>yi e r hs hl (qa rl) (zH ru) (qH _ h0) rfl k)
  (λhl h0 k rl ru r=>r.of λc t e=>QE e hs hl (qa rl) (zH ru) (qH _ h0) rfl k)
  (λhl h0 h1 k rl ru r=>r.of λws a n e r=>rl.of (ru.of λt hs=>aN5 (σ.at e) r hs hl h0 h1 k) hs) rl ru r
theorem aB4{v}{w}{t}(h:oH σ.A K v)(hs:σ.s.heap.IsSliceOf j .none .none<|.int (-1) t)(r:ax σ.R v w):mX σ Ar K w j:=
 have go: ∀{a n:Nat} {l:List V} {ws:List au},σ.s.heap.get? a=U (cy ws n)->aV σ.R l ws->a_ l.length->K (.fl l.reverse) σ.A->mX σ Ar K (.ref a) j:=λe r hl k=>
  ⟨ul e,aW6 ⟨_,e,rfl,_,rfl⟩ hs .none .none (.int (-1) t) (λz=>nomatch z) (by rw[krv_pick];exact St.list (fr:=aa) (Rm.le_refl _) r.iK k)<|j4▸r.line hl⟩
 oH.casesOn h (λhl k r=>r.of λws a n e r=>go (σ.at e) r hl k) (λg hl k r=>r.of<|σ.gV g λws n e r=>go e r hl k) r
end
def St.oS(σ:St x)(o:Obj):St x:=σ.to σ.R σ.A (σ.s.heap.push o) σ.s.toks (σ.bg.kP λ_ _=>eA _) (Rm.le_refl _)
theorem as1:a3 x Ar (GY Y x.env) (λh Q=>Q .none h):=λ_ _ h=>bV (.dc .none h)
theorem mX.tail{τ:St x}{w}{p}{t u j}{o}{vs}(h:RE (.Slice t u j p) ae w (.ref τ.s.heap.objs.size)=xq vs (mq w<|.ref τ.s.heap.objs.size))(l:σ.le τ)(z:mX (τ.oS o) Ar K w τ.s.heap.objs.size):
  aw (M x) Ar (RF a (.Slice t u j p) w<|.ref τ.s.heap.objs.size) (PV ax σ K) N0 (τ.oS o).s:=
 z.1.tail h (bx (up l z.2) (λ_ _ q=>RH q) λ_ _=>id)
theorem ZC{o j}{p}(ev:a3 x Ar (aQ a x.env) f)(el:a3 x Ar (GY o x.env) g)(b:a3 x Ar (GY j x.env) k):
  a3 x Ar (aQ (.Subscript a (.Slice o j Y p) pos) x.env) (λh Q=>f h λv h=>g h λl h=>k h λu h=>ju h Q v l u):=λσ K h=>by
 refine RG (ev.bind h λτ v w l1 r1 k=>wpAny_Slice<|el.bind k λυ c w2 l2 r2 k=>b.map k λφ i w3 l3 r3 k=> ?_)
 rw[aW7]
 exact bV (mX.tail rfl (λ_ _ _ e=>l3 _ _ _<|l2 _ _ _<|l1 _ _ _ e)<|aP7 k (aW8 ..) (r2.aG l3.fl) r3<|r1.aG λ_ _ e=>l3 _ _ _<|l2 _ _ _ e)
theorem Tm{j}{p}(ev:a3 x Ar (aQ a x.env) f)(es:a3 x Ar (aQ j x.env) λh Q=>Q (.int (-1)) h):
  a3 x Ar (aQ (.Subscript a (.Slice Y Y (U j) p) pos) x.env) (λh Q=>f h λv h=>oH h Q v):=λσ K h=>by
 refine RG (ev.bind h λτ v w l1 r1 k=>wpAny_Slice ?_)
 rw[aW7,evalPart_some]
 refine bV (bV<|es.map (J:=λi h=>i= .int (-1)/\oH h K v) ⟨rfl,k⟩ λυ b w2 l2 r2 k=> ?_)
 obtain⟨rfl,k⟩:=k
 exact r2.of λt=>mX.tail rfl (λ_ _ _ e=>l2 _ _ _<|l1 _ _ _ e) (aB4 k (aW8 ..)<|r1.aG l2.fl)
end
section
variable{σ:St x}{Ar:cV}{K:V->H->Prop}{R:Rm}{s:bA}
abbrev Kv(R:Rm):List (Int×V)->List (Int×au)->Prop:=bW λd p=>p.1=d.1/\ax R d.2 p.2
theorem Kv.of(r:dE R ds h):Kv R ds<|kv ds h:=r.rec .nil λ{a b _ _} p _ q=> .cons ⟨rfl,p⟩ q
theorem Zl{k:Int}{v:au}(h:A4 k v=aa): ∃t,v= .int k t:=by
 cases v
 case int=>exact⟨_,aA (s7 · _)<|eq_of_beq h⟩
 all_goals exact fy h
theorem bW.ZJ{α β:Type}{r:α->β->Prop}{b m}{l:List α}(h:bW r l<|b::m): ∃a as,l=a::as/\r a b/\bW r as m:=by
 cases h
 exact⟨_,_,rfl,a_1,a_2⟩
theorem af5{e:jg}{a b c}(h:e.hash=a)(k:e.key=b)(v:e.val=c):e=⟨a,b,c⟩:=by
 cases e
 exact h▸k▸v▸rfl
theorem Vq(p:aU9 (ik x) j a): ∀ds,Kv R ds a->(∀e∈j,∃k,(ik x).is k e.key=aa/\e.hash=(ik x).hash k)-> ∃b,j=fY ds b/\dE R ds b:=
 p.rec (λds r _=>by cases r;exact⟨[],rfl,.nil⟩) λ{e kv j a} hk hv _ ih ds r ha=>r.ZJ.elim λd w=>w.elim λds w=>(ih ds w.2.2 λe he=>ha e<|.tail _ he).elim λb q=>(Zl hk).elim λt e2=>(ha _<|.head _).elim λc h1=>
  ⟨(t,kv.2)::b,by
   have h:=h1.1
   rw[e2] at h
   rw[w.1,q.1,af5 h1.2 e2 hv,<-c9 h,w.2.1.1]
   rfl,w.1▸ .cons w.2.1.2 q.2⟩
theorem Dx{h:ct}(d:h.DictOf (ik x) a j)(r:Kv R ds j): ∃b n,h.get? a=U (gi (fY ds b) n)/\dE R ds b:=by
 obtain⟨⟨oc,od,odt,os⟩,es,ep,h1,⟨e1,e2,e3⟩,h2,h3,h4,h5⟩:=d
 cases e1;cases e2;cases e3;cases h2
 exact(Vq h4 _ r λe he=>h3 e<|Array.mem_toList_iff.mp he).elim λb z=>⟨b,ep,by rw[h1,<-z.1],z.2⟩
theorem Kv.dI(r:Kv R ds h):h.map (·.1)=c6.dI ds:=r.rec rfl λ{a b _ _} p _ q=>by show b.1::_=a.1::_;rw[p.1,q];rfl
theorem ah0 p r(k:Int) w(nd:p.1∉r.map (·.1)):GZ (p::r) k w=if p.1=k then(p.1,w)::r else p::GZ r k w:=by
 unfold GZ
 rw[List.any_cons,kK]
 refine if e:p.1=k then ?_ else ?_
 ·rw[aM e,aM e,decide_eq_true e,Bool.true_or,aM rfl]
  refine aA _ ((aW9 λq a=> ?_).trans<|List.map_id _)
  exact aE λz:q.1=k=>nd (e.trans z.symm▸List.mem_map_of_mem a)
 ·rw[aE e,aE e,decide_eq_false e,Bool.false_or]
  split <;>rfl
theorem Kv.bw(r:Kv R ds h)(rv:ax R v w):(c6.dI ds).Nodup->Kv R (eX ds k v) (GZ h k w):=
 r.rec (λ_=> .cons ⟨rfl,rv⟩ .nil) λ{a b l m} p q ih nd=>by
  have nd:=lF.mp nd
  rw[ah0 b m k w<|by rw[p.1,Kv.dI q];exact nd.1]
  show Kv R (if a.1=k then(a.1,v)::l else a::eX l k v) _
  refine if e:a.1=k then ?_ else ?_
  ·rw[aM e,aM<|p.1.trans e];exact .cons ⟨p.1,rv⟩ q
  ·rw[aE e,aE λz=>e<|p.1.symm.trans z];exact .cons p (ih nd.2)
theorem Kx: ∀(ds:List<|Int×V) (k:Int) (v:V),dI (eX ds k v)=if k∈dI ds then dI ds else dI ds++[k]
 |[],_,_=>rfl
 |d::ds,k,v=>by
  show dI (if d.1=k then(d.1,v)::ds else d::eX ds k v)=_
  refine if e:d.1=k then ?_ else ?_
  ·rw[aM e,aM<|e▸ .head _];rfl
  ·rw[aE e]
   show d.1::dI (eX ds k v)=_
   rw[Kx ds k v]
   refine if m:k∈dI ds then ?_ else ?_
   ·rw[aM m,aM<|.tail _ m];rfl
   ·rw[aE m];exact(aE λq=>(bB.mp q).elim (λz=>e z.symm) m).symm
theorem Ay(nd:(dI ds).Nodup) k v:(dI<|eX ds k v).Nodup:=by
 rw[Kx]
 refine if m:k∈dI ds then ?_ else ?_
 ·rw[aM m];exact nd
 ·rw[aE m];exact AV.mpr ⟨nd,lF.mpr ⟨λh=>(dz h),.nil⟩,λa ha b hb e=>m<|b9.mp hb▸e▸ha⟩
theorem dE.len(r:dE R ds a):(kv ds a).length=ds.length:=r.rec rfl λ_ _=>aA (· +1)
theorem aO8{K}(h:σ.A a=U (.dict ds))(hl:a_ ds.length)(rv:ax σ.R v w)(k:K<|σ.A.cq a<|.dict<|eX ds i v):aw (M x) Ar (xx (.ref a) (.int i t) w) (λ_=>PN σ K) N0 σ.s:=
 σ.i5 h λj n e nd rd=>wpAny_setItem_pairs (mP i t) (rq e nd rd) (λh' f b=>(Dx f<|(Kv.of rd).bw rv nd).elim λc z=>z.elim λg z=>⟨σ.cq _ h b<|.dict z.1 (Ay nd i v) z.2,Rm.le_refl _,k⟩) (rd.len▸jo hl)
theorem Et(σ:St x):(σ.s.heap.objs.size==kL)=ae:=beq_eq_false_iff_ne.mpr λe=>RM _ (e▸g9 (σ.i7 x.T.nm))
theorem Un fr:a3 x Ar (aQ (.Dict [] [] pos) x.env) (λh Q=>v0 fr [] h Q):=λσ K h=>wpAny_Dict_empty (match fr,h with
 |aa,h=>⟨σ.keep (gi (fY [] []) 0) rfl,V.fd [],_,σ.dQ _,.fd (σ.uG ..) (Et σ) .nil .nil,h⟩
 |ae,h=>⟨σ.abs (gi [] 0) (.dict [])<|.dict (g_ _ rfl) .nil .nil,.ref _,_,σ.dQ _,.ref _,h _ σ.zV⟩)
def St.seal(σ:St x){h:ct}(t:Nat)(e:h.get? σ.s.heap.objs.size=U o)(b: ∀a o,σ.s.heap.get? a=U o->h.get? a=U o):St x:=
 σ.to (σ.R.bw σ.s.heap.objs.size<|.kp .fr o) σ.A h t (σ.bg.mW _ e (λb' o _=>b b' o) σ.zV (λ_ z=>bH <|σ.new.symm.trans z) λ_ z=>bH <|σ.new.symm.trans z) (σ.dQ _)
theorem S_(h1:ah x.ns a=U t)(h2:ah x.ns b=U p)(d1:(t==("__debug__":Str))=ae)(c1:(t==("__classdict__":Str))=ae)(A:(p==("__debug__":Str))=ae)(D:(p==("__classdict__":Str))=ae):
  a3 x Ar (aQ (.Dict [U<|.Constant (.int j) k p1,U<|.Constant (.int l) W p2] [.Name t X,.Name p p4] pos) x.env) (λh Q=>gh x.ρ a λc=>gh x.ρ b λf=>v0 aa (eX (eX [] j c) l f) h Q):=λσ K h=>
 q7 h λc ha h=>q7 h λf hb h=>
 wpAny_Dict_walk rfl rfl (λz=>zk z) (by show 2<=15;decide) (aX0 (Rk (((σ.oS<|gi [] 0).ke<|σ.s.toks+1).Bw h1 d1 c1 ha λi ra y=>y _ (aX0 (Rk
  (((σ.oS<|gi [] 0).ke<|σ.s.toks+1+1).Bw h2 A D hb λg rb w=>w _ (pairTrees_nil_walk ⟨[(j,i),(l,g)],⟨mP _ σ.s.toks,rfl,mP _<|σ.s.toks+1,rfl,tI⟩,ct.DictOf.new _,λh' u bb=>by
   have kv:Kv σ.R (eX (eX [] j c) l f)<|merged [] [(j,i),(l,g)]:=((Kv.bw .nil ra .nil).bw rb<|Ay (ds:=[]) .nil j c)
   obtain⟨J,n,e,rd⟩:=Dx u kv
   exact⟨σ.seal _ e λb' o q=>(bb.2 b'<|Nat.ne_of_lt<|Heap.lt_size q).trans<|Heap.get?_push_of_some _ q,_,_,σ.dQ _,.fd (Rm.cN ..) (Et σ) (Ay (Ay (ds:=[]) .nil j c) l f)<|rd.aG (σ.dQ _).fl,h⟩⟩)))))))
end
section
variable{σ:St x}{K:V->H->Prop}{R:Rm}
theorem Rm.ti{a}{r}(h: ∀b o,¬R.kp b a o):R.le<|R.bw a r:=λb c o z=>(Rm.cQ λy=>h c o<|(aA (λb=>R.kp c b o) y).mp z).trans z
theorem St.sx(σ:St x){a}{p}(e:σ.A a=U p): ∀b o,¬σ.R.kp b a o:=λ_ _ z=>bH <|(σ.bg.ob _ _ e).1.symm.trans z
def St.gz(σ:St x){a}{p}{o}(q:σ.A a=U p)(e:σ.s.heap.get? a=U o):St x:=
 σ.to (σ.R.bw a<|.kp .fr o) (σ.A.k_ a) σ.s.heap σ.s.toks ((σ.bg.oJ<|H.E3 _ a).mW a e (λ_ _ _=>id) (H.C6 ..) (λo=>σ.sx q .fr o) λ_ z=>bH <|(σ.bg.ob _ _ q).1.symm.trans z) (Rm.ti<|σ.sx q)
theorem St.Kj(σ:St x){a d}{p}(q:σ.A a=U p)(e:σ.R d=U (.dict a)):d≠a:=λz=>bH <|(σ.bg.ob _ _ q).1.symm.trans ((aA σ.R z).symm.trans e)
theorem St.B7(σ:St x){a d}{p}{o od}(q:σ.A a=U p)(e:σ.R d=U (.dict a)):σ.R.le<|(σ.R.bw a<|.kp .fr o).bw d<|.kp .fr od:=λb c o z=>
 (Rm.cQ λy=>bH <|e.symm.trans<|(aA (λb=>σ.R.kp c b o) y).mp z).trans (Rm.ti (σ.sx q) b c o z)
def St.aA4(σ:St x){a d}{p}{o od}(q:σ.A a=U p)(e:σ.s.heap.get? a=U o)(dd:σ.R d=U (.dict a))(ed:σ.s.heap.get? d=U od):St x:=
 have n:=σ.Kj q dd
 have dd':σ.R.bw a (.kp .fr o) d=U (.dict a):=(Rm.cQ n).trans dd
 σ.to ((σ.R.bw a<|.kp .fr o).bw d<|.kp .fr od) (σ.A.k_ a) σ.s.heap σ.s.toks ((σ.gz q e).bg.mW d ed (λ_ _ _=>id) ((σ.gz q e).bg.j9 λz=>bH <|dd'.symm.trans z) (λ_ z=>bH <|dd'.symm.trans z) λb z=>by cases dd'.symm.trans z;exact H.C6 ..) (σ.B7 q dd)
theorem zb{a}{G:Prop}(h:nv σ.A K a)(k: ∀(τ:St x) v,τ.s=σ.s->σ.le τ->ax τ.R v (.ref a)->K v τ.A->G):G:=
 h.casesOn (λq z=>σ.gV q λws n e r=>k (σ.gz q e) _ rfl (Rm.ti<|σ.sx q) (.fl (Rm.cN ..)<|r.aG (Rm.ti<|σ.sx q).fl) z)
  (λq z=>σ.i5 q λb n e nd r=>k (σ.gz q e) _ rfl (Rm.ti<|σ.sx q) (.fd (Rm.cN ..) (σ.rf q) nd<|r.aG (Rm.ti<|σ.sx q).fl) z)
  λq z=>(σ.bg.ob _ _ q).2.of λd o e ed e' F=>k (σ.aA4 q e ed e') _ rfl (σ.B7 q ed) (.fz ((Rm.cQ (σ.Kj q ed).symm).trans<|Rm.cN ..) (Rm.cN ..)<|F.aG (σ.B7 q ed).fl) z
theorem BS: ∀{vs:List V} {j:List au} {σ:St x} {K:List V->H->Prop} {G:Prop},aV σ.R vs j->pQ vs σ.A K->(∀(τ:St x) us,τ.s=σ.s->σ.le τ->aV τ.R us j->K us τ.A->G)->G
 |[],_,σ,K,G,r,h,k=>r.none (P:=λj=>(∀(τ) us,τ.s=σ.s->σ.le τ->aV τ.R us j->K us τ.A->G)->G) (λk=>k σ [] rfl (Rm.le_refl _) .nil h) k
 |v::vs,_,σ,K,G,r,h,k=>r.of (P:=λj=>(∀(τ) us,τ.s=σ.s->σ.le τ->aV τ.R us j->K us τ.A->G)->G) (λw j p rs k=>by
  have plain:=λh=>BS rs h λτ us e l q z=>k τ (v::us) e l (.cons (p.aG l.fl) q) z
  cases v with
  |ref a=>exact p.of (P:=λw=>(∀(τ) us,τ.s=σ.s->σ.le τ->aV τ.R us (w::j)->K us τ.A->G)->G) (λk=>zb h λτ v e l q z=>BS (aV.aG rs l.fl) z λυ us e' l' b z=>k υ (v::us) (e'.trans e) (λ_ _ _ y=>l' _ _ _<|l _ _ _ y) (.cons (q.aG l'.fl) b) z) k
  |_=>exact plain h) k
theorem UN{v}{w}{G:Prop}(h:qk σ.A K v)(r:ax σ.R v w)(k: ∀(τ:St x) v,τ.s=σ.s->σ.le τ->ax τ.R v w->K v τ.A->G):G:=
 qk.casesOn h (λh r=>r.of (zb h) k)
  (λh r=>r.of (P:=λw=>(∀(τ) v,τ.s=σ.s->σ.le τ->ax τ.R v w->K v τ.A->G)->G) (λws a n e r k=>BS r h λτ us e' l q z=>k τ _ e' l (.aj (l _ _ _ e) q) z) k) r
theorem PV.at{α β}{a}{J}{τ:St x}{v:β}{w:α}{s}(e:τ.s=s)(l:σ.le τ)(r:a τ.R v w)(k:J v τ.A):PV a σ J w s:=e▸⟨τ,v,w,l,r,k⟩
theorem ak1{m}{f}(ev:a3 x Ar m f):a3 x Ar m (λh Q=>f h λv h=>qk h Q v):=λσ K h=>
 ev.map h λτ v w l r k=>UN k r λυ u e l' r' k=> .at e (λ_ _ _ y=>l' _ _ _<|l _ _ _ y) r' k
inductive mI (R:Rm):Fl->sQ->Prop
 |next:mI R .next .next
 |brk:mI R .brk .brk
 |cont:mI R .cont .cont
 |ret {v:V} {w:au}:ax R v w->mI R (.ret v) (.ret w)
inductive PS {x:Cx} (σ:St x) (Q:Fl->L->H->Prop) (fl:sQ):bA->Prop
 |mk (ρ:L) (τ:St<|x.at ρ) (v:Fl):σ.lo τ->mI τ.R v fl->Q v ρ τ.A->PS σ Q fl τ.s
def c_(x:Cx)(Ar:cV)(m:Sem sQ)(f:L->H->(Fl->L->H->Prop)->Prop):Prop:=
 ∀ρ (σ:St<|x.at ρ) (Q),f ρ σ.A Q->aw (M x) Ar m (PS σ Q) N0 σ.s
end
theorem E4{M}{E}{Q} [Decidable c] {a b:Sem α}(h: ¬c)(k:aw M A b Q E s):aw M A (if c then a else b) Q E s:=(aE h).symm▸k
noncomputable def jR:List (Str×au)->List (Str×au)->List (Str×au)
 |[],acc=>acc
 |(n,d)::r,acc=>jR r (if(acc.lookup n).isNone then acc++[(n,d)] else acc)
theorem Hx: ∀(a b acc:List<|Str×au),jR (a++b) acc=jR b (jR a acc)
 |[],_,_=>rfl
 |(n,d)::a,b,acc=>by
  show jR (a++b) _=_
  rw[Hx a b];rfl
theorem M8: ∀(l acc:List<|Str×au),(∀p∈l,(acc.lookup p.1).isSome=aa)->jR l acc=acc
 |[],_,_=>rfl
 |(n,d)::l,acc,h=>by
  have h1:=h (n,d) xg
  show jR l (if(acc.lookup n).isNone then acc++[(n,d)] else acc)=acc
  rw[aE<|by rw[aX1];intro e;rw[e] at h1;cases h1]
  exact M8 l acc λp hp=>h p (Gy _ hp)
theorem UL(a b:List<|Str×au) n:(a++b).lookup n=((a.lookup n).or<|b.lookup n):=by
 induction a with
 |nil=>simp
 |cons p a ih=>
  obtain⟨k,v⟩:=p
  rw[Rb,pE,pE,ih]
  cases n==k <;>simp
theorem Of: ∀(R:List Str) ds (acc:List<|Str×au),R.Nodup->(∀n∈R,acc.lookup n=Y)->jR (R.zip ds) acc=acc++R.zip ds
 |[],_,acc,_,_=>(c8 acc).symm
 |_::_,[],acc,_,_=>(c8 acc).symm
 |n::R,d::ds,acc,nd,h=>by
  rw[lF] at nd
  rw[G0]
  show jR (R.zip ds) (if(acc.lookup n).isNone then acc++[(n,d)] else acc)=_
  rw[aM (by rw[h n xg];rfl),Of R ds _ nd.2 λm hm=> ?_]
  ·simp
  ·rw[UL,h m<|Gy _ hm]
   have:(m==n)=ae:=beq_eq_false_iff_ne.mpr λe=>nd.1 (e▸hm)
   simp[pE,this]
theorem F2: ∀(P:List Str) (vs:List au) n,n∈P.take vs.length->((P.zip vs).lookup n).isSome=aa
 |[],_,_,h=>by simp at h
 |_::_,[],_,h=>by simp at h
 |p::P,v::vs,n,h=>by
  rw[G0,pE]
  cases e:n==p with
  |true=>rfl
  |false=>
   have:n∈P.take vs.length:=by
    rw[eT,List.take_succ_cons] at h
    rcases bB.mp h with h|h
    ·subst h;simp at e
    ·exact h
   exact F2 P vs n this
theorem Lo: ∀(P:List Str) (vs:List au) n,n∉P->(P.zip vs).lookup n=Y
 |[],_,_,_=>by simp
 |_::_,[],_,_=>by simp
 |p::P,v::vs,n,h=>by
  rw[bB,not_or] at h
  rw[G0,pE,show(n==p)=ae from beq_eq_false_iff_ne.mpr h.1]
  exact Lo P vs n h.2
theorem IB{α β:Type}{f g:α->Option β}: ∀{l:List α},(∀a∈l,f a=g a)->l.filterMap f=l.filterMap g
 |[],_=>rfl
 |a::l,h=>by rw[RN,RN,h a xg,IB λb hb=>h b<|Gy _ hb]
theorem Qe: ∀(P:List Str) (ws:List au),P.Nodup->ws.length=P.length->P.filterMap (λn=>((P.zip ws).lookup n).map (n, ·))=P.zip ws
 |[],_,_,_=>rfl
 |p::P,[],_,h=>by cases h
 |p::P,w::ws,nd,h=>by
  rw[lF] at nd
  rw[RN,G0,pE]
  simp only[beq_self_eq_true,Option.map_some]
  congr 1
  have e: ∀n∈P,((p,w)::P.zip ws).lookup n=(P.zip ws).lookup n:=λn hn=>by
   rw[pE,show(n==p)=ae from beq_eq_false_iff_ne.mpr λe=>nd.1<|e▸hn]
  have:=Qe P ws nd.2 (pC h)
  exact Eq.trans (IB λn hn=>by rw[e n hn]) this
theorem Ez(f:Str×au->List (Str×au)->Sem (ForInStep<|List<|Str×au))(hf: ∀n d acc,f (n,d) acc=if(acc.lookup n).isNone then cF (.yield<|acc++[(n,d)]) else cF<|.yield acc):
  ∀(l acc:List<|Str×au),forIn l acc f=cF (jR l acc)
 |[],acc=>by rw[List.forIn_nil];rfl
 |(n,d)::l,acc=>by
  rw[aX2,hf]
  show _=cF (jR l (if(acc.lookup n).isNone then acc++[(n,d)] else acc))
  split
  ·rw[pure_bind];exact Ez f hf l _
  ·rw[pure_bind];exact Ez f hf l _
noncomputable def r7(names:List Str)(vals dv:List au):List<|Str×au:=names.zip (vals++dv.drop (dv.length -(names.length -vals.length)))
theorem ab0{P S R:List Str}(h1:P.length=vs.length)(h2:S.length=D1.length)(hn:(P++R).Nodup)(hs: ∀n∈S,n∈P):jR ((S++R).zip<|D1++D2) ((P++R).zip vs)=(P++R).zip (vs++D2):=by
 have e:(P++R).zip vs=P.zip vs:=by rw[<-c8 vs,RO h1,c8,List.zip_nil_right,c8]
 rw[e,RO h2,Hx,RO h1,M8 _ _ λp hp=>F2 _ _ _<|by rw[<-h1,RP];exact hs _ (RQ (show(p.1,p.2)∈_ from hp)).1]
 exact Of _ _ _ (AV.mp hn).2.1 λn hm=>Lo _ _ _ λhp=>(AV.mp hn).2.2 n hp n hm rfl
theorem Yk names vals dv(hn:names.Nodup)(h1:vals.length<=names.length)(h2:names.length<=vals.length+dv.length)(h3:dv.length<=names.length):
  jR ((names.drop<|names.length -dv.length).zip dv) (names.zip vals)=r7 names vals dv:=by
 have hk:names.length -dv.length<=(names.take vals.length).length:=by rw[A7 h1];exact aX3 h2
 have a:=aX4 vals.length names
 have:=ab0 (D1:=dv.take<|dv.length -(names.length -vals.length)) (D2:=dv.drop<|dv.length -(names.length -vals.length))
  (A7 h1) (by rw[RR,A7 h1,A7<|Nat.sub_le ..,aX5 _ h3,aX5 _ h1,c4]) (by rw[a];exact hn) λn h=>aS4 h
 rwa[<-List.drop_append_of_le_length hk,a,aX4] at this
noncomputable abbrev kW(as:List Arg):List Str:=as.map λa=>a.arg
inductive wU (p:Arguments) (names:List Str):Prop
 |mk (as:List Arg) (kd:List<|Option Expr) (df:List Expr):p=⟨[],as,Y,[],kd,Y,df⟩->kW as=names->wU p names
theorem Pm(c:wU l.params a)(hn:a.Nodup)(h1:h.length<=a.length)(h2:a.length<=h.length+j.length)(h3:j.length<=a.length)
  (hd: ∀M A E Q,(∀d,(d.getD #[]).toList=j->Q d s)->aw M A (seqItems? l.defaults) Q E s):
  BindsTo s l ⟨h,[]⟩<|r7 a h j:=λM A E Q b=>by
 cases l with|mk fn fq fp fb fs fg fc fdf fk fdoc fm fa fcode fct fbl=> ?_
 cases c with|mk as kd df e0 e1=> ?_
 cases e0;subst e1
 have hk:=aX3 h2
 delta bindArgs
 refine aF (bV<|wpAny_bind<|hd M A E _ λd e=>E4 (λz=>Rh.mpr h1<|of_decide_eq_true (fT.mp z).1)<|E4 ?_<|wpAny_bind<|wpAny_of_eq (Ez _ (λn d acc=>rfl) _ _)<|wpAny_bind<|wpAny_pure<|E4 A2<|wpAny_pure ?_)
 ·refine(?_: ¬(!(List.filter (λn=>(G1 n<|(kW as).zip h).isNone)<|(kW as).take<|(kW as).length -((d.getD #[]).toList.drop<|(d.getD #[]).toList.length -(kW as).length).length).isEmpty)=aa)
  rw[e,aX6 h3,aX7,List.filter_eq_nil_iff.mpr λn hm=>by
   rw[Bool.not_eq_true,Option.isNone_eq_false_iff];exact F2 _ h n<|List.take_subset_take_left _ hk hm]
  exact A2
 ·refine(?_:Q (((kW as)++[]).filterMap λn=>((jR ((List.drop ((kW as).length -((d.getD #[]).toList.drop<|(d.getD #[]).toList.length -(kW as).length).length)<|kW as).zip<|(d.getD #[]).toList.drop<|(d.getD #[]).toList.length -(kW as).length)<|(kW as).zip h).lookup n).map (n, ·)) s)
  rw[e,aX6 h3,aX7,Yk _ h j hn h1 h2 h3,c8,r7,Qe _ _ hn<|by rw[aC,RR,aX8<|Nat.sub_le_iff_le_add'.mpr h2,RS h1]]
  exact b
theorem Du: ∀(names:List<|Str×n8) (n:Nat) (acc:List<|Str×ai) (x:Str),((x,aX9)∈names\/ ∃c,(x,c)∈acc)-> ∃c,(x,c)∈A8 n names acc
 |[],_,_,_,h=>h.elim (λh=>dz h) id
 |(y,k)::r,n,acc,x,h=>by
  unfold A8
  cases e:k== .cell with
  |true=>exact Du r (n+1) _ x (h.elim (λh=>(bB.mp h).elim (λz=> .inr ⟨n,by cases z;exact .head _⟩) .inl) λh=> .inr<|h.imp λ_=> .tail _)
  |false=>exact Du r n acc x (h.imp (λh=>(bB.mp h).elim (λz=>by cases z;cases e) id) id)
theorem J1{α:Type}{l:List<|Str×α}{n:Str}{c:α}(h:(n,c)∈l):(l.lookup n).isSome=aa:=by
 induction l with
 |nil=>exact dz h
 |cons p r ih=>
  rw[pE]
  cases e:n==p.1 with
  |true=>rfl
  |false=>exact(bB.mp h).elim (λz=>by rw[<-z,beq_self_eq_true] at e;exact jK e) ih
theorem Kw(h:a.lookup x=U .cell): ∃c,(A8 n a []).lookup x=U c:=
 (Du a n [] x<|.inl<|mem_of_lookup h).elim λ_ z=>u4.mp (J1 z)
section
variable{F:List (Str×au)->(Str->Option au)->Str->Option au}{S:Str->au->(Str->Option au)->Str->Option au}(h0: ∀m,F [] m=m)(h1: ∀k v r m,F ((k,v)::r) m=F r (S k v m))(h2: ∀k v m n,n≠k->S k v m n=m n)
include h0 h1 h2
theorem QL: ∀(b:List<|Str×au) (m:Str->Option au) (n:Str),n∉b.map (·.1)->F b m n=m n
 |[],_,_,_=>congrFun (h0 _) _
 |(k,v)::b,m,n,h=>(congrFun (h1 ..) n).trans ((QL b _ n λz=>h<|.tail _ z).trans<|h2 _ _ _ _ λz=>h<|z▸ .head _)
theorem CU(hs: ∀m,S n u m n=U u): ∀names us m i,names.Nodup->ah names i=U n->ah us i=U u->F (names.zip us) m n=U u
 |[],_,_,_,_,h,_=>bQ h
 |_::_,[],_,_,_,_,h=>bQ h
 |k::names,v::us,m,0,nd,e1,e2=>by
  have e1:=bM e1
  have e2:=bM e2
  subst e1 e2
  refine(congrFun (h1 ..) _).trans ((QL h0 h1 h2 _ _ _ λhm=> ?_).trans<|hs m)
  obtain⟨⟨a,b⟩,h3,h4⟩:=AS.mp hm
  exact(lF.mp nd).1 (h4▸(RQ h3).1)
 |k::names,v::us,m,i+1,nd,e1,e2=>(congrFun (h1 ..) n).trans (CU hs names us _ i (lF.mp nd).2 e1 e2)
end
theorem Fu(nd:a.Nodup)(e1:ah a i=U n)(e2:ah us i=U u)(hk:h n=U .local):bindL h (a.zip us) (λ_=>Y) n=U u:=
 CU (λ_=>rfl) (λ_ _ _ _=>rfl) (λk v m n q=>by split;exact aE q;rfl) (λm=>by rw[aM hk];exact aM rfl) a us _ i nd e1 e2
theorem ag3(nd:a.Nodup)(e1:ah a i=U n)(e2:ah us i=U u)(hk:h n=U .cell):bindC h (a.zip us) (λ_=>Y) n=U u:=
 CU (λ_=>rfl) (λ_ _ _ _=>rfl) (λk v m n q=>by split;rfl;exact aE q) (λm=>by rw[aE<|by rw[hk];decide];exact aM rfl) a us _ i nd e1 e2
theorem M5: ∀(l:List α) k i,i <k->ah (l.take k) i=ah l i
 |[],k,i,_=>by rw[RI]
 |a::l,k+1,0,_=>rfl
 |a::l,k+1,i+1,h=>M5 l k i (xh h)
theorem K5: ∀k i v,ah (gn k (Y:Option V)) i≠U (U v)
 |0,_,_,h=>bQ h
 |_+1,0,_,h=>nomatch h
 |k+1,i+1,v,h=>K5 k i v h
theorem OK: ∀us k i v,ah (us.map U++gn k (Y:Option V)) i=U (U v)->ah us i=U v
 |[],k,i,v,h=>absurd h (K5 k i v)
 |u::us,k,0,v,h=>bM h
 |u::us,k,i+1,v,h=>OK us k i v h
structure Ck(T:qM)(f:Nat)(fn:Fn) where
 fd:FuncData
 o:Obj
 at_:T.B.get? (bR f)=U o
 data:o.data= .func fd
 gw:fd.globals=uL
 blt:fd.builtins=AX
 q6:fd.closure=[]
 nD:List cr
 Fe:fd.body= .stmts nD
 co:fd.scope.isCoroutine=ae
 jx:fd.scope.isGenerator=ae
 kind:fd.scope.kind= .function
 code:T.B.CodeRec fd.code fd.qualname
 ns:List Str
 nd:ns.Nodup
 len:ns.length=fn.nl
 np:fn.np<=fn.nl
 DY:wU fd.params (ns.take fn.np)
 dv:List au
 Qc:aV (Rm.of T.B) fn.gS dv
 dle:fn.gS.length<=fn.np
 gS:(fd.defaults= .none/\dv=[])\/ ∃t od n,fd.defaults= .ref t/\T.B.get? t=U od/\od.data= .seq dv.toArray n
 M2: ∀n∈ns,fd.scope.names.lookup n=U .local\/fd.scope.names.lookup n=U .cell
noncomputable def Rm.ext(R:Rm)(n:Nat)(h:ct):Rm:=λa=>if a <n then R a else(h.get? a).map (.kp .own)
theorem Rm.BW{R:Rm}(e:a <n):R.ext n h a=R a:=aM e
theorem Rm.Kz{R:Rm}{n a}(e:n<=a)(q:h.get? a=U o):(R.ext n h).kp .own a o:=(aE<|Rh.mpr e).trans (aA _ q)
theorem c2.ext(s:c2 R A h)(k: ∀a o,h.get? a=U o->h'.get? a=U o):c2 (R.ext h.objs.size h') A h':=
 ⟨λa b o e=>if q:a <h.objs.size then k a o (s.kp a b o<|(Rm.BW q).symm.trans e) else by
   unfold Rm.kp Rm.ext at e;rw[aE q] at e
   cases z:h'.get? a with
   |none=>rw[z] at e;cases e
   |some p=>rw[z] at e;cases e;rfl,
  λa o e=>have p:=s.ob a o e
   have old: ∀{b r},R b=U r->R.ext h.objs.size h' b=U r:=λz=>(Rm.BW<|s.lt λy=>gJ <|z.symm.trans y).trans z
   ⟨old p.1,p.2.keep (λ_ _ z=>old z) (λp=>k _ p) λd p dd e=>⟨k _ _ e,old dd⟩⟩,
  λa e=>by
   unfold Rm.ext;rw[s.no a<|fW (k a) e,e];exact ite_self _⟩
theorem c2.ap0(s:c2 R A h):R.le<|R.ext h.objs.size h':=λa b o e=>(Rm.BW<|s.lt λy=>bH <|e.symm.trans y).trans e
section
variable{x:Cx}{σ:St x}{Ar:cV}{K:V->H->Prop}
noncomputable def DG(σ:St x)(K:V->H->Prop)(r:u5)(s:bA):Prop:=match r with
 |.ok (.ret v)=>PV ax σ K v s
 |_=>False
@[elab_as_elim] theorem DG.of{P:u5->Prop}{r}{s}(q:DG σ K r s)(k: ∀v,PV ax σ K v s->P (.ok<|.ret v)):P r:=by
 rcases r with e|f
 ·exact q.elim
 ·cases f
  case ret=>exact k _ q
  all_goals exact q.elim
def mV(T:qM)(C:cW)(k:Nat):Prop:= ∀(x:Cx),x.T=T-> ∀(Ar:cV),d6 k Ar-> ∀(σ:St x) (K:V->H->Prop) (f:Nat) (vs:List V) (ws:List au),aV σ.R vs ws->C f vs σ.A K->n9 (M x) Ar (.call (.ref<|bR f) ⟨ws,[]⟩) (DG σ K) σ.s
structure F0(T:qM)(f:Nat)(fn:Fn) where
 ck:Ck T f fn
 ok: ∀(C:cW) (k:Nat) (x:Cx) (Ar:cV),mV T C k->x.T=T->x.env.scope=ck.fd.scope->x.ns=ck.ns->d6 (k+2) Ar->c_ x Ar (kM ck.nD x.env) (aZ I C fn.body)
theorem d6.oZ{k j}{Ar}(r:d6 k Ar)(h:j<=k):d6 j Ar:=⟨r.hd,mo (eG h _) r.oD,mo (cK (eG (ji 8 h) _) _) r.un⟩
theorem TW{M}{A}{E}{s}{Q}(h:Q Y s):aw M A (seqItems? .none) Q E s:=RT rfl h
variable{f:Nat}{fn:Fn}{vs:List V}{ws:List au}{ρ:L}{T:qM}
def Ck.us(c:Ck T f fn)(ws:List au):List au:=ws++c.dv.drop (c.dv.length -((c.ns.take fn.np).length -ws.length))
theorem Ck.take(c:Ck T f fn):(c.ns.take fn.np).length=fn.np:=A7 (c.len▸c.np)
theorem Ck.MG{R}(c:Ck T f fn)(l:(Rm.of T.B).fl R)(b:oz fn vs=U ρ)(r:aV R vs ws){G:Prop}
  (k: ∀us,ws.length<=(c.ns.take fn.np).length->(c.ns.take fn.np).length<=ws.length+c.dv.length->c.dv.length<=(c.ns.take fn.np).length->aV R us (c.us ws)->us.length=fn.np->ρ=us.map U++gn (fn.nl -fn.np) Y->G):G:=by
 unfold oz at b
 refine if h:vs.length<=fn.np/\fn.np<=vs.length+fn.gS.length then ?_ else ?_
 ·rw[aM h] at b
  have l1:=r.length
  have l2:=c.Qc.length
  refine k (vs++fn.gS.drop (fn.gS.length -(fn.np -vs.length))) (by rw[c.take,l1];exact h.1) (by rw[c.take,l1,l2];exact h.2) (by rw[c.take,l2];exact c.dle) ?_ ?_ (bM b).symm
  ·unfold Ck.us
   rw[c.take,l1,l2]
   exact r.append ((c.Qc.aG l).drop _)
  ·rw[aC,RR,aX8<|Nat.sub_le_iff_le_add'.mpr h.2,RS h.1]
 ·rw[aE h] at b;cases b
def Ck.st(c:Ck T f fn){L:ai}(a:(A8 (L+1) c.fd.scope.names []).Pairwise λx y=>x.2≠y.2):nQ (callEnvC c.fd L<|bR f) c.ns:=⟨c.kind,c.gw,c.blt,c.nd,λ_ _ _ e e'=>name_of_addr a (mem_of_lookup e)<|mem_of_lookup e'⟩
theorem Ck.aq5(c:Ck T f fn){s a}{R}{g}{u}(l:(Rm.of T.B).fl R)(b:oz fn vs=U ρ)(r:aV R vs ws)
  (X:InCallC s s.heap.objs.size (bindL (callEnvC c.fd s.heap.objs.size<|bR f).kindOf (r7 (c.ns.take fn.np) ws c.dv) λ_=>Y) (A8 (s.heap.objs.size+1) c.fd.scope.names [])
   (bindC (callEnvC c.fd s.heap.objs.size<|bR f).kindOf (r7 (c.ns.take fn.np) ws c.dv) λ_=>Y) a) (le:R.fl<|R.ext s.heap.objs.size a.heap):
  Fr ⟨T,callEnvC c.fd s.heap.objs.size<|bR f,c.ns,g,u,c.st X.apart,ρ⟩<|R.ext s.heap.objs.size a.heap:=c.MG l b r λus _ _ _ ru j e=>by
 subst e
 have ndt:(c.ns.take fn.np).Nodup:=c.nd.sublist (aY0 ..)
 have argv: ∀{i:Nat} {n:Str} {v:V},ah c.ns i=U n->ah (us.map U++gn (fn.nl -fn.np) (Y)) i=U (U v)-> ∃w,ah (c.ns.take fn.np) i=U n/\ah (c.us ws) i=U w/\ax R v w:=λ{i n v} h1 h2=>
  have h3:=OK _ _ _ _ h2
  ru.ah h3 λw e p=>⟨w,(M5 _ _ _<|j▸xE h3).trans h1,(lK ..).trans e,p⟩
 refine⟨?_,?_,λi n h1=>(c.M2 n<|pp h1).elim (λh=> .dR h) λhk=> ?_⟩
 ·show(us.map U++gn (fn.nl -fn.np) Y).length=_
  rw[aC,bN,GK,j,c.len,RS c.np]
 ·obtain⟨o,es,ep,e1,e2,e3,e4⟩:=X.toInCall.ns
  exact .mk o _ _ (Rm.Kz (dO _) e1) ⟨es,ep,e2,e3,e4,dO _⟩ λi n v h1 h2 h3=>(argv h1 h3).imp λw q=>⟨Fu ndt q.1 q.2.1 h2,q.2.2.aG le⟩
 ·obtain⟨cc,e⟩:=Kw hk
  obtain⟨o,h4,t⟩:=X.cell n cc e
  exact .cell cc o _ (.inl hk) e (Rm.Kz (uU<|X.above n cc<|mem_of_lookup e) h4) t λv h3=>(argv h1 h3).imp λw q=>⟨ag3 ndt q.1 q.2.1 hk,q.2.2.aG le⟩
def Ck.fx(c:Ck T f fn)(n:Nat)(g:Array Q1)(os:ml)(st:nQ (callEnvC c.fd n<|bR f) c.ns)(ρ:L):Cx:=⟨T,callEnvC c.fd n<|bR f,c.ns,g,os,st,ρ⟩
theorem v5{T}{f}{fn}{vs}{ws}{ρ}(hl:T.B.NoLimit)(c:Ck T f fn){Ar:cV}(hdep:Ar.depth <GT){R}{A}{s:bA}(bg:c2 R A s.heap)(bX: ∀a o,T.B.get? a=U o->R.is a o){g}{h}(J:s.gens=g)(ho:s.os=h)(hb:oz fn vs=U ρ)(r:aV R vs ws){G:u5->bA->Prop}
  (k: ∀(st:nQ (callEnvC c.fd s.heap.objs.size<|bR f) c.ns) (τ:St<|c.fx s.heap.objs.size g h st ρ),R.le τ.R->τ.A=A->(∀a,(c.fx s.heap.objs.size g h st ρ).own a->s.heap.get? a=Y)->(∀n a,(callEnvC c.fd s.heap.objs.size<|bR f).cells.lookup n=U a->a≠s.heap.objs.size)->
   aw (fH T.prog T.w) (Ar.deeper<|callEnvC c.fd s.heap.objs.size<|bR f) (kM c.nD<|callEnvC c.fd s.heap.objs.size<|bR f) (λfl s'=>G (.ok<|.ret (match fl with|.ret v=>v|_=> .none)) s')
    (λe s'=>aw (fH T.prog T.w) (Ar.deeper<|callEnvC c.fd s.heap.objs.size<|bR f) (RU (callEnvC c.fd s.heap.objs.size<|bR f) e) (λ_ b=>G (.error e) b) (λe' b=>G (.error e') b) s') τ.s):
  n9 (fH T.prog T.w) Ar (.call (.ref<|bR f) ⟨ws,[]⟩) G s:=by
 have l:=λa o e=>bX a o (Rm.yO e)
 have hB: ∀a o,T.B.get? a=U o->s.heap.get? a=U o:=λa o e=>bg.kp _ _ _ (bX _ _ e)
 refine aY1 hdep (hB _ _ c.at_) c.data c.co c.jx c.Fe (c.code.keeps hB) ?_
 refine c.MG l hb r λus p D u _ _ _=>Pm c.DY (c.nd.sublist<|aY0 ..) p D u (λM A E Q i=> ?_) _ _ _ _ ?_
 ·exact c.gS.elim (λz=>z.1▸TW (i Y z.2.symm)) λz=>z.elim λt z=>z.elim λod z=>z.elim λn z=>z.1▸RV (hB _ _ z.2.1) z.2.2 (i _ rfl)
 ·rw[c.q6,c.gw,c.blt]
  refine aY2 c.kind (λy j=>(c.M2 _<|aS3 (RQ (show(y.1,y.2)∈_ from j)).1).imp id λq=>⟨q,(Kw q).elim λcc e=>by rw[e];rfl⟩) λenv he s' X=> ?_
  have he:env=callEnvC c.fd s.heap.objs.size (bR f):=by rw[he];unfold callEnvC;rw[c.gw,c.blt]
  subst he
  have hk:=X.toInCall.keep
  obtain⟨h1,tk,e1⟩:=X.toInCall.same
  have le:=bg.ap0 (h':=s'.heap)
  exact⟨(hl.keeps hB).keeps hk,codeAny_func (k (c.st X.apart) ⟨R.ext s.heap.objs.size s'.heap,A,s',bg.ext hk,λa o e=>le a .fr o<|bX a o e,(aA bA.gens e1).trans J,(aA bA.os e1).trans ho,c.aq5 l hb r X le.fl⟩ le rfl
   (λa w=>w.elim (λz=>RW<|Nat.le_of_eq z.symm) λz=>z.elim λn z=>RW<|Nat.le_of_lt<|X.above n a<|mem_of_lookup z.2) λn a q=>RX<|X.above n a<|mem_of_lookup q)⟩
theorem MZ{T}(hl:T.B.NoLimit)(S: ∀f fn,I.fn f=U fn->Nonempty (F0 T f fn)): ∀d,mV T (al I d) (4*d)
 |0=>λx e Ar _ σ K f vs ws r h=>h.elim
 |d+1=>λx e Ar rm σ K f vs ws r h=>by
  subst e
  exact Je h λfn hf h=>Je h λρ hb h=>by
   obtain⟨⟨c,ok⟩⟩:=S f fn hf
   have rm':d6 (4*d+2)<|Ar.deeper<|callEnvC c.fd σ.s.heap.objs.size<|bR f:=⟨rm.hd,by show Ar.depth+1+_ <_;have:=rm.oD;lia,by show Ar.units+3+_+_ <_;have:=rm.un;lia⟩
   refine v5 hl c (mo (cg ..) rm.oD) σ.bg σ.bX σ.gens σ.os hb r λst τ le i own _=> ?_
   refine bx (ok (al I d) (4*d) (c.fx σ.s.heap.objs.size x.gens x.os st ρ) _ (MZ hl S d) rfl rfl rfl rm' ρ τ _<|by rw[i];exact h) (λfl s2 q=> ?_) λ_ _ q=>q.elim
   obtain⟨p,υ,v,lo,r2,j,l,k2⟩:=q
   have g:=λa b o e=>lo a b o (le a b o e) λ_ w=>bH <|(σ.bg.no a<|own a w).symm.trans e
   let φ:St x:=⟨υ.R,j,υ.s,υ.bg.oJ l,υ.bX,υ.gens,υ.os,σ.fr.keep g⟩
   cases r2 with
   |ret r=>exact⟨φ,_,_,g,r,k2⟩
   |_=>exact⟨φ,_,_,g,.none,k2⟩
end
noncomputable def fE(e:Expr):Bool:= !bE e.ctorIdx 22
section
variable{x:Cx}{σ:St x}{Ar:cV}{K:V->H->Prop}{k n:Nat}
theorem o0(h:fE e=aa):eU pos (eV (e::r) env)=(ae,aQ e env)::eU pos (eV r env):=by
 cases e <;>first|rfl|cases h
theorem tF: ∀{r:List Expr},r.all fE=aa->(eU pos (eV r env)).any (·.1)=ae
 |[],_=>rfl
 |e::r,h=>by
  have h:=fT.mp h
  rw[o0 h.1];exact tF h.2
theorem zT{Q:Args->bA->Prop}(hs:a.all fE=aa)(h:aw (M x) Ar (iP<|eU pos<|eV a x.env) (λvs s'=>Q ⟨vs,[]⟩ s') N0 s):
  aw (M x) Ar (evalArgs f aa (eU pos<|eV a x.env) []) Q N0 s:=by
 cases a with
 |nil=>exact aF (bx h (λvs s' q=>aF<|wpAny_pure<|wpAny_holding<|wpAny_bind<|wpAny_pure<|wpAny_bind<|wpAny_pure<|wpAny_pure q) λ_ _ q=>q)
 |cons e r=>
  rw[o0 (fT.mp hs).1] at h⊢
  exact aY3 h
variable{args:List Expr}{pos q:Pos}{ge:H->(List V->H->Prop)->Prop}{G:List V->H->Prop}{fv:List au}{C:cW}{nm:Str}
theorem EP(hk:qX x.T.p.K f=aa)(hs:args.all fE=aa)(el:fX n x Ar (iP<|eU pos<|eV args x.env) ge)(h:ge σ.A G)
  (z: ∀(τ:St x) vs ws,σ.le τ->aV τ.R vs ws->G vs τ.A->aw (M x) Ar (call f<|fv++ws) (PV ax σ K) N0 τ.s):aw (M x) Ar (u6 pos f fv (eU pos<|eV args x.env) []) (PV ax σ K) N0 σ.s:=
 callWith_of (by rw[tF hs];rfl) (keeps_K hk) (zT hs<|el.map h λτ vs ws l r k=>⟨τ.mD,z τ vs ws l r.1 k⟩)
theorem Gn(hs:args.all fE=aa)(el:fX n x Ar (iP<|eU pos<|eV args x.env) ge)(h:ge σ.A G)
  (z: ∀(τ:St x) vs ws,σ.le τ->aV τ.R vs ws->G vs τ.A->aw (M x) Ar (call (.builtin b)<|fv++ws) (PV ax σ K) N0 τ.s):aw (M x) Ar (u6 pos (.builtin b) fv (eU pos<|eV args x.env) []) (PV ax σ K) N0 σ.s:=
 RY (tF hs) (zT hs<|el.map h λτ vs ws l r k=>z τ vs ws l r.1 k)
theorem Bq(fZ:mV x.T C k)(rm:d6 k Ar)(r:aV σ.R vs a)(h:C f vs σ.A K):aw (M x) Ar (call (.ref<|bR f) a) (PV ax σ K) N0 σ.s:=
 s8 (xy (fZ x rfl Ar rm σ K f vs a r h) λr s' q=>q.of λ_ q=>q)
theorem WB(fZ:mV x.T C k)(rm:d6 k Ar)(hf:f <rK.length)(hk:x.env.kindOf nm=U .globalImplicit)(hd:(nm==("__debug__":Str))=ae)(hw:x.T.g.mg nm=U (.ref<|bR f))(hs:args.all fE=aa)(el:fX n x Ar (iP<|eU pos<|eV args x.env) ge):
  a3 x Ar (aQ (.Call (.Name nm q) args [] pos) x.env) (λh Q=>ge h λvs h=>C f vs h Q):=λσ K h=>
 u7 (v2 σ hk hd hw<|EP (x.T.Dt f hf) hs el h λτ vs ws l r k=>up l<|Bq fZ rm r k)
theorem aN6:gX R c [] A9:= .mk (λ_=> .none) ⟨#[],0,rfl,λe he=>(nomatch A0.mpr he),λ_=>rfl,dO _⟩ (λ_ _ e=>bQ e) (λ_ _ e=>bQ e) λ_ _ e=>bQ e
theorem St.DQ(σ:St x):σ.R.le<|(σ.R.bw σ.s.heap.objs.size<|.dict<|σ.s.heap.objs.size+1).bw (σ.s.heap.objs.size+1) .abs:=λa b o e=>
 (Rm.cQ<|Rm.ne (σ.bg.dm _<|jj _) e).trans (σ.dQ _ a b o e)
def St.aK(σ:St x)(c:Nat):St x:=
 have up:=λa (o) (e)=>eA A9 e
 have z1:=s9 ..
 have m1:c2 (σ.R.bw σ.s.heap.objs.size<|.dict<|σ.s.heap.objs.size+1) σ.A<|σ.s.heap.push A9:=σ.bg.jx _ (λ_=>Rm.cQ) (λ_ _ _=>id) (λb o _=>up b o) (σ.dQ _).fl (λ_ _ e=>bH <|(Rm.cN ..).symm.trans e)
  (λ_ e=>bQ <|σ.zV.symm.trans e) (λ_ e=>bQ <|σ.new.symm.trans e) λe=>gJ <|(g_ _ rfl).symm.trans e
 have e1:σ.R.bw σ.s.heap.objs.size (.dict<|σ.s.heap.objs.size+1) (σ.s.heap.objs.size+1)=Y:=(Rm.cQ<|s_ _).trans (σ.bg.dm _<|jj _)
 σ.to _ (σ.A.cq (σ.s.heap.objs.size+1)<|.aK c []) ((σ.s.heap.push A9).push<|instObj (dK c) σ.s.heap.objs.size) σ.s.toks
  (m1.abs _ (λ_=>Rm.cQ) (λ_ _ _=>eA _) (Rm.cN ..) (λ_ e=>bH <|e1.symm.trans e) (λ_ e=>bH <|e1.symm.trans e)
   (.aK (z1▸g_ (σ.s.heap.push A9) rfl) ((Rm.cQ (s_ _).symm).trans<|Rm.cN ..) (eA _<|g_ _ rfl) aN6)) σ.DQ
theorem az5(rm:d6 (k+1) Ar):d6 k<|Ar.under<|.builtin "type.__call__" ⟨.ref a::rest,[]⟩:=
 ⟨rm.hd,by show Ar.depth+1+k <_;have:=rm.oD;lia,by show Ar.units+1+8*k+20 <_;have:=rm.un;lia⟩
theorem af0(fZ:mV x.T C k)(rm:d6 (k+1) Ar)(hi:I.lu c=U f)(hk:x.env.kindOf nm=U .globalImplicit)(hd:(nm==("__debug__":Str))=ae)(hw:x.T.g.mg nm=U (.ref<|dK c))(hs:args.all fE=aa)
  (el:fX n x Ar (iP<|eU pos<|eV args x.env) ge):
  a3 x Ar (aQ (.Call (.Name nm q) args [] pos) x.env) (λh Q=>ge h λvs h=>(match I.lu c with
   |U f=> ∀a,h a= .none->C f (.ref a::vs) (h.cq a<|.aK c []) λv h=>rQ (Q (.ref a) h) v
   |.none=>False)):=λσ K h=>by
 rw[hi] at h
 have p:=x.T.p.rD c f hi
 refine u7 (v2 σ hk hd hw (EP (x.T.cls c f hi) hs el h λτ vs ws l r k=>s8 (make_core (makes_of τ.mD p.2.2.2) (RZ τ.mD p.2.1) (λself=>bind_fn τ.mD self p.2.2.1) (.inl rfl) (xy
  (fZ x rfl _ (az5 rm) (τ.aK c) _ f _ _ (.cons (.ref _)<|r.aG τ.DQ.fl)<|k _<|τ.bg.j9 λz=>bQ <|(τ.bg.dm _<|jj _).symm.trans z) λr s' q=>q.of λw q=>q.casesOn λυ v w l' r' b=> ?_))))
 exact rQ.casesOn b (λz r=>r.of ⟨rfl,υ,_,_,λ_ _ _ e=>l' _ _ _<|τ.DQ _ _ _<|l _ _ _ e,.ref _,z⟩) r'
end
section
variable{σ:St x}{K:V->H->Prop}
theorem CT f ws n: ∃a,u8 f (cy ws n)=cy (f ws.toArray).toList a:=⟨_,by unfold u8;rfl⟩
theorem St.BE(q:σ.A a=U p)(e:σ.s.heap.get? a=U (cy h n))(c:(f h.toArray).toList=us)(r:aV σ.R vs us)(b:ax σ.R v w)(k:K v<|σ.A.cq a<|.list vs):
  PV ax σ K w {σ.s with heap:=σ.s.heap.update a<|u8 f}:=(CT f h n).elim λg en=>
 ⟨σ.cq σ.s.toks q (A1 ..)<|.list ((uW _ e<|by rw[en];rfl).trans<|by rw[en,c]) r,v,w,Rm.le_refl _,b,k⟩
noncomputable def Ik:Nat->String
 |0=>"list.append"
 |1=>"list.pop"
 |_=>"list.extend"
theorem ap9(h:mB σ.A K a m vs)(r:aV σ.R vs j):aw (M x) Ar (call (.builtin<|Ik m)<|.ref a::j) (PV ax σ K) N0 σ.s:=
 have ext: ∀{l k:List V} {b n2:Nat} {us:List au},σ.A a=U (.list l)->σ.s.heap.get? b=U (cy us n2)->aV σ.R k us->a_ (l++k).length->K .none (σ.A.cq a<|.list<|l++k)->aw (M x) Ar (call (.builtin "list.extend") [.ref a,.ref b]) (PV ax σ K) N0 σ.s:=λ{l k b n2 us} q e2 r2 hl z=>
  σ.gV q λj n e r=>have hz:=r.Fq r2 hl
   G2 aY4 ⟨_,e,rfl⟩ PySem.F.entry_list_extend (PySem.F.args_list_extend_2 _ _) (AutoSeq1.list_extend_list_list_0 a j.toArray n b us.toArray n2 (extend_door hz) (ak (cg _ _) hz)<|uR hz) ⟨e,e2,St.BE q e (Array.toList_append ..) (r.append r2) .none z⟩
 mB.casesOn h
  (λq hl z rv=>rv.bq λw p=>σ.gV q λj n e r=>G2 R0 ⟨_,e,rfl⟩ aY5 (aY6 _ _) (aY7 a j.toArray n w<|j4▸ak (r.length▸jj _) (jo hl)) ⟨e,St.BE q e (Array.toList_push ..) (r.append<|.cons p .nil) .none z⟩)
  (λq hl z rv=>rv.none (σ.gV q λj n e r=>r.mL λus w e1 r' p=>by
   subst e1
   have sz:(us++[w]).toArray.size -1=us.length:=by rw[j4,aC];rfl
   refine G2 aY8 ⟨_,e,rfl⟩ PySem.F.entry_list_pop (PySem.F.args_list_pop_1 _) (MeetsSeq.list_pop_last a (us++[w]).toArray n w (by rw[sz,u1,aV8<|dO _,aV9];rfl)<|by rw[j4,aC,r'.length];exact ak (cf hl)<|by rw[AZ];decide) ⟨e,St.BE q e ?_ r' p z⟩
   rw[sz]
   have:=kl_erase us [] w
   rw[c8] at this
   exact aA Array.toList this))
  (λq hl z rv=>rv.bq λw p=>p.of λus b n2 e2 r2=>ext q (σ.at e2) r2 hl z)
  (λq ne c hl z rv=>rv.bq λw p=>p.of<|σ.gV c λus n2 e2 r2=>ext q e2 r2 hl z) r
theorem sj.or(g:sj R o q)(rd:ax R d w):ax R (o.getD d)<|q.getD w:=match o,g with
 |.some _,g=>g.elim λ_ z=>z.1▸z.2
 |.none,g=>(show q=Y from g)▸rd
theorem Mn{a n:Nat}(h:oE σ.A K ds vs)(r:aV σ.R vs j)(e:σ.s.heap.get? a=U (gi (fY ds l) n))(hm:(a==kL)=ae)(nd:(dI ds).Nodup)(rd:dE σ.R ds l):
  aw (M x) Ar (call (.builtin "dict.get")<|.ref a::j) (PV ax σ K) N0 σ.s:=
 have b:=(rq e nd rd).mapOf
 oE.casesOn h
  (λ{i} z r=>r.bq λw p=>p.of λt=>call_meetsIn R2 ⟨_,e,rfl⟩ aY9 (PySem.F.args_dict_get_2 _ _) (meets_dict_get (ik x) a (mP i t) hm) ⟨_,b,.tk ((rd.get i).or .none) z⟩)
  (λ{i d} z r=>r.of λw j p r=>p.of λt=>r.bq λw0 p0=>call_meetsIn R2 ⟨_,e,rfl⟩ aY9 (PySem.F.args_dict_get_3 _ _ _) (meets_dict_get_default (ik x) a (key:= .int i t) (mP i t) hm w0) ⟨_,b,.tk ((rd.get i).or p0) z⟩) r
end
section
variable{σ:St x}
theorem Ni: ∀{r:List Expr},r.all fE=aa->(eU pos<|eV r env).all (λx=> !x.1)=aa
 |[],_=>rfl
 |e::r,h=>by
  have h:=fT.mp h
  rw[o0 h.1];exact Ni h.2
theorem Np(hb:xv e name x.env (aQ e x.env)=aQ e x.env)(hl:(j.endLine==pos.line)=aa)(hn:a.length <30)(hs:a.all fE=aa)
  (h:aw (M x) Ar (aQ e x.env) (λov s₁=> ∀g,aw (M x) Ar (xz ov name g) (λfx b=>aw (M x) Ar (u6 pos fx.1 fx.2 (eU pos<|eV a x.env) []) Q N0 b) N0 s₁) N0 s):
  aw (M x) Ar (aQ (.Call (.Attribute e name j) a [] pos) x.env) Q N0 s:=by
 rw[arm_eval_Call,hb]
 refine aF (bx h (λov s₁ f=>aF<|jk ?_) λ_ _ e=>e)
 have hform:aZ0 (a.length+([]:List Keyword).length) (eU pos<|eV a x.env) (backToKw pos<|keywordEach [] x.env)=aa:=by
  unfold aZ0
  rw[Ni hs]
  exact decide_eq_true hn
 have hpos:aZ1 aa e x.env j pos=cF pos:=by unfold aZ1;rw[hl];rfl
 unfold methodCall
 rw[hform]
 exact aF (e7<|bx (f _) (λfx b c=>aF<|RT hpos c) λ_ _ e=>e)
theorem ad5{a d c m f:Nat}(e1:σ.s.heap.get? a=U (oO c d))(e2:σ.s.heap.get? d=U o)(F:gX σ.R c j o)(hs:bc j (I.mf m)=Y)(hm:I.ms c m=U f)(h:Q (.ref<|bR f,[.ref a]) σ.s):
  aw (M x) Ar (xz (.ref a) (kt m) t) Q N0 σ.s:=
 have p:=x.T.p.oI c m f hm
 method_fn (od:=U o) σ.mD ⟨e1,rfl,rfl,e2⟩ (x.T.p.ga c p.1) (x.T.p.gt c p.1) p.2.1 p.2.2 (aA (uM Ry)<|F.QR λb v l y z=>bQ <|(x.T.p.Qt m b l z.symm▸hs).symm.trans y) h
theorem Xb{l n m:Nat}(e:s.heap.get? l=U (cy j n))(hm:eY m xW=aa)(h:Q (.builtin<|Ik m,[.ref l]) s):aw (M x) Ar (xz (.ref l) (kt m) a) Q N0 s:=
 by
  rcases m with _|_|_|_
  ·exact R3 R0 PySem.F.type_list_append ⟨_,e,rfl,_,rfl⟩ ⟨_,e,rfl⟩ h
  ·exact R3 aY8 PySem.F.type_list_pop ⟨_,e,rfl,_,rfl⟩ ⟨_,e,rfl⟩ h
  ·exact R3 aY4 PySem.F.type_list_extend ⟨_,e,rfl,_,rfl⟩ ⟨_,e,rfl⟩ h
  ·exact fy hm
theorem Lg{d n:Nat}(e:s.heap.get? d=U (gi l n))(h:Q (.builtin "dict.get",[.ref d]) s):aw (M x) Ar (xz (.ref d) (kt Bz) j) Q N0 s:=
 aZ2 ⟨_,e,rfl⟩ aZ3 R2 PySem.F.type_dict_get (λa q=>by cases q;exact⟨_,e,rfl⟩) h
theorem ae6(fZ:mV x.T C k)(rm:d6 k Ar)(hb:xv e (kt m) x.env (aQ e x.env)=aQ e x.env)(hl:(p.endLine==pos.line)=aa)(hn:j.length <30)(hs:j.all fE=aa)
  (ev:a3 x Ar (aQ e x.env) f) (el:fX n x Ar (iP<|eU pos<|eV j x.env) t):a3 x Ar (aQ (.Call (.Attribute e (kt m) p) j [] pos) x.env) (λh Q=>f h λv h=>lj I C h t Q m v):=λσ K h=>
 Np hb hl hn hs (ev.map h λτ v w l r k g=>bx
  (have aK: ∀{a d c m f:Nat} {fs:List<|Nat×V} {o:Obj} {v:V},τ.s.heap.get? a=U (oO c d)->τ.s.heap.get? d=U o->gX τ.R c fs o->ax τ.R v (.ref a)->bc fs (I.mf m)=Y->I.ms c m=U f->t τ.A (λvs h=>C f (v::vs) h K)->
    aw (M x) Ar (xz (.ref a) (kt m) g) (λfx b=>aw (M x) Ar (u6 pos fx.1 fx.2 (eU pos<|eV j x.env) []) (PV ax τ K) N0 b) N0 τ.s:=λ{a d c m f fs o v} e1 e2 F ra h1 h2 z=>
    ad5 e1 e2 F h1 h2 (EP (x.T.oI c m f h2) hs el z λυ vs ws l r k=>up l<|Bq fZ rm (.cons (ra.aG l.fl) r) k)
   lj.casesOn (motive:=λm v _=>ax τ.R v w->aw (M x) Ar (xz w (kt m) g) (λfx b=>aw (M x) Ar (u6 pos fx.1 fx.2 (eU pos<|eV j x.env) []) (PV ax τ K) N0 b) N0 τ.s) k
   (λh1 h2 z r=>r.of λd o e1 e2 F=>aK (τ.at e1) (τ.at e2) F (.fz e1 e2 F) h1 h2 z)
   (λq h1 h2 z r=>r.of<|(τ.bg.ob _ _ q).2.of λd o e1 _ e2 F=>aK e1 e2 F (.ref _) h1 h2 z)
   (λz r=>r.of λi a n e1 hm nd rd=>Lg (τ.at e1)<|Gn hs el z λυ vs ws l r k=>up l<|Mn k r (υ.at<|l _ _ _ e1) hm nd<|rd.aG l.fl)
   (λq z r=>r.of<|τ.i5 q λi n e1 nd rd=>Lg e1<|Gn hs el z λυ vs ws l r k=>k.elim λs k=>υ.i5 k.1 λi n e2 nd rd=>up l<|Mn k.2 r e2 (υ.rf k.1) nd rd)
   (λq hm z r=>r.of<|τ.gV q λws n e1 r1=>Xb e1 hm<|Gn hs el z λυ vs ws l r k=>up l<|ap9 k r) r)
  (λfx s2 q=>bx q (λ_ _ q=>q.aG l) λ_ _=>id) λ_ _=>id)
end
section
variable{R S:Rm}{A:H}{h h':ct}
theorem c2.qB(s:c2 R A h)(own:ai->Prop)(f: ∀b,¬own b->S b=R b)(hh: ∀b o,¬own b->h.get? b=U o->h'.get? b=U o)(ho: ∀b,own b-> ∃o,R.kp .it b o)
  (hk: ∀b c o,own b->S.kp c b o->h'.get? b=U o) (g: ∀b,own b->h'.get? b=Y->S b=Y):c2 S A h':=
 have nt: ∀{b r},R b=U r->(∀o,r≠ .kp .it o)-> ¬own b:=λe n z=>(ho _ z).elim λo q=>n o (bM<|e.symm.trans q)
 ⟨λa b o e=>(GU<|own a).elim (λz=>hk a b o z e) λz=>hh a o z<|s.kp a b o<|(f a z).symm.trans e,
  λa o e=>have p:=s.ob a o e
   have n:=nt p.1 λ_ z=>qv z
   ⟨(f a n).trans p.1,p.2.keep (λb o z=>(f b<|nt z λ_ y=>qv y).trans z) (λp=>hh a p n) λd p dd e=>have m:=nt dd λ_ y=>qv y;⟨hh d p m e,(f d m).trans dd⟩⟩,
  λa e=>(GU<|own a).elim (λz=>g a z e) λz=>(f a z).trans<|s.no a<|fW (λo=>hh a o z) e⟩
end
section
variable{x y:Cx}{σ:St x}{Ar:cV}{K:It}
def St.qB(σ:St x)(S:Rm)(h:ct)(t:Nat)(own:ai->Prop)(f: ∀b,¬own b->S b=σ.R b)(hh: ∀b o,¬own b->σ.s.heap.get? b=U o->h.get? b=U o)(ho: ∀b,own b-> ∃o,σ.R.kp .it b o)
  (hk: ∀b c o,own b->S.kp c b o->h.get? b=U o) (g: ∀b,own b->h.get? b=Y->S b=Y):St x:=
 have nt: ∀{b c o},σ.R.kp c b o->c≠ .it-> ¬own b:=λe n z=>(ho _ z).elim λo q=>n (jX e q).1
 have kk: ∀{b c o},σ.R.kp c b o->c≠ .it->S.kp c b o:=λe n=>(f _<|nt e n).trans e
 ⟨S,σ.A,{σ.s with heap:=h,toks:=t},σ.bg.qB own f hh ho hk g,λa o e=>kk (σ.bX a o e) λz=>fU z,σ.gens,σ.os,σ.fr.tW (λa o e=>kk e λz=>fU z) λa o e=>kk e λz=>fU z⟩
def St.F3(σ:St x){a}{o}(n:σ.R a=Y)(e:σ.s.heap.get? a=U o):St x:=
 σ.to (σ.R.bw a<|.kp .fr o) σ.A σ.s.heap σ.s.toks (σ.bg.mW a e (λ_ _ _=>id) (σ.bg.j9 λz=>bH <|n.symm.trans z) (λ_ z=>bH <|n.symm.trans z) λ_ z=>bH <|n.symm.trans z) (Rm.jd n)
inductive Ee:Expr->Prop
 |mk (s:Str) (p:Pos):Ee (.Name s p)
def lZ(own:ai->Prop)(R S:Rm):Prop:= ∀a b o,(own a->b≠ .it)->R.kp b a o->S.kp b a o
theorem uH{own:ai->Prop}{R S:Rm}(c: ∀b,¬own b->S b=R b)(ho: ∀b,own b-> ∃o,R.kp .it b o):lZ own R S:=λa b o n e=>(GU<|own a).elim (λz=>(ho a z).elim λp q=>absurd (jX e q).1<|n z) λz=>(c a z).trans e
theorem lZ.fl{own}{R S}(h:lZ own R S):R.fl S:=λa o e=>h a .fr o (λ_ z=>fU z) e
noncomputable def xS(own:ai->Prop)(at_:List V->Rm->Prop)(σ:St x)(Q:Option au->bA->Prop):List V->Prop
 |[]=> ∀τ:St x,τ.A=σ.A->lZ own σ.R τ.R->Q Y τ.s
 |v::r=> ∀(τ:St x) w,τ.A=σ.A->lZ own σ.R τ.R->at_ r τ.R->ax τ.R v w->Q (U w) τ.s
structure qh(tg:Expr)(it:au)(g:H->Prop) where
 own:ai->Prop
 at_:List V->Rm->Prop
 keep: ∀{r R S},(∀a b o,b≠ .own->R.kp b a o->S.kp b a o)->at_ r R->at_ r S
 self:Ee tg-> ∀{x:Cx} {Ar:cV} (σ:St x) r (Q:au->bA->Prop),Ar.handled=Y->at_ r σ.R->g σ.A->Q it σ.s->aw (M x) Ar (jF it) Q N0 σ.s
 next: ∀{x:Cx} {Ar:cV} (σ:St x) r (Q:Option au->bA->Prop),Ar.handled=Y->at_ r σ.R->g σ.A->xS own at_ σ Q r->
  aw (M x) Ar (A_ it) (λq s=>match q with
   |none=>Q Y s
   |some v=>aw (M x) Ar (G3 tg it v) (λ_ s'=>Q (U v) s') N0 s) N0 σ.s
inductive PI (σ:St x) (tg:Expr) (K:It) (it:au):bA->Prop
 |mk (τ:St x) (xs:List V) (g:H->Prop) (Iqv:qh tg it g):σ.le τ->(∀a b o,Iqv.own a-> ¬σ.R.kp b a o)->Iqv.at_ xs τ.R->K xs g τ.A->PI σ tg K it τ.s
theorem PI.aG{τ:St x}{j}{h}{s}(l:σ.le τ)(p:PI τ j K h s):PI σ j K h s:=
 p.casesOn λυ xs g Iqv l' n a k=>⟨υ,xs,g,Iqv,λ_ _ _ e=>l' _ _ _<|l _ _ _ e,λa b o w e=>n a b o w<|l _ _ _ e,a,k⟩
theorem PI.of{σ:St x}{own:ai->Prop}{at_:List V->Rm->Prop}{g}(τ:St x)(xs:List V)(keep: ∀{r R S},(∀a b o,b≠ .own->R.kp b a o->S.kp b a o)->at_ r R->at_ r S)
  (self:Ee j-> ∀{x:Cx} {Ar:cV} (σ:St x) r (Q:au->bA->Prop),Ar.handled=Y->at_ r σ.R->g σ.A->Q h σ.s->aw (M x) Ar (jF h) Q N0 σ.s)
  (next: ∀{x:Cx} {Ar:cV} (σ:St x) r (Q:Option au->bA->Prop),Ar.handled=Y->at_ r σ.R->g σ.A->xS own at_ σ Q r->
  aw (M x) Ar (A_ h) (λq s=>match q with
   |Y=>Q Y s
   |U v=>aw (M x) Ar (G3 j h v) (λ_ s'=>Q (U v) s') N0 s) N0 σ.s) (l:σ.le τ) (n: ∀a b o,own a-> ¬σ.R.kp b a o) (a:at_ xs τ.R) (k:K xs g τ.A):PI σ j K h τ.s:=
 ⟨τ,xs,g,⟨own,at_,keep,self,next⟩,l,n,a,k⟩
noncomputable abbrev EN:List String:=["enumerate","zip","dict_itemiterator","dict_reverseitemiterator","odict_iterator","itertools.zip_longest","itertools.pairwise"]
inductive i4:Expr->Prop
 |n (s:Str) (p:Pos):i4 (.Name s p)
 |t (es:List Expr) (k:Nat) (p:Pos):i4 (.Tuple es k p)
theorem Ts{j}{Iqv}{v}{o}{n}{s}{Q}(ht:i4 j)(e:s.heap.get? Iqv=U o)(hc:o.cls= .type n)(hn:EN.contains n=ae)(h:Q () s):aw (M x) Ar (G3 j (.ref Iqv) v) Q N0 s:=
 ht.casesOn (λ_ _=>bV h) λes k p=>by
  cases v with
  |ref a=>
   refine aF (RA e ?_)
   rw[hc]
   cases o.data with
   |fields vs=>dsimp only;rw[hn];exact bV h
   |_=>exact bV h
  |_=>exact bV h
inductive Wk (τ:St x) (Ar:cV) (Iqv:ai) (IsAt:Nat->Obj->Prop) (xs:List V):Prop
 |mk (fp:List ai) (n:Nat) (P:Nat->au->Prop) (Z:Nat->ct->Prop):u9 x.T.prog x.T.w Ar Iqv fp [Iqv] n P Z->n=xs.length->(∀i h,Z i h-> ∃o,h.get? Iqv=U o/\IsAt i o)->(∀i o,IsAt i o->τ.s.heap.get? Iqv=U o->Z i τ.s.heap)->
   (∀i v w,ah xs i=U v->P i w->ax τ.R v w)->Wk τ Ar Iqv IsAt xs
noncomputable def Rm.d2(R:Rm)(a:ai):Rm:=λb=>if b=a then Y else R b
theorem IN{α}: ∀(l:List α) (i:Nat),ah l i=(l.drop i).head?
 |[],_=>by rw[RJ];rfl
 |_::_,0=>rfl
 |_::l,i+1=>IN l i
theorem YA{α}{l r}{v:α}{i}(e:l.drop i=v::r):l.drop (i+1)=r/\ah l i=U v/\i <l.length:=
 ⟨by rw[<-List.drop_drop,e];rfl,(IN l i).trans<|aA List.head? e,Nat.lt_of_not_le λq=>nomatch(aZ4 q).symm.trans e⟩
theorem xS.el{own at_}{l:List V}{i Q}{X:Prop}(t:xS own at_ σ Q<|l.drop i)(nil:l.length<=i->(∀τ:St x,τ.A=σ.A->lZ own σ.R τ.R->Q Y τ.s)->X)
  (cons: ∀v,ah l i=U v->i <l.length->(∀(τ:St x) w,τ.A=σ.A->lZ own σ.R τ.R->at_ (l.drop<|i+1) τ.R->ax τ.R v w->Q (U w) τ.s)->X):X:=by
 cases e:l.drop i with
 |nil=>
  rw[e] at t
  exact nil (List.drop_eq_nil_iff.mp e) t
 |cons v r=>
  have d:=YA e
  rw[e,<-d.1] at t
  exact cons v d.2.1 d.2.2 t
inductive Nq (S:Rm) (Iqv:ai) (IsAt:Nat->Obj->Prop) (xs:List V) (R:Rm):List V->Prop
 |mk (i:Nat) (o:Obj):S.fl R->i<=xs.length->IsAt i o->R.kp .it Iqv o->Nq S Iqv IsAt xs R (xs.drop i)
def St.iter(σ:St x)(o:Obj)(hf:o.isFreed=ae):St x:=σ.to (σ.R.bw σ.s.heap.objs.size<|.kp .it o) σ.A (σ.s.heap.push o) σ.s.toks (σ.bg.keep o hf .it) (σ.dQ _)
theorem PI.bq{j}{n}(IsAt:Nat->Obj->Prop){xs}{g:H->Prop}{o}(ht:i4 j)(hn:EN.contains n=ae)(hf:o.isFreed=ae)(cls: ∀i o,IsAt i o->o.cls= .type n)(h0:IsAt 0 o)
  (wk: ∀{y} {Ar:cV} (τ:St y),Ar.handled=Y->σ.R.fl τ.R->g τ.A->Wk τ Ar σ.s.heap.objs.size IsAt xs) (k:K xs g σ.A):PI σ j K (.ref σ.s.heap.objs.size) {σ.s with heap:=σ.s.heap.push o}:=
 .of (own:=(· =σ.s.heap.objs.size)) (at_:=λr R=>Nq σ.R σ.s.heap.objs.size IsAt xs R r) (σ.iter o hf) xs
  (λk h=>h.casesOn λi o f le a e=>⟨i,o,λa o e=>k a _ o (λz=>fU z)<|f a o e,le,a,k _ _ _ (λz=>fU z) e⟩)
  (λ_ _ _ τ r Q hh h ga q=>h.casesOn λi o f le a e=>(wk τ hh f ga).casesOn λD n P Z W _ _ st _=>W.self i τ.s Q N0 (st i o a<|τ.at e) q)
  (λτ r Q hh h ga=>h.casesOn λi o f le a e t=>(wk τ hh f ga).casesOn λD m P Z W hm live st u=>
   have z:=st i o a (τ.at e)
   have fr: ∀b,b=σ.s.heap.objs.size-> ∃o,τ.R.kp .it b o:=λb z=>⟨o,z▸e⟩
   t.el (λs t=>W.done τ.s _ N0 ((aZ5 le s).trans hm.symm▸z) λhp tk k=>
    t (τ.qB (τ.R.d2 σ.s.heap.objs.size) hp tk (· =σ.s.heap.objs.size) (λb z=>aE z) (λb o n=>k b o λz=>n<|b9.mp z) fr (λb c o z e=>bH <|(aM z).symm.trans e) λb z _=>aM z) rfl<|uH (λb z=>aE z) fr)
   λv ev lt t=>W.item i τ.s _ N0 (hm.symm▸lt) z λw hp tk p A k=>(live _ _ A).elim λo' l=>
    have fl: ∀a b p,b≠ .it->τ.R.kp b a p->(τ.R.bw σ.s.heap.objs.size<|.kp .it o').kp b a p:=λa b p nb z=>(Rm.cQ λq=>nb (jX (iL q.symm z) e).1).trans z
    have fl':τ.R.fl<|τ.R.bw σ.s.heap.objs.size<|.kp .it o':=λa p e=>fl a .fr p (λz=>fU z) e
    Ts ht l.1 (cls _ _ l.2) hn (t (τ.qB (τ.R.bw σ.s.heap.objs.size<|.kp .it o') hp tk (· =σ.s.heap.objs.size) (λb=>Rm.cQ) (λb o n=>k b o λz=>n<|b9.mp z) fr
     (λb c o z e=>by subst z;cases(Rm.cN ..).symm.trans e;exact l.1) λb z q=>bQ <|(z▸q).symm.trans l.1) w rfl (uH (λb=>Rm.cQ) fr)
     ⟨i+1,o',λa p e=>fl' a p<|f a p e,lt,l.2,Rm.cN ..⟩<|(u i v w ev p).aG fl'))
  (σ.dQ _) (λa b o w e=>bQ <|σ.new.symm.trans<|(aA σ.R w).symm.trans e) ⟨0,o,(σ.dQ _).fl,j3 _,h0,Rm.cN ..⟩ k
end
theorem qJ{α β}(f:α->β): ∀(l:List α) (i:Nat),ah (l.map f) i=(ah l i).map f
 |[],_=>rfl
 |_::_,0=>rfl
 |_::r,i+1=>qJ f r i
theorem HL{R}{vs}{a}(r:aV R vs a){i}{v}{w}(h:ah vs i=U v)(q:a.toArray[i]? =U w):ax R v w:=r.ah h λb e p=>by rw[u1] at q;cases e.symm.trans q;exact p
section
variable{σ:St x}{K:It}
abbrev ug(n:String)(l:au)(i:Nat)(o:Obj):Prop:=o.cls= .type n/\o.data= .fields #[l,.int i 0]
theorem P0{l}{xs}{a}{n}{g}(ht:i4 h)(e:σ.s.heap.get? l=U (cy a n))
  (zh: ∀{y} (τ:St y) {G:Prop},σ.R.fl τ.R->g τ.A->(∀a n,τ.s.heap.get? l=U (cy a n)->aV τ.R xs a->G)->G) (k:K xs g σ.A):aw (M x) Ar (jF<|.ref l) (PI σ h K) N0 σ.s:=
 R4 ⟨_,e,rfl,n,rfl⟩ (.bq (ug "list_iterator"<|.ref l) ht dd rfl (λ_ _ q=>q.1) ⟨rfl,rfl⟩ (λτ hh fl ga=>zh τ fl ga λb c e' r'=>
  ⟨_,_,_,_,u9.list hh σ.s.heap.objs.size l (jE<|g9 e) b.toArray,r'.length,λ_ _ z=>z.1,λi o q eo=>⟨⟨o,eo,q⟩,⟨_,e',rfl,c,rfl⟩⟩,λi v w h1 h2=>HL r' h1 h2⟩) k)
theorem af6{l}{xs}{a}{n}(ht:i4 h)(e:σ.R.is l<|gU a n)(r:aV σ.R xs a)(k:K xs bP σ.A):aw (M x) Ar (jF<|.ref l) (PI σ h K) N0 σ.s:=
 R5 ⟨_,σ.at e,rfl,n,rfl⟩ (.bq (ug "tuple_iterator"<|.ref l) ht dd rfl (λ_ _ q=>q.1) ⟨rfl,rfl⟩ (λτ hh fl ga=>
  ⟨_,_,_,_,R6 hh σ.s.heap.objs.size l (jE<|g9<|σ.at e) a.toArray,r.length,λ_ _ z=>z.1,λi o q eo=>⟨⟨o,eo,q⟩,⟨_,τ.at<|fl _ _ e,rfl,n,rfl⟩⟩,λi v w h1 h2=>HL (r.aG fl) h1 h2⟩) k)
theorem am5{b}{t}{l}(ht:i4 a)(eb:jL b=l)(k:K (vi l) bP σ.A):aw (M x) Ar (jF<|.bytes b t) (PI σ a K) N0 σ.s:=
 aZ6 (.bq (ug "bytes_iterator"<|.bytes b t) ht dd rfl (λ_ _ q=>q.1) ⟨rfl,rfl⟩ (λτ hh fl ga=>
  ⟨_,_,_,_,aZ7 hh σ.s.heap.objs.size b t,by subst eb;rw[vi,jL,bN,bN,sX],λ_ _ z=>z,λi o q eo=>⟨o,eo,q⟩,λi v w h1 h2=>h2.elim λc h2=>h2.elim λu h2=>by
   subst eb
   rw[vi,jL,qJ,qJ,lK,sW,h2.1] at h1
   cases h1;rw[h2.2];exact .int _ _⟩) k)
theorem Y1{y}{t}(ht:i4 a)(k:K (y.cps.toList.map λc=>V.str ⟨#[c]⟩) bP σ.A):aw (M x) Ar (jF<|.str y t) (PI σ a K) N0 σ.s:=by
 have main: ∀(n),EN.contains n=ae->(∀{z:Cx} {Ar:cV},Ar.handled=Y->u9 z.T.prog z.T.w Ar σ.s.heap.objs.size [σ.s.heap.objs.size] [σ.s.heap.objs.size] y.cps.size (SignAt y) λi h=>h.IsStrIter σ.s.heap.objs.size n y t i)->
   PI σ a K (.ref σ.s.heap.objs.size) {σ.s with heap:=σ.s.heap.push {cls:= .type n,data:= .fields #[.str y t,.int 0 0]}}:=λn hn W=>
  .bq (ug n<|.str y t) ht hn rfl (λ_ _ q=>q.1) ⟨rfl,rfl⟩ (λτ hh fl ga=>⟨_,_,_,_,W hh,by rw[bN,sX],λ_ _ z=>z,λi o q eo=>⟨o,eo,q⟩,λi v w h1 h2=>h2.elim λc h2=>h2.elim λu h2=>by
   rw[qJ,lK,sW,h2.1] at h1
   cases h1;rw[h2.2];exact .str _ _⟩) k
 cases ha:y.cps.all (· <128)
 ·exact wpAny_pyIter_wide ha (main "str_iterator" dd λhh=>u9.strWide hh _ y t)
 ·exact wpAny_pyIter_ascii ha (main "str_ascii_iterator" dd λhh=>u9.strAscii hh _ y t)
theorem i5{h:ct}{d n:Nat}{ds}{a}{R}(e:h.get? d=U (gi (fY ds a) n))(nd:(dI ds).Nodup)(r:dE R ds a):h.DictAt (ik x) d (kv ds a) n:=
 ⟨_,(fY ds a).toArray,e,⟨rfl,rfl,rfl⟩,rfl,λe he=>r.has e<|A0.mpr he,r.Mc,r.dI▸nd⟩
theorem dE.Ej{R}{ds}{j}{G:Prop}(r:dE R ds j): ∀(i:Nat) (a:Int×V),c6.ah ds i=U a->(∀w,(kv ds j)[i]? =U (a.1,w)->ax R a.2 w->G)->G:=r.rec (λ_ _ h=>bQ h) λ{a b _ _} p _ ih i=>match i with
 |0=>λc h k=>by cases h;exact k _ rfl p
 |i+1=>λc h k=>ih i c h k
theorem dE.ah{R}{ds}{j}{G:Prop}{i}{a}(r:dE R ds j)(h:c6.ah ds i=U a)(k: ∀w,(kv ds j)[i]? =U (a.1,w)->ax R a.2 w->G):G:=r.Ej i a h k
theorem HH{α β}{f}{l:List α}{i}{v:β}(h:ah (l.map f) i=U v): ∃a,ah l i=U a/\f a=v:=aZ8.mp ((qJ ..).symm.trans h)
theorem OD{R}{k}{w}(h:A4 k w=aa):ax R (.int k) w:=by
 cases w with
 |int i t=>rw[<-beq_iff_eq.mp h];exact .int ..
 |_=>nomatch h
theorem sp{R}{ds}{a}(r:dE R ds a):(kv ds a).length=ds.length:=r.rec rfl λ_ _=>aA (· +1)
theorem WR{d}{ds}{h}{n}(ht:i4 j)(e:σ.R.is d<|gi (fY ds h) n)(hm:(d==kL)=ae)(nd:(dI ds).Nodup)(r:dE σ.R ds h)(k:K (ds.map λe=>V.int e.1) bP σ.A):
  aw (M x) Ar (jF<|.ref d) (PI σ j K) N0 σ.s:=
 wpAny_pyIter_dict hm (i5 (σ.at e) nd r) (.bq (λi o=>o.cls= .type "dict_keyiterator"/\o.data= .fields #[.ref d,.int i 0,.int (kv ds h).length 0,.int n 0]) ht dd rfl (λ_ _ q=>q.1) ⟨rfl,rfl⟩ (λ{y Ar} τ hh fl ga=>
  ⟨_,_,_,_,u9.dictKeys hh σ.s.heap.objs.size d (jE<|g9<|σ.at e) (kv ds h) n,(sp r).trans (bN _).symm,λ_ _ z=>z.1,λi o q eo=>⟨⟨o,eo,q⟩,i5 (τ.at<|fl _ _ e) nd<|r.aG fl⟩,λi v w h1 h2=>
   h2.elim λc h2=>h2.elim λu h2=>(HH h1).elim λa h1=>r.ah h1.1 λf b _=>by
    cases b.symm.trans h2.1;exact h1.2▸OD h2.2⟩) k)
theorem tU: ∀(a s:Int) (n:Nat),(eh a s n).length=n
 |_,_,0=>rfl
 |a,s,n+1=>aA (· +1) (tU (a+s) s n)
theorem PJ: ∀(a s:Int) (n i:Nat) (v:V),ah (eh a s n) i=U v->v= .int (a+i*s)
 |_,_,0,_,_,h=>bQ h
 |a,s,n+1,0,v,h=>by cases h;rw[G4,Ra,eZ]
 |a,s,n+1,i+1,v,h=>by rw[PJ (a+s) s n i v h,R7,Q6,aS7,gp,iu s]
noncomputable abbrev aP2(a b c:Int):Obj:={cls:= .type "range_iterator",dict:=Y,data:= .fields #[Ba a,Ba b,Ba c],slots:= #[]}
theorem Em{r}{a b c}{t u v}{n:Nat}(ht:i4 h)(hr:IsRange σ.s.heap r a b c t u v)(hs:aZ9 a b c=aa)(hn:Bb a b c=n)(k:K (eh a c n) bP σ.A):
  aw (M x) Ar (jF<|.ref r) (PI σ h K) N0 σ.s:=
 wpAny_pyIter_range hr hs (.bq (n:="range_iterator") (λi o=>o=aP2 (a+(i)*c) ((n) -(i)) c) ht dd rfl (λ_ _ q=>by rw[q]) (by rw[hn,G4,Ra,eZ,a00]) (λτ hh fl ga=>
  ⟨_,_,_,_,u9.range hh σ.s.heap.objs.size a c n,(tU ..).symm,λ_ _ z=>⟨_,z,rfl⟩,λi o q eo=>by rw[q] at eo;exact eo,λi v w h1 h2=>h2.elim λt h2=>by rw[PJ _ _ _ _ _ h1,h2];exact .int _ _⟩) k)
end
section
variable{σ:St x}{K:It}{tg:Expr}
def St.TF(σ:St x){h:ct}(t:Nat)(e:σ.R.kp .it Iqv o)(e':h.get? Iqv=U a)(hh: ∀b o,b≠Iqv->σ.s.heap.get? b=U o->h.get? b=U o):St x:=
 σ.qB (σ.R.bw Iqv<|.kp .it a) h t (· =Iqv) (λb=>Rm.cQ) hh (λb z=>⟨o,z▸e⟩) (λb c o z q=>by subst z;cases(Rm.cN ..).symm.trans q;exact e') λb z q=>bQ <|(z▸q).symm.trans e'
theorem ak7{R:Rm}(e:R.kp .it Iqv o):R.fl<|R.bw Iqv<|.kp .it h:=λa p z=>(Rm.cQ λq=>fU (jX (iL q.symm z) e).1).trans z
def St.mL(σ:St x){h:ct}(t:Nat)(e:σ.R.kp .it Iqv o)(hh: ∀b o,b≠Iqv->σ.s.heap.get? b=U o->h.get? b=U o):St x:=
 σ.qB (σ.R.d2 Iqv) h t (· =Iqv) (λb z=>aE z) hh (λb z=>⟨o,z▸e⟩) (λb c o z e=>bH <|(aM z).symm.trans e) λb z _=>aM z
noncomputable abbrev Ov(d:ai)(m n:Nat)(i:Nat)(a b:au):Obj:={cls:= .type "dict_itemiterator",dict:=Y,data:= .fields #[.none,.bool ae,.ref d,.int i 0,.int m 0,.int n 0,a,b],slots:= #[]}
inductive P2 (S:Rm) (Iqv d:ai) (m n:Nat) (xs:List V) (R:Rm):List V->Prop
 |mk (i:Nat) (a b:au):S.fl R->R.kp .it Iqv (Ov d m n i a b)->P2 S Iqv d m n xs R (xs.drop i)
theorem S4(e:σ.R.is d<|gi (fY ds j) n)(nd:(dI ds).Nodup)(r:dE σ.R ds j)
  (hv:σ.s.heap.IsItemsView v d) (k:K (ds.map λe=>V.aj [.int e.1,e.2]) bP σ.A):aw (M x) Ar (jF<|.ref v) (PI σ (.Tuple y W X) K) N0 σ.s:=
 wpAny_pyIter_items hv (i5 (σ.at e) nd r) (.of (own:=(· =σ.s.heap.objs.size)) (at_:=λr R=>P2 σ.R σ.s.heap.objs.size d (kv ds j).length n (ds.map λe:Int×V=>V.aj [.int e.1,e.2]) R r) (σ.iter (Ov d (kv ds j).length n 0 .none .none) rfl) (ds.map λe=>V.aj [.int e.1,e.2])
   (λk h=>h.casesOn λi a b f e=>⟨i,a,b,λa o e=>k a _ o (λz=>fU z)<|f a o e,k _ _ _ (λz=>fU z) e⟩) (λz=>nomatch z)
   (λτ l Q hh h ga=>h.casesOn λi a b f h1 t=>
   have hm:=i5 (τ.at<|f _ _ e) nd (r.aG f)
   t.el (λc t=>wpAny_pyNext_items_end hh (τ.at h1) hm (List.getElem?_eq_none_iff.mpr<|(sp r).trans (bN _).symm▸c) λhp k=>t (τ.mL τ.s.toks h1 k) rfl<|uH (λb z=>aE z) λb z=>⟨_,z▸h1⟩)
   λu J lt t=>(HH J).elim λp hp=>(r.aG f).ah hp.1 λw e1 rw=>wpAny_pyNext_items_item (τ.at h1) hm e1 λkey A hkey g ht hsz hk=>
     wpAny_letOwnedTupleGo_items g λD hit2 sb=>
      have fl:=ak7 h1
      have s:=RX (g9<|τ.at h1)
      let υ:=τ.TF τ.s.toks h1 hit2 λb o nb q=>(sb.2 b nb).trans (hk b o nb q)
      have nn:=(Rm.cQ s).trans τ.new
      have iI:=(Rm.jd nn)
      t (υ.F3 nn<|(sb.2 _ s).trans ht) _ rfl (λa b o n e=>iI _ _ _<|uH (λb=>Rm.cQ) (λb z=>⟨_,z▸h1⟩) a b o n e) ⟨i+1,key,w,λa o e=>iI.fl a o<|fl _ _<|f a o e,iI _ _ _<|Rm.cN ..⟩
       (hp.2▸ .aj (Rm.cN ..) (.cons (OD hkey)<|.cons ((rw.aG fl).aG iI.fl) .nil)))
  (σ.dQ _) (λa b o w e=>bH <|σ.new.symm.trans<|(aA σ.R w).symm.trans e) ⟨0,.none,.none,(σ.dQ _).fl,Rm.cN ..⟩ k)
end
section
variable{E:au->bA->Prop}
theorem aj6{Q:au->bA->Prop}(he:R8 s.heap e a c u)(p:s.heap.IsListIter a l i)(hl:s.heap.IsList l h)(hx:h[i]? =U x)(hne:e≠a)
  (J: ∀hp,IsEnumOut hp e a (c+1) x s.heap.objs.size->hp.IsListIter a l (i+1)->hp.get? s.heap.objs.size=U {cls:= .type "tuple",data:= .seq #[.int c s.toks,x]}->
   (∀b o,b≠e->b≠a->s.heap.get? b=U o->hp.get? b=U o)->Q (.ref s.heap.objs.size) {s with heap:=hp,toks:=s.toks+1}):
  aw (fH prog w) A (iR.«enumerate.__next__» ⟨[.ref e],[]⟩) (λgI s'=> ∃v,gI= .done (.ret v)/\Q v s') E s:=by
 obtain⟨hp,g,d,tk,os⟩:=s
 have j:=g9 he
 show aw _ _ (field (.ref e) 2>>=_) _ _ _
 refine aF (G5 he rfl rfl<|wpAny_bind<|wpAny_nextOf_list_item p hl hx λp1 hit1 b1=> ?_)
 have b1:=b1
 have e1:=(b1.2 e hne).trans he
 refine aF (G5 e1 rfl rfl ?_)
 refine aF (G5 e1 rfl rfl ?_)
 refine aF (wpAny_mkInt ?_)
 refine aF (G6 e1 (by simp) λp2 e2 b2=> ?_)
 have e2:=e2
 have b2:=b2
 refine aF (G6 e2 (by simp) λp3 e3 b3=> ?_)
 have e3:=e3
 have b3:=b3
 have z3:p3.objs.size=hp.objs.size:=by rw[b3.1,b2.1,b1.1]
 refine aF (wpAny_newTuple ?_)
 have k4: ∀b o,b≠e->b≠a->hp.get? b=U o->(p3.push {cls:= .type "tuple",data:= .seq #[.int c tk,x]}).get? b=U o:=λb o f t y=>
  eA _ (by rw[b3.2 b f,b2.2 b f,b1.2 b t];exact y)
 have t4:(p3.push {cls:= .type "tuple",data:= .seq #[.int c tk,x]}).get? hp.objs.size=U {cls:= .type "tuple",data:= .seq #[.int c tk,x]}:=by rw[<-z3];exact g_ _ rfl
 have e4:R8 (p3.push {cls:= .type "tuple",data:= .seq #[.int c tk,x]}) e a (c+1) u:=eA _ e3
 have hit4:(p3.push {cls:= .type "tuple",data:= .seq #[.int c tk,x]}).IsListIter a l<|i+1:=by
  obtain⟨o,q,r⟩:=hit1
  exact⟨o,eA _ (by rw[b3.2 a hne.symm,b2.2 a hne.symm];exact q),r⟩
 rw[z3]
 generalize p3.push {cls:= .type "tuple",data:= .seq #[.int c tk,x]}=p4 at k4 t4 e4 hit4
 refine aF ?_
 unfold iR.SmallTypes.ownedTupleIsFree
 refine aF (G5 e4 rfl rfl<|wpAny_pure ?_)
 simp only[if_true]
 refine aF (wpAny_rule<|wpAny_bind<|wpAny_field e4 rfl rfl<|wpAny_bind<|wpAny_setField_rec e4 (by simp) λp5 e5 b5=> ?_)
 have e5:=e5
 have b5:=b5
 refine aF ?_
 unfold iR.SmallTypes.ownedTupleHandOut
 refine aF (G6 e5 (by simp) λK e6 b6=> ?_)
 have e6:=e6
 have b6:=b6
 refine G6 e6 (by simp) λD z b7=> ?_
 have z:=z
 have b7:=b7
 have up: ∀b,b≠e->D.get? b=p4.get? b:=λb q=>by rw[b7.2 b q,b6.2 b q,b5.2 b q]
 refine aF (wpAny_letGo<|wpAny_pure ⟨_,rfl,J D z ?_ ?_ λb o f t y=>by rw[up b f];exact k4 b o f t y⟩)
 ·obtain⟨o,q,r⟩:=hit4
  exact⟨o,by rw[up a hne.symm];exact q,r⟩
 ·rw[up _<|Nat.ne_of_gt j];exact t4
theorem aq1(he:R8 s.heap e j c p)(f:s.heap.IsListIter j l i)(hl:s.heap.IsList l h)(hx:h[i]? =U x)(hne:e≠j)
  (g: ∀hp,IsEnumOut hp e j (c+1) x s.heap.objs.size->hp.IsListIter j l (i+1)->hp.get? s.heap.objs.size=U {cls:= .type "tuple",data:= .seq #[.int c s.toks,x]}->
   (∀b o,b≠e->b≠j->s.heap.get? b=U o->hp.get? b=U o)->Q (U<|.ref s.heap.objs.size) {s with heap:=hp,toks:=s.toks+1}):
  aw (fH prog w) A (A_<|.ref e) Q E s:=by
 have hT:s.TypeIs (.ref e) "enumerate":=⟨_,he,rfl⟩
 unfold A_
 exact aF (wpAny_attempt (RL hT a01
  (GX a01 hT PySem.F.entry_enumerate_next (aj6 he f hl hx hne λhp a b c k=>bV<|g hp a b c k)<|PySem.F.args_enumerate_next_1 _)))
end
open AutoSeq1 (wpAny_loadPart')
theorem at3 a b:checkTypeCall "enumerate" ⟨[a,b],[]⟩=cF ():=by kernel_rfl
theorem aI8 a b:R9 "enumerate.__new__" ⟨[.type "enumerate",a,b],[]⟩=cF ():=by kernel_rfl
theorem aK1{E}(h: ∀b,Q b s):aw (fH prog w) A (iR.SmallTypes.calledThroughType cls) Q E s:=aF (wpAny_stack_any λst=>bV<|h _)
set_option maxHeartbeats 2000000 in
theorem Wb l items n c t(hc:iR.SmallTypes.fitsIndex c=aa):
  Meets (iR.«enumerate.__new__» ⟨[.type "enumerate",.ref l,.int c t],[]⟩) (λ_ R s=>s.heap.get? l=U {cls:= .type "list",dict:=Y,data:= .seq items n,slots:= #[]}/\
   R (.ok<|.ret<|.ref (s.heap.push {cls:= .type "list_iterator",data:= .fields #[.ref l,.int 0 0]}).objs.size)
    {s with heap:=(s.heap.push {cls:= .type "list_iterator",data:= .fields #[.ref l,.int 0 0]}).push {cls:= .type "enumerate",data:= .fields #[.none,.bool ae,.ref s.heap.objs.size,Ba c,.none,.none]}}):=
 .of_wp λprog w A R s h=>by
  obtain⟨hp,g,d,tk,os⟩:=s;obtain⟨hl,h⟩:=h
  have hsub:=sub_enumerate
  have hL:ct.IsList (bA.heap ⟨hp,g,d,tk,os⟩) l items:=⟨_,hl,rfl,n,rfl⟩
  wp_walk using R_ hl,aK1
  intro b
  cases b
  ·wp_walk using R_ hl,R4 hL
   exact⟨_,rfl,h⟩
  ·wp_walk using R_ hl,R4 hL
   exact⟨_,rfl,h⟩
section
variable{σ:St x}{K:It}
noncomputable abbrev vf(a:ai)(c:Int)(old:au):Obj:={cls:= .type "enumerate",dict:=Y,data:= .fields #[.none,.bool ae,.ref a,Ba c,.none,old],slots:= #[]}
theorem Ob: ∀l c i v,ah (mc c l) i=U v-> ∃u,ah l i=U u/\v= .aj [.int<|c+i,u]
 |[],_,_,_,h=>bQ <|h
 |u::_,c,0,v,h=>⟨u,rfl,by cases h;rw[G4,eZ]⟩
 |_::r,c,i+1,v,h=>(Ob r (c+1) i v h).imp λu q=>⟨q.1,by rw[q.2,R7,gp,iu 1]⟩
theorem DH: ∀l c,(mc c l).length=l.length
 |[],_=>rfl
 |_::r,c=>aA (· +1) (DH r<|c+1)
theorem ax.eq(e:v=u)(r:ax R u w):ax R v w:=e▸r
noncomputable def Rm.dT(R:Rm)(a b:ai)(r q:Option Rl):Rm:=λc=>if c=a then r else if c=b then q else R c
theorem Rm.um{R:Rm}(n: ¬(c=a\/c=b)):R.dT a b r q c=R c:=(aE λz=>n<|.inl z).trans (aE λz=>n<|.inr z)
theorem Rm.zf{R:Rm}:R.dT a b r q a=r:=aM rfl
theorem Rm.yZ{R:Rm}(n:b≠a):R.dT a b r q b=q:=(aE n).trans (aM rfl)
theorem WV{R:Rm}(e:R.kp .it a o)(f:R.kp .it b p):R.fl<|R.dT a b r q:=λc d z=>(Rm.um λy=>y.elim (λy=>fU (jX (iL y.symm z) e).1) λy=>fU (jX (iL y.symm z) f).1).trans z
def St.YZ(σ:St x){h:ct}(t:Nat)(n:b≠a)(e:σ.R.kp .it a o)(f:σ.R.kp .it b p)(e':h.get? a=U j)(g:h.get? b=U l)(hh: ∀c o,¬(c=a\/c=b)->σ.s.heap.get? c=U o->h.get? c=U o):St x:=
 σ.qB (σ.R.dT a b (U<|.kp .it j)<|U<|.kp .it l) h t (λc=>c=a\/c=b) (λc=>Rm.um) hh (λc z=>z.elim (λz=>⟨o,z▸e⟩) λz=>⟨p,z▸f⟩)
  (λc d q z y=>z.elim (λz=>by subst z;cases Rm.zf.symm.trans y;exact e') λz=>by subst z;cases(Rm.yZ n).symm.trans y;exact g)
  λc z y=>z.elim (λz=>bQ <|(z▸y).symm.trans e') λz=>bQ <|(z▸y).symm.trans g
def St.YK(σ:St x){h:ct}(t:Nat)(n:b≠a)(e:σ.R.kp .it a o)(f:σ.R.kp .it b p)(hh: ∀c o,¬(c=a\/c=b)->σ.s.heap.get? c=U o->h.get? c=U o):St x:=
 σ.qB (σ.R.dT a b Y Y) h t (λc=>c=a\/c=b) (λc=>Rm.um) hh (λc z=>z.elim (λz=>⟨o,z▸e⟩) λz=>⟨p,z▸f⟩)
  (λc d q z y=>z.elim (λz=>by subst z;cases Rm.zf.symm.trans y) λz=>by subst z;cases(Rm.yZ n).symm.trans y)
  λc z y=>z.elim (λz=>z▸Rm.zf) λz=>by subst z;exact Rm.yZ n
inductive N_ (S:Rm) (a b l:ai) (c:Int) (xs:List V) (R:Rm):List V->Prop
 |mk (i:Nat) (old:au) (o:Obj):S.fl R->R.kp .it a (vf b (c+i) old)->R.kp .it b o->ug "list_iterator" (.ref l) i o->i<=xs.length->N_ S a b l c xs R ((mc c xs).drop i)
theorem OY{hp:ct}(el:σ.R.is l<|cy X n)(r:aV σ.R xs X)
  (he:hp.get? (σ.s.heap.objs.size+1)=U (vf σ.s.heap.objs.size c .none)) (hi:hp.get? σ.s.heap.objs.size=U W) (hf:ug "list_iterator" (.ref l) 0 W) (hk: ∀b o,σ.s.heap.get? b=U o->hp.get? b=U o) (k:K (mc c xs) bP σ.A):
  aw (M x) Ar (jF<|.ref<|σ.s.heap.objs.size+1) (PI σ (.Tuple elts kk tp) K) N0 {σ.s with heap:=hp}:=
 have n0:=(s_ _).symm
 have new:=λa z=>σ.bg.dm a (z.elim (λz=>z▸jj _) λz=>z▸dO _)
 have N:=jE (g9<|σ.at el)
 have l1:=(Rm.jd<|new _<|.inl rfl)
 have e1:=(Rm.cQ n0).trans (new _<|.inr rfl)
 have l2:=(Rm.jd e1)
 have ll:σ.R.le<|(σ.R.bw (σ.s.heap.objs.size+1)<|.kp .it<|vf σ.s.heap.objs.size c .none).bw σ.s.heap.objs.size<|.kp .it W:=λa b o z=>l2 _ _ _ (l1 _ _ _ z)
 have m1:=σ.bg.mW _ he (λb o _=>hk b o) (σ.bg.j9 λz=>bH <|(new _<|.inl rfl).symm.trans z) (λ_ z=>bH <|(new _<|.inl rfl).symm.trans z) λ_ z=>bH <|(new _<|.inl rfl).symm.trans z
 wpAny_pyIter_enum he (.of (own:=λa=>a=σ.s.heap.objs.size+1\/a=σ.s.heap.objs.size) (at_:=λr R=>N_ σ.R (σ.s.heap.objs.size+1) σ.s.heap.objs.size l c xs R r)
   (σ.to _ σ.A hp σ.s.toks (m1.mW _ hi (λb o _=>id) (m1.j9 λz=>bH <|e1.symm.trans z) (λ_ z=>bH <|e1.symm.trans z) λ_ z=>bH <|e1.symm.trans z) ll) (mc c xs)
   (λk h=>h.casesOn λi a o f ha hb hi le=>⟨i,a,o,λa o e=>k a _ o (λz=>fU z)<|f a o e,k _ _ _ (λz=>fU z) ha,k _ _ _ (λz=>fU z) hb,hi,le⟩) (λz=>nomatch z)
   (λ{y Ar} τ q Q hh h ga=>h.casesOn λi a b f ha hb hi le t=>
   have j:=⟨b,τ.at hb,hi⟩
   have hl:=⟨_,τ.at<|f _ _ el,rfl,n,rfl⟩
   have ho: ∀b,b=σ.s.heap.objs.size+1\/b=σ.s.heap.objs.size-> ∃o,τ.R.kp .it b o:=λb z=>z.elim (λz=>⟨_,z▸ha⟩) λz=>⟨_,z▸hb⟩
   t.el (λd t=>wpAny_pyNext_enum_endD (Draws.list (A:=Ar.in1) hh σ.s.heap.objs.size l N X.toArray) (τ.at ha) ⟨((j4.trans r.length).trans<|aZ5 (DH xs c▸d) le).symm▸j,hl⟩ λhp k=>
    t (τ.YK τ.s.toks n0 ha hb λb o nb=>k b o λz=>nb<|.inr z) rfl<|uH (λb=>Rm.um) ho)
   λu eu lt t=>(Ob xs c i u eu).elim λp hp=>(r.aG f).ah hp.1 λw e1 rw=>aq1 (τ.at ha) j hl (u1.trans e1) (s_ _) λT J hit2 ht hk=>
     wpAny_letOwnedTupleGo_enum J λZ D sb=>hit2.elim λs g=>
      have nT: ∀{a o},τ.R.kp .it a o->τ.s.heap.objs.size≠a:=λz=>RX (g9<|τ.at z)
      have e5:c+(i)+1=c+((i+1:Nat)):=by rw[R7,gp]
      let υ:=τ.YZ (τ.s.toks+1) n0 ha hb D ((sb.2 _ n0).trans g.1) λb o nb q=>(sb.2 b λz=>nb<|.inl z).trans (hk b o (λz=>nb<|.inl z) (λz=>nb<|.inr z) q)
      have nn:=(Rm.um λz=>z.elim (nT ha)<|nT hb).trans τ.new
      have fl:=WV ha hb
      have iI:=(Rm.jd (r:= .kp .fr<|gU [.int (c+(i)) τ.s.toks,w] 0) nn)
      t (υ.F3 nn<|(sb.2 _<|nT ha).trans ht) _ rfl (λa b o n e=>iI _ _ _<|uH (λb=>Rm.um) ho a b o n e) ⟨i+1,w,s,λa o e=>iI.fl a o<|fl _ _<|f a o e,e5▸iI _ _ _ Rm.zf,iI _ _ _<|Rm.yZ n0,g.2,DH xs c▸lt⟩
       (ax.eq hp.2<|.aj (Rm.cN ..)<|.cons (.int ..)<|.cons ((rw.aG fl).aG iI.fl) .nil))
  ll (λa b o w e=>bH <|(new a w).symm.trans e) ⟨0,.none,W,ll.fl,by rw[G4,eZ];exact l2 _ _ _<|Rm.cN ..,Rm.cN ..,hf,j3 _⟩ k)
end
theorem yk(h: -4611686018427387904<=i)(q:i<=4611686018427387904):a02 i=aa:=fT.mpr ⟨decide_eq_true<|az dd h,decide_eq_true<|g7 q dd⟩
theorem LZ{n c:Int}(hn:0 <n)(hc:0 <c)(hl:n<=2199023255552):0<=(n -1)/c+1/\(n -1)/c+1<=2199023255552:=
 have h:=aQ1 hn
 ⟨GH (xk h<|eR hc) dd,az (Int.add_le_of_le_sub_right<|Q4 c h) hl⟩
theorem Ib(ha:ir a)(hb:ir b)(h0:c≠0):0<=Bb a b c/\Bb a b c<=2199023255552:=by
 unfold Bb
 refine if h:c>0 then ?_ else ?_
 ·rw[aM h]
  exact if q:a <b then by rw[aM q];exact LZ (a03 q) h (az (xi hb.2 ha.1) dd) else by rw[aE q];decide
 ·rw[aE h]
  exact if q:a>b then by rw[aM q];exact LZ (a03 q) (Int.neg_pos_of_neg<|Int.lt_iff_le_and_ne.mpr ⟨fF.mp h,h0⟩) (az (xi ha.2 hb.1) dd) else by rw[aE q];decide
theorem CL(ha:ir a)(hb:ir b)(hc: -1000<=c/\c<=1000)(h0:c≠0):aZ9 a b c=aa:=
 have f: ∀{i:Int},ir i->a02 i=aa:=λh=>yk (az dd h.1) (az h.2 dd)
 have z:=Ib ha hb h0
 fT.mpr ⟨fT.mpr ⟨fT.mpr ⟨fT.mpr ⟨f ha,f hb⟩,f ⟨az dd hc.1,az hc.2 dd⟩⟩,yk (az dd z.1)<|az z.2 dd⟩,
  xj.mpr (.inr (if h:c>0 then(aM h).trans (yk (az dd<|fS hb.1<|Rc hc.1 1)<|az (fS hb.2<|Rc hc.2 1) dd)
   else(aE h).trans<|yk (az dd<|fS hb.1<|g8 hc.1 1)<|az (fS hb.2<|g8 hc.2 1) dd))⟩
theorem Cb(ha:ir a)(hb:ir b)(h0:c≠0):Bb a b c=(rt a b c:Int):=(Rf (Ib ha hb h0).1).symm
theorem KF a b:rt a b 1=(b -a).toNat:=by
 unfold rt
 rw[aM dd,GE]
 exact if q:a <b then by rw[aM q,Re] else by rw[aE q,Int.toNat_of_nonpos<|Int.sub_nonpos_of_le<|fF.mp q];rfl
section
variable{σ:St x}{K:It}{tg:Expr}{vs:List V}
theorem Cm{τ:St x}(l:σ.le τ)(h:aw (M x) Ar (jF a) (PI τ tg K) N0 τ.s):aw (M x) Ar (jF a) (PI σ tg K) N0 τ.s:=bx h (λ_ _ p=>p.aG l) λ_ _=>id
theorem Lm(ht:i4 tg)(h:hY σ.A K v)(r:ax σ.R v w):aw (M x) Ar (jF w) (PI σ tg K) N0 σ.s:=
 hY.casesOn h (λk r=>r.of λws a n e r=>af6 ht e r k)
  (λk r=>r.of λws a n e r=>P0 ht (σ.at e) (λτ _ fl _ q=>q ws n (τ.at<|fl _ _ e)<|r.aG fl) k) (λk r=>r.of λb t e=>am5 ht e k) (λk r=>r.of λt=>Y1 ht k)
  (λ_ k r=>r.of λc a n e hm nd r=>WR ht e hm nd r k) (λe k r=>r.of<|σ.gV e λws n e' _=>P0 ht e' (λτ _ _ e q=>τ.gV e q) k) r
theorem LJ(h:0<=a)(q:a<=1099511627776):ir a:=⟨az dd h,q⟩
theorem ah9(ht:i4 tg)(h:jT σ.A K vs)(r:aV σ.R vs j):aw (M x) Ar (call (.type "range") j) (λw s=>aw (M x) Ar (jF w) (PI σ tg K) N0 s) N0 σ.s:=
 jT.casesOn h
  (λ{b} hb k r=>r.bq λw r=>r.of λt=>call_range_1<|Cm (τ:=(σ.oS _).ke _) (Rm.le_refl _)<|Em ht (Sa ..) (CL (LJ (aU 0) dd) hb dd dd) (Cb (LJ (aU 0) dd) hb dd)<|by rw[KF,a00];exact k)
  (λ{a b} ha hb k r=>r.of λw j r1 r=>r.bq λw2 r2=>r1.of λt=>r2.of λu=>call_range_2<|Cm (τ:=(σ.oS _).ke _) (Rm.le_refl _)<|Em ht (Sa ..) (CL ha hb dd dd) (Cb ha hb dd)<|by rw[KF];exact k)
  (λ{a b c} ha hb hc h0 k r=>r.of λw j r1 r=>r.of λw2 j r2 r=>r.bq λw3 r3=>r1.of λt=>r2.of λu=>r3.of λv=>call_range_3 h0 (Cm (τ:=(σ.oS _).ke _) (Rm.le_refl _)<|Em ht (Sa ..) (CL ha hb hc h0) (Cb ha hb h0) k)
   (.inl<|aU1<|mm.mp<|by have:=hc;lia)) r
theorem aE0{l n:Nat}{s}(hc:ir c)(e:s.heap.get? l=U (cy j n))
  (h: ∀hp,hp.get? (s.heap.objs.size+1)=U (vf s.heap.objs.size c .none)->hp.get? s.heap.objs.size=U {cls:= .type "list_iterator",data:= .fields #[.ref l,.int 0 0]}->(∀b o,s.heap.get? b=U o->hp.get? b=U o)->Q (.ref<|s.heap.objs.size+1) {s with heap:=hp}):
  aw (M x) Ar (call (.type "enumerate") [.ref l,.int c t]) Q N0 s:=by
 refine callType_new PySem.F.called_enumerate dd (at3 _ _) (aI8 _ _) (λa=>PySem.F.initArgs_range_2 a _ _) PySem.F.entry_enumerate_new (Wb l j.toArray n c t<|fT.mpr ⟨decide_eq_true<|az dd hc.1,decide_eq_true<|g7 hc.2 dd⟩) ⟨e,?_⟩
 have hz:(s.heap.push {cls:= .type "list_iterator",data:= .fields #[.ref l,.int 0 0]}).objs.size=s.heap.objs.size+1:=s9 ..
 have he:=g_ (s.heap.push {cls:= .type "list_iterator",data:= .fields #[.ref l,.int 0 0]}) (o:=vf s.heap.objs.size c .none) rfl
 refine(?_)
 rw[hz] at he⊢
 exact⟨⟨_,he,rfl⟩,h _ he (eA _<|g_ _ rfl) λb o q=>eA _<|eA _ q⟩
theorem T9(h:kU σ.A K vs)(r:aV σ.R vs j):aw (M x) Ar (call (.type "enumerate") j) (λw s=>aw (M x) Ar (jF w) (PI σ (.Tuple o p u) K) N0 s) N0 σ.s:=
 kU.casesOn h
  (λ{l} k r=>r.bq λw r=>r.of λus a n e r=>call_enumerate_1 (σ.at e) λhp h1 h2 _ hk=>h2.elim λb h2=>OY e r h1 h2.1 h2.2 hk k)
  (λ{l c} hc k r=>r.of λw j r1 r=>r.bq λw2 r2=>r1.of λus a n e r=>r2.of λt=>aE0 hc (σ.at e) λhp h1 h2 hk=>OY e r h1 h2 ⟨rfl,rfl⟩ hk k) r
end
open AutoSeq1 (wpAny_loadPart')
def pj(b:Array UInt8)(i:Nat)(v:au):Prop:= ∃c u,b[i]? =U c/\v= .int (c.toNat:Int) u
section
variable{prog:qN}{w:kJ}{A:cV}{E:au->bA->Prop}{s:bA}
theorem Oz(hh:A.handled=Y) b t S res c₀(hS:s.heap.get? S=U {cls:= .type "list",data:= .seq #[] c₀})
  (h: ∀hp tk acc c,(∀a o,a≠S->s.heap.get? a=U o->hp.get? a=U o)->hp.get? S=U {cls:= .type "list",dict:=Y,data:= .seq acc c,slots:= #[]}->
   pG (pj b) acc b.size->R (.ok<|.ret res) {s with heap:=hp,toks:=tk}) (hn:b.size<=jD):
  aw (fH prog w) A.in1 (Sb (.ref S) (.bytes b t) res)
   (λgI s'=>match gI with|.done f=>R (.ok f) s'|.again c'=>c'.quiet=aa/\n9 (fH prog w) A c' R s') (λe s'=>R (.error e) s') s:=by
 have ne:=λhm=>jE (g9 hS) (b9.mp hm)
 unfold Sb
 refine aF (Sc (qZ _ _ _) ?_)
 have h1:iR.List.listSameRef (.ref S) (.bytes b t)=ae:=rfl
 have h2:(G7 "bytes"==G7 "list")=ae:=dd
 have h3:(G7 "bytes"==G7 "tuple")=ae:=dd
 simp only[h1,h2,h3,Bool.or_false,a04,if_false]
 refine aF (aZ6<|aF<|e7 ?_)
 unfold iR.List.listLengthHint
 refine aF (aW2 (qZ _ _ _) FB.slot_bytes_len.lookup ?_)
 wp_delta
 refine aF (wpAny_isInstance (b:=aa) (qZ _ _ _) (by rw[a05];kernel_rfl) ?_)
 refine aF (Sc (qZ _ _ _)<|bV ?_)
 rw[aE dd]
 refine bV ⟨Sd F.plain_extend_loop _,codeAny_extend_loopS (aZ7 (A:=A.in1) hh s.heap.objs.size b t).toS hn _ ne _ b.size 0 _ _ _ rfl (j3 _) ⟨_,g_ _ rfl,rfl,rfl⟩ (eA _ hS) (pG.nil _) λs' acc c hm g hacc=> ?_⟩
 rw[Moved.eq_with hm]
 refine h s'.heap s'.toks acc c (λa ob ha e=>hm.heap a ob (λhmem=> ?_)<|eA _ e) g hacc
 rcases bB.mp hmem with e'|hmem
 ·exact ha e'
 ·exact absurd (g9 e) (by rw[b9.mp hmem];exact RM _)
end
section
variable{prog:qN}{w:kJ}{A:cV}{E:au->bA->Prop}{s:bA}
theorem aa1(hh:A.handled=Y) b t S(hS:s.heap.get? S=U {cls:= .type "list",data:= .seq #[]})
  (i: ∀hp tk acc c,(∀a o,a≠S->s.heap.get? a=U o->hp.get? a=U o)->hp.get? S=U {cls:= .type "list",dict:=Y,data:= .seq acc c,slots:= #[]}->
   pG (pj b) acc b.size->R (.ok<|.ret .none) {s with heap:=hp,toks:=tk}) (hn:b.size<=jD):
  aw (fH prog w) A.in1 (iR.«list.__init__» ⟨[.ref S,.bytes b t],[]⟩)
   (λgI s'=>match gI with|.done f=>R (.ok f) s'|.again c'=>c'.quiet=aa/\n9 (fH prog w) A c' R s') (λe s'=>R (.error e) s') s:=by
 refine aF ?_
 unfold iR.List.listItems
 refine aF (RV hS rfl<|bV ?_)
 show aw _ _ (updateSeq S (λ_=> #[]) >>=λ_=>letGo (#[]).toList.reverse>>=λ_=>Sb (.ref S) (.bytes b t) .none) _ _ s
 refine aF (wpAny_updateSeq hS rfl ?_)
 have g:=uW (u8 λ_=>(#[])) hS rfl
 refine aF (wpAny_letGo ?_)
 refine Oz hh b t S .none _ g (λhp tk acc c hk h hacc=> ?_) hn
 exact i hp tk acc c (λa o ha e=>hk a o ha<|(ct.get?_update_other _ _<|AT ha).trans e) h hacc
theorem ay0(hh:A.handled=Y) b t(hn:b.size<=jD)
  (i: ∀hp tk acc c,(∀a o,s.heap.get? a=U o->hp.get? a=U o)->
   hp.get? s.heap.objs.size=U {cls:= .type "list",dict:=Y,data:= .seq acc c,slots:= #[]}->pG (pj b) acc b.size->Q (.ref s.heap.objs.size) {s with heap:=hp,toks:=tk}):
  aw (fH prog w) A (call (.type "list") [.bytes b t]) Q E s:=by
 refine callType_codes (Q₁:=λf s₁=>f= .ref s.heap.objs.size/\s₁={s with heap:=s.heap.push {cls:= .type "list",data:= .seq #[]}}) PySem.F.called_list (PySem.F.typeCall_list_1 _) PySem.F.entry_list_init
  (code_list_new _ ⟨rfl,rfl⟩) λf s₁ g=> ?_
 obtain⟨rfl,rfl⟩:=g
 have hS:(s.heap.push {cls:= .type "list",data:= .seq #[]}).get? s.heap.objs.size=U {cls:= .type "list",data:= .seq #[]}:=g_ _ rfl
 refine⟨⟨_,hS,rfl⟩,PySem.F.args_list_init_2 _ _,aa1 (A:=A.in1) hh b t _ hS (λhp tk acc c hk h hacc=> ?_) hn⟩
 exact⟨rfl,i hp tk acc c (λa o e=>hk a o (jE<|Heap.lt_size e)<|Heap.get?_push_of_some _ e) h hacc⟩
theorem aJ4(hh:A.handled=Y) b t(hn:b.size<=jD)
  (j: ∀hp tk acc,(∀a o,s.heap.get? a=U o->hp.get? a=U o)->pG (pj b) acc b.size->Q acc.toList {s with heap:=hp,toks:=tk}):
  aw (fH prog w) A (collect<|.bytes b t) Q E s:=by
 unfold collect
 refine aF (wpAny_runValue<|a06 PySem.F.entry_proto_collect ?_)
 rw[a07 PySem.F.plain_proto_collect _]
 refine aF (u3 ?_)
 refine bV ⟨Sd a08 _,a06 PySem.F.entry_list_iadd ?_⟩
 rw[a07 a08 _]
 have hS:(s.heap.push {cls:= .type "list",data:= .seq ([]).toArray}).get? s.heap.objs.size=U {cls:= .type "list",data:= .seq #[] 0}:=g_ _ rfl
 have fin': ∀(r:u5) (s':bA),(r= .ok (.ret<|.ref s.heap.objs.size)/\ ∃hp tk acc c,s'={s with heap:=hp,toks:=tk}/\(∀a o,s.heap.get? a=U o->hp.get? a=U o)/\hp.get? s.heap.objs.size=U {cls:= .type "list",dict:=Y,data:= .seq acc c,slots:= #[]}/\pG (pj b) acc b.size)->
   match r with
   |.ok (.ret v)=>aw (fH prog w) A (match v with
     |q4 a=>do
      match(<-load a).data with
       |G8 xs _=>cF xs.toList
       |_=>Se "internal:collect"
     |_=>Se "internal:collect") Q E s'
   |.ok _=>False
   |.error e=>E e s':=by
  rintro r s' ⟨rfl,hp,tk,acc,c,rfl,hk,g,hacc⟩
  refine aF (RA g<|wpAny_pure ?_)
  exact j hp tk acc hk hacc
 refine bx (Oz (s:={s with heap:=s.heap.push {cls:= .type "list",data:= .seq ([]).toArray}})
  (R:=λr s'=>r= .ok (.ret<|.ref s.heap.objs.size)/\ ∃hp tk acc c,s'={s with heap:=hp,toks:=tk}/\(∀a o,s.heap.get? a=U o->hp.get? a=U o)/\hp.get? s.heap.objs.size=U {cls:= .type "list",dict:=Y,data:= .seq acc c,slots:= #[]}/\pG (pj b) acc b.size)
  hh b t s.heap.objs.size (.ref s.heap.objs.size) 0 hS (λhp tk acc c hk g hacc=>⟨rfl,hp,tk,acc,c,rfl,λa o e=>hk a o (jE<|Heap.lt_size e)<|Heap.get?_push_of_some _ e,g,hacc⟩) hn) (λgI s' h=> ?_) λe s' h=>absurd h.1 (by simp)
 cases gI with
 |done f=>exact fin' (.ok f) s' h
 |again c'=>exact⟨h.1,xy h.2 λr i hr=>fin' r i hr⟩
theorem aD1 b t(hsz:b.size<=jD):
  Meets (iR.«tuple.__new__» ⟨[.type "tuple",.bytes b t],[]⟩)
   (λA R s=>A.handled=Y/\ ∀(hp:ct) (tk:Tok) acc,(∀a o,s.heap.get? a=U o->hp.get? a=U o)->pG (pj b) acc b.size->
    R (.ok<|.ret<|.ref hp.objs.size) {s with heap:=hp.push {cls:= .type "tuple",data:= .seq acc},toks:=tk}):=
 .of_wp λprog w A R s h=>by
  obtain⟨hh,h⟩:=h
  have hsub:=sub_tuple_self
  have c:=init_tuple_lookup
  have f:=madeHere_tuple
  have hT:s.TypeIs (.bytes b t) "bytes":=qZ _ _ _
  have hh1:A.in1.handled=Y:=hh
  wp_walk using Sc hT,aJ4 hh1 b t hsz
  intro hp tk acc hk hacc
  show aw _ _ (a09 acc.toList.toArray>>=λv=>ret v) _ _ _
  unfold a09
  refine aF (u3 ?_ (show acc.toList.toArray.size<=jD by simp only[a10];rw[hacc.1];exact hsz))
  refine bV ⟨_,rfl,?_⟩
  have e:acc.toList.toArray=acc:=by simp
  rw[e]
  exact h hp tk acc hk hacc
theorem an6(hh:A.handled=Y) b t(hsz:b.size<=jD)
  (h: ∀(hp:ct) (tk:Tok) acc,(∀a o,s.heap.get? a=U o->hp.get? a=U o)->pG (pj b) acc b.size->Q (.ref hp.objs.size) {s with heap:=hp.push {cls:= .type "tuple",data:= .seq acc},toks:=tk}):
  aw (fH prog w) A (call (.type "tuple") [.bytes b t]) Q E s:=
 callType_new PySem.F.called_tuple dd (PySem.F.typeCall_tuple_1 _) (PySem.F.newCall_tuple_1 _) (λc=>PySem.F.args_object_init_2 c _) PySem.F.entry_tuple_new
  (aD1 b t hsz) ⟨hh,λhp tk acc hk hacc=>⟨⟨_,g_ _ rfl,rfl⟩,h hp tk acc hk hacc⟩⟩
end
theorem QM{p:Int->Int->Bool}{F:Int->List Int->Int}(f0: ∀a,F a []=a)(f1: ∀a b r,F a (b::r)=F (if p b a then b else a) r)(e:xs.toList.map (·.1)=a::l):
  gq xs (xA (λi j=>p (gq xs i)<|gq xs j)<|xs.size -1)=F a l:=by
 have at_: ∀i,i <(a::l).length->gq xs i=(a::l).getD i 0:=λi h=>by
  unfold gq;rw[<-sW,<-GV,e,Sf]
 have snoc: ∀(l) (a b),F a (l++[b])=if p b (F a l) then b else F a l:=λl=>l.rec (λa b=>by rw[aR9,f1,f0,f0]) λc l ih a b=>by rw[Rb,f1,f1,ih]
 have main: ∀k,k<=l.length->gq xs (xA (λi j=>p (gq xs i)<|gq xs j) k)=F a (l.take k):=λk=>k.rec (λh=>(at_ 0<|sS _).trans (f0 a).symm) λk ih h=>by
  have h3:=at_ (k+1) (GB h)
  have h4:l.take (k+1)=l.take k++[(a::l).getD (k+1) 0]:=by rw[List.take_succ_eq_append_getElem h,List.getD_cons_succ,Sf,G9 h,Option.getD_some]
  unfold xA
  rw[h4,snoc,<-ih<|lD h,<-h3,apply_ite<|gq xs]
 have hz:xs.size -1=l.length:=by rw[<-sX,<-bN,e];rfl
 rw[hz,main _<|dO _,RP]
theorem LN(e:xs.toList.map (·.1)=a::l):gq xs (xA (λi j=>decide<|gq xs i>gq xs j)<|xs.size -1)=dL a l:=
 QM (p:=λi j=>decide<|i>j) (λ_=>rfl) (λa b r=>aA (dL · r)<|ite_congr decide_eq_true_eq.symm (λ_=>rfl) λ_=>rfl) e
theorem WD(e:xs.toList.map (·.1)=a::l):gq xs (xA (λi j=>decide<|gq xs i <gq xs j)<|xs.size -1)=zq a l:=
 QM (p:=λi j=>decide<|i <j) (λ_=>rfl) (λa b r=>aA (zq · r)<|ite_congr decide_eq_true_eq.symm (λ_=>rfl) λ_=>rfl) e
theorem Av: ∀{h:List Int} {a:List au},aV R (vi h) a->xB a h
 |[],_,r=>r.none .nil
 |_::_,_,r=>r.of λw a p q=>p.of λt=> .cons _ _ (Av q)
theorem aj4(h:xB j a):aV R (vi a) j:=xB.rec .nil (λi t {_ _} _ r=> .cons (.int i t) r) h
theorem D6{G:Prop}(r:aV R (vi h) a)(k: ∀xs,a.toArray=lG xs->xs.toList.map (·.1)=h->G):G:=
 (Av r).allInts.items.elim λxs hx=>k xs hx (by rw[<-nums_intItems,<-hx];exact(Av r).numsOf)
section
variable{E:au->bA->Prop}
theorem Us a b c d:argsOk "max" ⟨[a,b,c,d],[]⟩:=by unfold argsOk;kernel_rfl
theorem Ym(hh:A.handled=Y)
  (h: ∀hp tk f,(∀c o,s.heap.get? c=U o->hp.get? c=U o)->Q (.int (dL a [b,c,d]) f) {s with heap:=hp,toks:=tk}):
  aw (fH prog w) A (call (.builtin "max") [.int a t,.int b u,.int c v,.int d x]) Q E s:=by
 have hx:(lG #[(a,t),(b,u),(c,v),(d,x)]).size=4:=by rw[lG,a11];rfl
 have hname:(toString "max"++toString ".loop")="max.loop":=dd
 refine call_function_tree PySem.F.kind_max PySem.F.plain_max PySem.F.entry_max (Us _ _ _ _) ?_
 refine aF (RT (show iR.Builtins.bindParams "max" ["key","default"] 0 ⟨[],[]⟩=cF [Y,Y] from rfl) ?_)
 refine aF (u3 ?_)
 let xs:Array<|Int×Tok:= #[(a,t),(b,u),(c,v),(d,x)]
 have hT:(s.heap.push {cls:= .type "tuple",data:= .seq [s7 a t,.int b u,.int c v,.int d x].toArray}).IsTuple s.heap.objs.size<|lG xs:=⟨_,g_ _ rfl,rfl,0,by rw[lG,List.map_toArray];rfl⟩
 refine aF (R5 hT<|aF<|u3 ?_)
 rw[hname]
 let H:=s.heap.push {cls:= .type "tuple",data:= .seq [s7 a t,.int b u,.int c v,.int d x].toArray}
 have hz:H.objs.size=s.heap.objs.size+1:=s9 ..
 have ne:s.heap.objs.size≠H.objs.size:=λz=>s_ _ (hz.symm.trans z.symm)
 have W:=R6 (prog:=prog) (w:=w) (A:=A.in1) hh H.objs.size s.heap.objs.size ne (lG xs)
 let T:Obj:={cls:= .type "tuple_iterator",data:= .fields #[.ref s.heap.objs.size,.int 0 0]}
 have st:(H.push T).IsTupleIter H.objs.size s.heap.objs.size 0/\(H.push T).IsTuple s.heap.objs.size (lG xs):=⟨⟨_,g_ _ rfl,rfl,rfl⟩,hT.push _⟩
 have hsz:(H.push T).objs.size=H.objs.size+1:=s9 ..
 have nn: ∀{c o},s.heap.get? c=U o->(H.push T).get? c=U o/\c <H.objs.size:=λe=>⟨eA _<|eA _ e,Nat.lt_trans (g9 e)<|hz▸n5 _⟩
 have g:=λhm=>(bB.mp hm).elim (λz=>s_ _<|hsz.symm.trans z) λz=>absurd ((b9.mp z).symm.trans<|hsz.trans<|aA (· +1) hz) (jE<|Sg<|n5 _)
 refine bV ⟨Sd PySem.F.plain_max_loop _,codeAny_max_loop_first W _ (CmpOf.ints_gt (gq xs) λ_ _=>G_) _ g (hx▸sS 3) (W.frame _ _ _ st λb _ o e=>eA _ e) (g_ _ rfl) λr hp tk hP hk=> ?_⟩
 refine(G_ hP).elim λf e=> ?_
 rw[e,hx]
 refine pz (motive:=λz=>Q (.int z f) {s with heap:=hp,toks:=tk}) (LN rfl).symm (h hp tk f λc o e=>hk c o (λhm=>jE (nn e).2<|b9.mp hm) (λz=>jE (g9 (nn e).1) z)<|eA _ (nn e).1)
end
noncomputable def jH:Bi->Str×au
 |.len=>("len",.builtin "len")
 |.abs=>("abs",.builtin "abs")
 |.max=>("max",.builtin "max")
 |.min=>("min",.builtin "min")
 |.sum=>("sum",.builtin "sum")
 |.o5=>("ord",.builtin "ord")
 |.tuple=>("tuple",.type "tuple")
 |.list _=>("list",.type "list")
 |.dict _=>("dict",.type "dict")
 |.bytes=>("bytes",.type "bytes")
 |.sorted=>("sorted",.builtin "sorted")
 |.range=>("range",.type "range")
 |.kE=>("enumerate",.type "enumerate")
 |.gc _=>("isinstance",.builtin "isinstance")
noncomputable def JL:Ty->String
 |.int=>"int"
 |.bool=>"bool"
 |.tuple=>"tuple"
 |.str=>"str"
 |.bytes=>"bytes"
noncomputable def Bn:Bi->List au
 |.gc t=>[.type<|JL t]
 |_=>[]
section
variable{σ:St x}{K:V->H->Prop}{tg:Expr}{vs:List V}{ws:List au}
def St.kP(σ:St x){hp:ct}(tk:Nat)(k: ∀b q,σ.s.heap.get? b=U q->hp.get? b=U q):St x:=σ.to σ.R σ.A hp tk (σ.bg.kP k) (Rm.le_refl _)
theorem PV.kP{hp:ct}{tk}{v}{w}(k: ∀b q,σ.s.heap.get? b=U q->hp.get? b=U q)(r:ax σ.R v w)(h:K v σ.A):PV ax σ K w {σ.s with heap:=hp,toks:=tk}:=⟨σ.kP tk k,v,w,Rm.le_refl _,r,h⟩
theorem PV.D0{hp:ct}{tk}{v}{a}{j}(k: ∀b q,σ.s.heap.get? b=U q->hp.get? b=U q)(ha:σ.R a=Y)(e:hp.get? a=U j)(r:ax (σ.R.bw a<|.kp .fr j) v<|.ref a)(h:K v σ.A):
  PV ax σ K (.ref a) {σ.s with heap:=hp,toks:=tk}:=⟨(σ.kP tk k).F3 ha e,v,_,Rm.jd ha,r,h⟩
theorem PV.QC{hp:ct}{tk}{a}{j}(k: ∀b q,σ.s.heap.get? b=U q->hp.get? b=U q)(ha:σ.R a=Y)(r:hU (σ.R.bw a .abs) hp a j)(h: ∀a,σ.A a=Y->K (.ref a) (σ.A.cq a j)):
  PV ax σ K (.ref a) {σ.s with heap:=hp,toks:=tk}:=
 have l:=Rm.jd ha
 ⟨(σ.kP tk k).to (σ.R.bw a .abs) (σ.A.cq a j) hp tk ((σ.kP tk k).bg.abs a (λ_=>Rm.cQ) (λ_ _ _=>id) (Rm.cN ..) (λ_ e=>bH <|ha.symm.trans e) (λ_ e=>bH <|ha.symm.trans e) r) l,.ref a,_,l,.ref a,h a<|σ.bg.j9 λq=>bH <|ha.symm.trans q⟩
theorem v8{n}(h:a_ n):(n:Int) <2^63:=g7 (bS.mpr h) dd
theorem sL{R}(r:aV R vs ws):ws.toArray.size=vs.length:=j4.trans r.length
theorem wJ{n:Nat}(k:K (.int n) σ.A):PV ax σ K (.int n<|σ.s.toks+1) {σ.s with toks:=σ.s.toks+1+1}:= .tk (.int ..) k
theorem Oy{a n:Nat}(e:σ.s.heap.get? a=U (cy ws n))(r:aV σ.R vs ws)(hl:a_ vs.length)(k:K (.int vs.length) σ.A):aw (M x) Ar (call (.builtin "len") [.ref a]) (PV ax σ K) N0 σ.s:=
 call_len_list ⟨_,e,rfl,n,rfl⟩ (sL r▸v8 hl) (wJ<|sL r▸k)
theorem Ix{a n:Nat}{ds}{h}(e:σ.s.heap.get? a=U (gi (fY ds h) n))(hm:(a==kL)=ae)(nd:(dI ds).Nodup)(r:dE σ.R ds h)(hl:a_ ds.length)(k:K (.int ds.length) σ.A):
  aw (M x) Ar (call (.builtin "len") [.ref a]) (PV ax σ K) N0 σ.s:=call_len_dict hm (rq e nd r) (sp r▸v8 hl) (wJ<|sp r▸k)
theorem yy{b}{l}(e:jL b=l):b.size=l.length:=by rw[<-e,jL,bN,sX]
theorem PW{R}{b}{a}{l}(e:jL b=l)(h:pG (pj b) a b.size):aV R (vi l) a.toList:=by
 have key: ∀(l:List UInt8) (ws),ws.length=l.length->(∀(j) (v),ws[j]? =U v-> ∃(c:UInt8) (u:Tok),l[j]? =U c/\v=s7 (c.toNat) u)->aV R (vi (l.map λx:UInt8=>(x.toNat))) ws:=λl=>l.rec (λws=>match ws with
  |[]=>λ_ _=> .nil
  |_::_=>λhl _=>nomatch hl) λc l ih ws=>match ws with
  |[]=>λhl _=>nomatch hl
  |w::ws=>λhl hv=>(hv 0 w rfl).elim λc' z=>z.elim λu z=>by cases z.1;rw[z.2];exact .cons (.int ..) (ih ws (pC hl) λj v hj=>hv (j+1) v hj)
 subst e
 exact key b.toList a.toList h.1 λj v hj=>(h.2 j v<|by rw[<-sW];exact hj).imp λc z=>z.imp λu z=>⟨by rw[sW];exact z.1,z.2⟩
theorem Lw{hp:ct}{tk}{us}(hk: ∀b q,σ.s.heap.get? b=U q->hp.get? b=U q)(r:aV σ.R vs us)(k:K (.aj vs) σ.A):PV ax σ K (.ref hp.objs.size) {σ.s with heap:=hp.push<|gU us 0,toks:=tk}:=
 have l:=(σ.kP tk hk).dQ _
 ⟨(σ.kP tk hk).keep (gU us 0) rfl,V.aj vs,_,l,.aj (Rm.cN ..)<|r.aG l.fl,k⟩
theorem Lc{a n:Nat}(e:σ.s.heap.get? a=U (cy ws n))(r:aV σ.R vs ws)(hl:a_ vs.length)(k:K (.aj vs) σ.A):aw (M x) Ar (call (.type "tuple") [.ref a]) (PV ax σ K) N0 σ.s:=
 call_tuple_list ⟨_,e,rfl,n,rfl⟩ (λhp hk=>Lw hk r k) ((sL r).symm▸jo hl)
theorem NZ{fr}{us}{hp:ct}{tk}{n}(hk: ∀b q,σ.s.heap.get? b=U q->hp.get? b=U q)(e:hp.get? σ.s.heap.objs.size=U (cy us n))(r:aV σ.R vs us)(h:jO fr vs σ.A K):
  PV ax σ K (.ref σ.s.heap.objs.size) {σ.s with heap:=hp,toks:=tk}:=match fr,h with
 |aa,h=> .D0 hk σ.new e (.fl (Rm.cN ..)<|r.aG (σ.dQ _).fl) h
 |ae,h=> .QC hk σ.new (.list e<|r.aG (σ.dQ _).fl) h
theorem QU{fr}{a n:Nat}(e:σ.s.heap.get? a=U (cy ws n))(r:aV σ.R vs ws)(hl:a_ vs.length)(k:jO fr vs σ.A K):aw (M x) Ar (call (.type "list") [.ref a]) (PV ax σ K) N0 σ.s:=
 call_list_seq a (.inl rfl) e rfl rfl (λhp c hk hD=>NZ hk hD r k) ((sL r).symm▸jo hl)
theorem QQ{fr}{a n:Nat}{ds}{h}(e:σ.s.heap.get? a=U (gi (fY ds h) n))(hm:(a==kL)=ae)(nd:(dI ds).Nodup)(r:dE σ.R ds h)(hl:a_ ds.length)(k:v0 fr ds σ.A K):
  aw (M x) Ar (call (.type "dict") [.ref a]) (PV ax σ K) N0 σ.s:=kt_call_dict hm (rq e nd r) ((sp r).symm▸jo hl) λhp c sb=>(Dx c<|Kv.of r).elim λh z=>z.elim λn z=>
  have hk:=λb q eb=>(sb.2 b<|jE<|g9 eb).trans (eA _ eb)
  match fr,k with
  |aa,k=> .D0 hk σ.new z.1 (.fd (Rm.cN ..) (Et σ) nd<|z.2.aG (σ.dQ _).fl) k
  |ae,k=> .QC hk σ.new (.dict z.1 nd<|z.2.aG (σ.dQ _).fl) k
theorem ag6{a}(h:ef a):jL (byteArr a)=a:=KBa.ints_make λn hn=>⟨(h n hn).1,g7 (h n hn).2 dd⟩
theorem IM{a n:Nat}{h}(hh:Ar.handled=Y)(e:σ.s.heap.get? a=U (cy ws n))(r:aV σ.R (vi h) ws)(ho:ef h)(hl:a_ h.length)(k:K (.a6 h) σ.A):aw (M x) Ar (call (.type "bytes") [.ref a]) (PV ax σ K) N0 σ.s:=
 have b:=Av r
 call_bytes_ints ⟨_,e,rfl,n,rfl⟩ b (λn hn=>⟨(ho n hn).1,g7 (ho n hn).2 dd⟩) (b.length▸jo hl) hh λhp t c hk=> .kP hk (ax.eq (aA V.a6 (ag6 ho).symm)<|.a6 ..) k
theorem uv{hp:ct}{tk t:Nat}{i j}(hk: ∀b q,σ.s.heap.get? b=U q->hp.get? b=U q)(e:i=j)(k:K (.int j) σ.A):PV ax σ K (.int i t) {σ.s with heap:=hp,toks:=tk}:=e▸ .kP hk (.int ..) (e▸k)
@[elab_as_elim] theorem zw{w}{P:au->Prop}(r:ax σ.R (.aj vs) w)(k: ∀ws a n,ax σ.R (.aj vs) (.ref a)->σ.s.heap.get? a=U (gU ws n)->aV σ.R vs ws->P (.ref a)):P w:=r.of λws a n e r=>k ws a n (.aj e r) (σ.at e) r
theorem V3{k}{w}{ws}{a}(h:A4 k w=aa)(r:xB ws a):xB (w::ws)<|k::a:=by
 cases w with
 |int i t=>rw[<-beq_iff_eq.mp h];exact .cons _ _ r
 |_=>nomatch h
theorem Ih: ∀(kvs:List<|Int×au) (ws:List au),ws.length=kvs.length->(∀(j:Nat) (v:au),ws[j]? =U v-> ∃k u,kvs[j]? =U (k,u)/\A4 k v=aa)->xB ws (kvs.map (·.1))
 |[],[],_,_=> .nil
 |[],_::_,h,_=>nomatch h
 |_::_,[],h,_=>nomatch h
 |d::ds,w::ws,hl,hv=>(hv 0 w rfl).elim λk z=>z.elim λu z=>by cases z.1;exact V3 z.2 (Ih ds ws (pC hl) λj v hj=>hv (j+1) v hj)
theorem ao0(h:ct):h.get? h.objs.size=Y:=match q:h.get? h.objs.size with
 |Y=>rfl
 |U _=>absurd (g9 q) (RM _)
theorem aH8{a n:Nat}{ds}{p}(hh:Ar.handled=Y)(e:σ.s.heap.get? a=U (gi (fY ds p) n))(hm:(a==kL)=ae)(nd:(dI ds).Nodup)(r:dE σ.R ds p)(f:ds.length <64)
  (h: ∀l:List Int,l.Perm (ds.map (·.1))->l.Pairwise (· <= ·)->K (.fl<|vi l) σ.A):aw (M x) Ar (call (.builtin "sorted") [.ref a]) (PV ax σ K) N0 σ.s:=by
 refine call_function_entry kind_sorted plain_sorted entry_sorted (args_sorted1 _) ?_
 unfold iR.«sorted»
 refine aF (bV ?_)
 have hs:ds.length<=jD:=AZ▸ak (uU f) dd
 refine aF (kdu_collect (kdl_dict hm) hh (i5 e nd r) ((sp r).symm▸hs) λhp tk acc hk hacc=> ?_)
 have hl:=sX.trans hacc.1
 have i:=Ih (kv ds p) acc.toList hl λj v hj=>hacc.2 j v (sW.symm.trans hj)
 have hl:=hl.trans (sp r)
 rw[r.dI] at i
 refine aF (wpAny_newList ?_<|hl.symm▸hs)
 have c:=g_ hp (o:=seqObj "list" acc.toList.toArray 0) rfl
 refine aF (e7<|GX slot_list_sort ⟨_,c,rfl⟩ entry_list_sort (list_sort_tree c i (hl.symm▸f) λout g s u t=>⟨_,rfl,(sortedHeap_at (out:=out) c).elim λe1 he=> ?_⟩)<|args_list_sort _)
 exact bV ⟨_,rfl,.D0 (λb q eb=>
  have l1:=g9 (hk b q eb)
  (sortedHeap_old (jE l1)<|by rw[s9];exact Sg l1).trans<|eA _<|hk b q eb) (σ.bg.no _<|fW (hk _)<|ao0 hp) he (.fl (Rm.cN ..)<|aj4 s)<|h g u t⟩
end
theorem zZ b:jH b∈tG:=by cases b <;>(repeat(first|exact .head _|refine .tail _ ?_))
section
variable{σ:St x}{Ar:cV}{K:V->H->Prop}{tg:Expr}{vs:List V}{ws:List au}
theorem V1 i:(if i <0 then -i else i)=(i.natAbs:Int):=if h:i <0 then(aM h).trans (aT8<|eR h).symm else(aE h).trans (aT7<|fF.mp h).symm
theorem XU i j t u:(if j>i then s7 j u else s7 i t)= .int (dL i [j]) (if j>i then u else t):=if h:j>i then by rw[aM h,aM h];exact aA (s7 · u) (aM h).symm else by rw[aE h,aE h];exact aA (s7 · t) (aE h).symm
theorem Om{v:au}{G:Prop}(h:(lG xs)[k]? =U v)(e:gq xs k=i)(k: ∀t,v= .int i t->G):G:=(G_ h).elim λt q=>k t (e▸q)
theorem HN{xs:Array<|Int×Tok}(e:xs.toList.map (·.1)=i::l):0 <xs.size:=by rw[<-sX,<-bN,e];exact sS _
theorem YH{t n:Nat}(hh:Ar.handled=Y)(e:s.heap.get? t=U (gU us n))(e1:us.toArray=lG xs)(hne:0 <xs.size)
  (h: ∀v hp tk,(lG xs)[xA (λi j=>decide<|gq xs i <gq xs j)<|xs.size -1]? =U v->(∀b o,s.heap.get? b=U o->hp.get? b=U o)->Q v {s with heap:=hp,toks:=tk}):
  aw (M x) Ar (call (.builtin "min") [.ref t]) Q N0 s:=by
 have ht:s.heap.IsTuple t<|lG xs:=⟨_,e,rfl,n,by rw[<-e1]⟩
 have hz:(lG xs).size=xs.size:=a11 ..
 refine call_min_walk (R5 ht ⟨_,[s.heap.objs.size,t],[s.heap.objs.size],_,_,_,_,rfl,R6 (A:=Ar.in1) hh s.heap.objs.size t (jE<|g9 e)<|lG xs,⟨⟨_,g_ _ rfl,rfl,rfl⟩,ht.at λo e=>eA _ e⟩,λb hb=> ?_,hz.symm▸hne,CmpOf.ints_lt (gq xs) λ_ _=>G_,λv hp tk hP hk=> ?_⟩)
 ·refine(?_)
  rw[s9]
  exact(bB.mp hb).elim (λz=>z▸n5 _) λz=>b9.mp z▸Sg (g9 e)
 ·exact h v hp tk (hz▸hP) λb o eb=>hk b o (λhm=>jE (g9 eb)<|b9.mp hm) (eA _ eb)
theorem WO(e:xs.toList.map (·.1)=l):preSum (gq xs) xs.size=l.sum:=by
 have hz:xs.size=l.length:=by rw[<-sX,<-bN,e]
 have hf:gq xs=λi=>l.getD i 0:=funext λi=>by unfold gq;rw[<-sW,<-GV,e,Sf]
 rw[hf,hz,preSum_getD,RP]
theorem N2(hh:Ar.handled=Y)(h:cj σ.A K b vs)(r:aV σ.R vs ws):aw (M x) Ar (call (jH b).2<|ws++Bn b) (PV ax σ K) N0 σ.s:=
 cj.casesOn h
  (λhl k r=>r.bq λw r=>r.of λws a n e r=>Oy (σ.at e) r hl k)
  (λhl k r=>r.bq λw r=>zw r λws a n _ e r=>PyProof.Rows.len_tuple ⟨_,e,rfl,n,rfl⟩ (sL r▸v8 hl)<|wJ<|sL r▸k)
  (λhl k r=>r.bq λw r=>r.of λb t e=>len_bytes (yy e▸ak hl dd)<|wJ<|yy e▸k)
  (λhl k r=>r.bq λw r=>r.of λt=>PySem.P.len_str (n3.mpr<|v8 hl)<|wJ k)
  (λhl k r=>r.bq λw r=>r.of λf a n e hm nd r=>Ix (σ.at e) hm nd r hl k)
  (λq hl k r=>r.bq λw r=>r.of<|σ.gV q λws n e r=>Oy e r hl k)
  (λq hl k r=>r.bq λw r=>r.of<|σ.i5 q λf n e nd r=>Ix e (σ.rf q) nd r hl k)
  (λk r=>r.bq λw r=>r.of λt=>call_abs_int λu tk=>uv (λ_ _=>id) (V1 _) k)
  (λk r=>r.of λw ws r1 r=>r.bq λw2 r2=>r1.of λt=>r2.of λu=>max_two_ints hh λhp tk hk=>XU .. ▸uv hk rfl k)
  (λk r=>r.of λw ws r1 r=>r.of λw2 ws r2 r=>r.of λw3 ws r3 r=>r.bq λj i=>r1.of λt=>r2.of λu=>r3.of λv=>i.of λv=>Ym hh λhp tk t hk=>uv hk rfl k)
  (λk r=>r.bq λw r=>r.of λus a n e r=>D6 r λxs e1 e2=>max_intList hh ⟨_,σ.at e,rfl,n,aA (G8 · n) e1⟩ (HN e2) λv hp tk hv hk=>Om hv (LN e2) λt z=>z▸uv hk rfl k)
  (λk r=>r.bq λw r=>zw r λus a n _ e r=>D6 r λxs e1 e2=>YH hh e e1 (HN e2) λv hp tk hv hk=>Om hv (WD e2) λt z=>z▸uv hk rfl k)
  (λk r=>r.bq λw r=>r.of λus a n e r=>D6 r λxs e1 e2=>sum_intListG hh ⟨_,σ.at e,rfl,n,aA (G8 · n) e1⟩ λhp tk t hk=>uv hk (WO e2) k)
  (λk r=>r.bq λw r=>r.of λt=>PySem.P.ord_of_char<|.tk (.int ..) k)
  (λhl k r=>r.bq λw r=>zw r λws a n r' e _=>call_tuple_same ⟨_,e,rfl,n,rfl⟩<|.dc r' k)
  (λhl k r=>r.bq λw r=>r.of λws a n e r=>Lc (σ.at e) r hl k)
  (λhl k r=>r.bq λw r=>r.of λb t e=>an6 hh _ _ (jo<|yy e▸hl) λhp tk acc hk ha=>Lw hk (PW e ha) k)
  (λq hl k r=>r.bq λw r=>r.of<|σ.gV q λws n e r=>Lc e r hl k)
  (λhl k r=>r.bq λw r=>r.of λws a n e r=>QU (fr:=aa) (σ.at e) r hl k)
  (λhl k r=>r.bq λw r=>r.of λb t e=>ay0 hh _ _ (jo<|yy e▸hl) λhp tk acc c hk hD ha=>NZ (fr:=aa) hk hD (PW e ha) k)
  (λq hl k r=>r.bq λw r=>r.of<|σ.gV q λws n e r=>QU (fr:=ae) e r hl k)
  (λhl k r=>r.bq λw r=>r.of λf a n e hm nd r=>QQ (fr:=aa) (σ.at e) hm nd r hl k)
  (λq hl k r=>r.bq λw r=>r.of<|σ.i5 q λf n e nd r=>QQ (fr:=ae) e (σ.rf q) nd r hl k)
  (λho hl k r=>r.bq λw r=>r.of λws a n e r=>IM hh (σ.at e) r ho hl k)
  (λq ho hl k r=>r.bq λw r=>r.of<|σ.gV q λws n e r=>IM hh e r ho hl k)
  (λq g k r=>r.bq λw r=>r.of<|σ.i5 q λf n e nd r=>aH8 hh e (σ.rf q) nd r g k)
  (λk r=>r.bq λw r=>r.of λt=>PySem.IsiPair.int_int<|.dc (.bool _) k)
  (λk r=>r.bq λw r=>r.of λt=>PySem.IsiPair.int_bool<|.tk (.bool _) k)
  (λk r=>r.bq λw r=>zw r λws a n _ e _=>PySem.IsiPair.tuple_tuple e rfl<|.dc (.bool _) k)
  (λk r=>r.bq λw r=>r.of λt=>PySem.IsiPair.str_str<|.dc (.bool _) k)
  (λk r=>r.bq λw r=>r.of λb t e=>call_isinstance_yes (qZ _ _ _) PySem.F.isi_meta_bytes (by rw[a05];kernel_rfl)<|.dc (.bool _) k) r
end
theorem W4 b:(∃s,(jH b).2= .builtin s)\/ ∃s,(jH b).2= .type s:=by cases b <;>first|exact .inl ⟨_,rfl⟩|exact .inr ⟨_,rfl⟩
noncomputable def qg:Ty->Str×au
 |.int=>("int",.type "int")
 |.bool=>("bool",.type "bool")
 |.tuple=>("tuple",.type "tuple")
 |.str=>("str",.type "str")
 |.bytes=>("bytes",.type "bytes")
theorem ZI t:qg t∈tG:=by cases t <;>(repeat(first|exact .head _|refine .tail _ ?_))
theorem ad1 t:(qg t).2= .type (JL t):=by cases t <;>rfl
def qc(x:Cx)(Ar:cV)(tg e:Expr)(f:H->It->Prop):Prop:=
 ∀(σ:St x) (K),f σ.A K->aw (M x) Ar (aQ e x.env) (λw s=>aw (M x) Ar (jF w) (PI σ tg K) N0 s) N0 σ.s
section
variable{σ:St x}
theorem FK b(hs:j.all fE=aa)(el:fX n x Ar (iP<|eU pos<|eV j x.env) o)(h:o σ.A G)
  (z: ∀(τ:St x) vs ws,σ.le τ->aV τ.R vs ws->G vs τ.A->aw (M x) Ar (call (jH b).2 ws) Q N0 τ.s):aw (M x) Ar (u6 pos (jH b).2 [] (eU pos<|eV j x.env) []) Q N0 σ.s:=
 have go:=λf:au=>zT (f:=f) (Q:=λa s=>aw (M x) Ar (call (jH b).2 ([]++a.pos) a.kw) Q N0 s) hs (el.map h λτ vs ws l r k=>z τ vs ws l r.1 k)
 (W4 b).elim (λe=>e.elim λs e=>by rw[e] at go⊢;exact RY (tF hs)<|go _) λe=>e.elim λs e=>by rw[e] at go⊢;exact PySem.callWith_type (tF hs) (go _)
theorem aJ5(hh:Ar.handled=Y)(hb:Bn b=[])(hk:x.env.kindOf (jH b).1=U .globalImplicit)(hd:((jH b).1==("__debug__":Str))=ae)(hs:a.all fE=aa)(el:fX n x Ar (iP<|eU pos<|eV a x.env) j):
  a3 x Ar (aQ (.Call (.Name (jH b).1 q) a [] pos) x.env) (λh Q=>j h λvs h=>cj h Q b vs):=λσ K h=>
 u7 (wt σ hk hd (zZ b)<|FK b hs el h λτ vs ws l r k=>up l<|by have:=N2 hh k r;rw[hb,c8] at this;exact this)
theorem ao6(hh:Ar.handled=Y)(hk:x.env.kindOf "isinstance"=U .globalImplicit)(b:x.env.kindOf (qg t).1=U .globalImplicit)(a:((qg t).1==("__debug__":Str))=ae)(hs:fE e=aa)(ev:a3 x Ar (aQ e x.env) f):
  a3 x Ar (aQ (.Call (.Name "isinstance" q) [e,.Name (qg t).1 j] [] pos) x.env) (λh Q=>f h λv h=>cj h Q (.gc t) [v]):=λσ K h=>by
 refine u7 (wt σ hk dd (zZ<|.gc t) (?_:aw _ _ (u6 pos (.builtin "isinstance") [] (eU pos<|eV [e,.Name (qg t).1 j] x.env) []) _ _ _))
 rw[o0 hs,o0 rfl]
 exact RY rfl (aY3<|AY<|ev.bind h λτ v w l r k=>AY<|wt τ b a (ZI t)<|Ro<|up l<|ad1 t▸N2 hh k (.cons r .nil))
theorem EX(ht:i4 a)(ev:a3 x Ar (aQ e x.env) f):qc x Ar a e (λh K=>f h λv h=>hY h K v):=λσ K h=>
 ev.bind h λτ v w l r k=>bx (Lm ht k r) (λ_ _ p=>p.aG l) λ_ _=>id
theorem iY(ht:i4 j)(hk:x.env.kindOf "range"=U .globalImplicit)(hs:a.all fE=aa)(el:fX n x Ar (iP<|eU pos<|eV a x.env) o):
  qc x Ar j (.Call (.Name "range" q) a [] pos) (λh K=>o h λvs h=>jT h K vs):=λσ K h=>
 u7 (wt σ hk dd (zZ .range)<|FK .range hs el h λτ vs ws l r k=>bx (ah9 ht k r) (λ_ _ p=>bx p (λ_ _ p=>p.aG l) λ_ _=>id) λ_ _=>id)
theorem yU(hk:x.env.kindOf "enumerate"=U .globalImplicit)(hs:a.all fE=aa)(el:fX n x Ar (iP<|eU pos<|eV a x.env) o):
  qc x Ar (.Tuple j t u) (.Call (.Name "enumerate" q) a [] pos) (λh K=>o h λvs h=>kU h K vs):=λσ K h=>
 u7 (wt σ hk dd (zZ .kE)<|FK .kE hs el h λτ vs ws l r k=>bx (T9 k r) (λ_ _ p=>bx p (λ_ _ p=>p.aG l) λ_ _=>id) λ_ _=>id)
theorem aw7(hb:xv e "items" x.env (aQ e x.env)=aQ e x.env)(hl:(j.endLine==pos.line)=aa)(ev:a3 x Ar (aQ e x.env) f):
  qc x Ar (.Tuple o t u) (.Call (.Attribute e "items" j) [] [] pos) (λh K=>f h λv h=>ux h K v):=λσ K h=>
 Np hb hl (sS _) rfl (ev.map h λτ v w l r k c=>ux.casesOn k
  (λ_ k r=>r.of λb a n e hm nd r=>aZ2 ⟨_,τ.at e,rfl⟩ aZ3 a12 PySem.F.type_dict_items λa q=>by cases q;exact⟨_,τ.at e,rfl⟩
   (method_meetsIn a12 PySem.F.entry_dict_items rfl (evalArgs_nil3 ⟨rfl,⟨_,τ.at e,rfl⟩,PySem.F.args_dict_items_1 _,_,meets_dict_items (ik x) a hm,⟨kv _ b,rq (τ.at e) nd r⟩,
    bx (S4 (σ:=τ.oS _) e nd r ⟨_,g_ _ rfl,rfl,rfl⟩ k) (λ_ _ p=>PI.aG (τ:=τ.oS _) l p) λ_ _=>id⟩))) r)
end
inductive PA {x:Cx} (σ:St x) (K:L->H->Prop):bA->Prop
 |mk (ρ:L) (τ:St<|x.at ρ):σ.lo τ->K ρ τ.A->PA σ K τ.s
def qz(x:Cx)(Ar:cV)(tg:Expr)(f:V->L->H->(L->H->Prop)->Prop):Prop:=
 ∀ρ (σ:St<|x.at ρ) v w K,ax σ.R v w->f v ρ σ.A K->aw (M x) Ar (Hb tg x.env w) (λ_=>PA σ K) N0 σ.s
def tt(x:Cx)(Ar:cV)(a:List Expr)(f:List V->L->H->(L->H->Prop)->Prop):Prop:=
 ∀ρ (σ:St<|x.at ρ) vs ws K,aV σ.R vs ws->f vs ρ σ.A K->aw (M x) Ar (a13 ((pH a x.env).map (·.2)) ws) (λ_=>PA σ K) N0 σ.s
section
variable{x y:Cx}{σ:St x}{Ar:cV}{K:L->H->Prop}{n:Nat}
theorem St.kj{τ:St x}(l:σ.le τ):σ.lo τ:=λa b o e _=>l a b o e
theorem St.lo.fl{τ:St<|x.at ρ}(l:σ.lo τ):σ.R.fl τ.R:=λa o e=>l a .fr o e λz=>fU z
theorem St.lo.trans{τ:St<|x.at ρ}{υ:St<|x.at h}(l:σ.lo τ)(m:τ.lo υ):σ.lo υ:=λa b o e n=>m a b o (l a b o e n) n
theorem PA.aG{τ:St<|x.at ρ}(l:σ.lo τ)(p:PA τ K s):PA σ K s:=p.casesOn λa υ l' k=>PA.mk (σ:=σ) a υ (St.lo.trans l l') k
theorem Qg{j}(Iqv:qh (.Name j p) l g)(hh:Ar.handled=Y): ∀xs (τ:St x) Q,Iqv.at_ xs τ.R->g τ.A->
  (∀(υ:St x) ws,υ.A=τ.A->lZ Iqv.own τ.R υ.R->Iqv.at_ [] υ.R->aV υ.R xs ws->Q ws υ.s)->aw (M x) Ar (draw l xs.length) Q N0 τ.s
 |[],τ,Q,at_,ga,h=>bV (h τ [] rfl (λ_ _ _ _ e=>e) at_ .nil)
 |v::r,τ,Q,at_,ga,h=>
  aF (bx (Iqv.next τ (v::r) (λq s=>aw (M x) Ar (match q with
   |Y=>cF []
   |U v=>(do let t<-iQ [v] (draw l r.length);cF (v::t))) Q N0 s) hh at_ ga λυ w f d2 am rv=>
    aF<|e7<|Qg Iqv hh r υ _ am (f▸ga) λφ ws eA2 off2 c rs=>bV<|h φ (w::ws) (eA2.trans f) (λa b o n e=>off2 a b o n<|d2 a b o n e) c<|.cons (rv.aG off2.fl) rs)
   (λq s z=>by
    rcases q with _|v
    ·exact z
    ·exact(aF z:aw (M x) Ar ((cF ()) >>=λ_=>(do let t<-iQ [v] (draw l r.length);cF (v::t))) Q N0 s)) λ_ _=>id)
inductive IS (σ:St x) (P:List V->Prop) (v:V) (w:au):Prop
 |mk (xs:List V) (T i:String):P xs->(∀J:H->Prop,J σ.A->hY σ.A (λl g h=>l=xs/\g h/\J h) v)->σ.s.TypeIs w T->typeLookup (.type T) "__iter__"=cF (U<|.builtin i)->IS σ P v w
theorem aJ3(h:jp σ.A P v)(r:ax σ.R v w):IS σ P v w:=
 jp.casesOn h
  (λh r=>r.of λws a n e _=>⟨_,_,_,h,λJ j=> .tV ⟨rfl,tI,j⟩,⟨_,σ.at e,rfl⟩,PySem.F.slot_tuple_iter.lookup⟩)
  (λh r=>r.of λws a n e _=>⟨_,_,_,h,λJ j=> .fJ ⟨rfl,tI,j⟩,⟨_,σ.at e,rfl⟩,a14.lookup⟩)
  (λh r=>r.of λb t e=>⟨_,_,_,h,λJ j=> .N8 ⟨rfl,tI,j⟩,qZ _ _ _,FB.slot_bytes_iter.lookup⟩)
  (λq h r=>r.of<|σ.gV q λws n e _=>⟨_,_,_,h,λJ j=> .PP q ⟨rfl,q,j⟩,⟨_,e,rfl⟩,a14.lookup⟩) r
theorem C0(hh:Ar.handled=Y){G:List V->Prop}(r:ax σ.R v w)(h:jp σ.A (λl=>match bE l.length n with|aa=>G l|ae=>False) v)
  (k: ∀xs,xs.length=n->G xs-> ∀(τ:St x) ws,σ.le τ->τ.A=σ.A->aV τ.R xs ws->Q ws τ.s):aw (M x) Ar (unpackItems w n Y) Q N0 σ.s:=
 (aJ3 h r).casesOn λxs T i hk hi hT hl=>by
  cases hn:bE xs.length n with
  |false=>rw[hn] at hk;exact hk.elim
  |true=>
   rw[hn] at hk
   have hn:=jh hn
   subst hn
   refine aF (aF<|wpAny_specialOf hT hl<|wpAny_pure ?_)
   refine aF (e7<|wpAny_mono (Lm (.n "" ⟨0,0,0,0⟩) (hi (λh=>h=σ.A) rfl) r) (λA s1 q=>q.casesOn λτ f g Iqv l own at_ p=> ?_) λ_ _=>id)
   have e:=p.1
   subst e
   refine aF (e7<|Qg Iqv hh f τ _ at_ p.2.1 λυ ws j d2 c rs=> ?_)
   rw[aE<|Nat.not_lt.mpr<|Nat.le_of_eq rs.length.symm]
   have t:=λa b o e=>d2 a b o (λz=>absurd e<|own a b o z) (l a b o e)
   refine aF (e7<|wpAny_mono (Iqv.next υ [] (λr s=>r=Y/\ ∃τ:St x,τ.s=s/\σ.le τ/\τ.A=σ.A/\aV τ.R f ws) hh c (j▸p.2.1) λφ eA2 off2=>⟨rfl,φ,rfl,λa b o e=>off2 a b o (λz=>absurd e<|own a b o z)<|t a b o e,eA2.trans<|j.trans p.2.2,rs.aG off2.fl⟩) (λr s q=> ?_) λ_ _=>id)
   cases r with
   |none=>exact q.2.elim λφ q=>bV (q.1▸k f rfl hk φ ws q.2.1 q.2.2.1 q.2.2.2)
   |some u=>exact(aF (bx q (λ_ _ q=>gJ q.1) λ_ _=>id):aw (M x) Ar ((cF ()) >>=λ_=>_) Q N0 s)
end
section
variable{x:Cx}{σ:St x}{Ar:cV}{K:L->H->Prop}{n:Nat}
theorem ah2(hh:Ar.handled=Y){σ:St<|x.at ρ}(r:ax σ.R v w)(hl:(pH a x.env).length=n)(hs:(pH a x.env).findIdx? (·.1)=Y)(ea:tt x Ar a f)
  (h:jp σ.A (λl=>match bE l.length n with|aa=>f l ρ σ.A K|ae=>False) v):aw (M x) Ar (unpack w<|pH a x.env) (λ_=>PA σ K) N0 σ.s:=by
 unfold unpack
 rw[hs,hl]
 exact aF (e7<|C0 hh r h λxs _ k τ ws l e r=>bx (ea ρ τ xs ws K r<|e▸k) (λ_ _ p=>PA.aG (St.kj l) p) λ_ _=>id)
theorem Yy{a}(hn:ah x.ns i=U a)(hf:x.env.kindOf a≠U .free):qz x Ar (.Name a pos) (λv ρ h K=>K (cX ρ i v) h):=λρ σ v w K r h=>
 Sh (vI (x:=x.at ρ) hn hf r h λτ l _ k=>PA.mk _ τ l k)
theorem aH9{f:List V->L->H->(L->H->Prop)->Prop}(h: ∀vs ρ h K,f vs ρ h K->vs=[]/\K ρ h):tt x Ar [] f:=λρ σ vs ws K r k=>by
 have k:=h _ _ _ _ k
 rw[k.1] at r
 exact r.none (a15<|PA.mk (σ:=σ) ρ σ (λ_ _ _ e _=>e) k.2)
theorem BU(h:fE e=aa):pH (e::r) env=(ae,Hb e env)::pH r env:=by
 cases e <;>first|rfl|cases h
theorem X_{g j:List V->L->H->(L->H->Prop)->Prop}(hs:fE t=aa)(ea:qz x Ar t f)(er:tt x Ar r g)(h: ∀vs ρ h K,j vs ρ h K-> ∃v us,vs=v::us/\f v ρ h λρ h=>g us ρ h K):
  tt x Ar (t::r) j:=λρ σ vs ws K b k=>(h _ _ _ _ k).elim λv k=>k.elim λus k=>by
 rw[BU hs]
 rw[k.1] at b
 exact b.of λw ws r0 c=>a16 (bx (ea ρ σ v w _ r0 k.2) (λ_ _ p=>p.casesOn λa τ l k=>bx (er a τ us ws K (aV.aG c<|St.lo.fl l) k) (λ_ _ p=>PA.aG l p) λ_ _=>id) λ_ _=>id)
theorem Yl(hh:Ar.handled=Y)(hl:(pH a x.env).length=n)(hs:(pH a x.env).findIdx? (·.1)=Y)(ea:tt x Ar a f):
  qz x Ar (.Tuple a j pos) (λv ρ h K=>jp h (λl=>match bE l.length n with|aa=>f l ρ h K|ae=>False) v):=λρ σ v w K r h=>by
 rw[arm_assign_Tuple]
 exact aF (jk<|ah2 hh r hl hs ea h)
theorem WY{f:L->H->(V->H->Prop)->Prop}(ev: ∀ρ,a3 (x.at ρ) Ar (aQ e x.env)<|f ρ):
  qz x Ar (.Attribute e (cM m) pos) (λv ρ h K=>f ρ h λw h=>oq I h m v (λh=>K ρ h) w):=λρ σ v w K r h=>by
 rw[assign_Attribute]
 exact aF (e7<|(ev ρ).bind h λτ u w1 l r1 k=>aF<|jk<|aF<|e7<|KE k (r.aG l.fl) r1 λυ e k=>ET<|PA.mk (σ:=σ) ρ υ (λa b o z _=>e▸l a b o z) k)
theorem aw4: ∀{vs:List V} {h:List au} {v:V} {w:au} i,aV R vs h->ax R v w->aV R (d_ vs i v) (d_ h i w):=λ{vs h v w} i r p=>(r.rec (motive:=λvs h _=> ∀i,aV R (d_ vs i v)<|d_ h i w) (λ_=> .nil) λa q ih i=>match i with
 |0=> .cons p q
 |i+1=> .cons a<|ih i) i
theorem Nm: ∀l i (a:α),d_ l i a=l.set i a
 |[],_,_=>rfl
 |_::_,0,_=>rfl
 |x::r,i+1,a=>aA (x:: ·) (Nm r i a)
theorem aq2{l n:Nat}{k}(e:s.heap.get? l=U (cy us n))(h0:0<=k)(hj:k.toNat <us.length)(hfit:k <2^63)
  (a:Q () {s with heap:=s.heap.update l<|u8 (·.setIfInBounds k.toNat w)}):aw (M x) Ar (xx (.ref l) (.int k t) w) Q N0 s:=by
 have hl:s.heap.IsList l us.toArray:=⟨_,e,rfl,n,rfl⟩
 unfold xx
 refine e7 (?_)
 refine aF (aW4 hl.typeIs dd ?_)
 refine aF (RL hl.typeIs a17<|GX a17 hl.typeIs entry_list_setitem ?_<|args_list_setitem _ _ _)
 refine aF (m:=iR.List.listSubscript?<|.int k t) (wpAny_listSubscript_int (fitsIndex_of h0 hfit) ?_)
 refine(GM h0).elim λj ej=> ?_
 subst ej
 have hx:us.toArray[j]? =U us[j]:=(u1 ..).trans (G9 hj)
 refine aF (aF<|wpAny_seqItemAt e rfl<|bV ?_)
 rw[hx]
 exact aF (wpAny_setSeqItemAt e rfl<|aF<|bV<|bV ⟨.none,rfl,bV a⟩)
theorem HW{K}(h:nF σ.A v K u i)(r:ax σ.R v w)(ru:ax σ.R u o)(ri:ax σ.R i j):aw (M x) Ar (xx o j w) (λ_=>PN σ K) N0 σ.s:=
 nF.casesOn h
  (λ{a l i} q h0 h1 hl k ru ri=>ru.of (ri.of λt=>σ.gV q λws n e rl=>by
   have hj:=rl.length▸(aV6 h0).mpr h1
   refine aq2 e h0 hj (AR h1<|v8 hl) ((CT (λxs=>xs.setIfInBounds i.toNat w) ws n).elim λb en=> ?_)
   rw[List.setIfInBounds_toArray,<-Nm] at en
   exact PN.mk (σ.cq _ q (A1 _ _ _)<|.list ((uW (u8 (·.setIfInBounds i.toNat w)) e rfl).trans<|aA U en)<|aw4 _ rl r) (Rm.le_refl _) k))
  (λq hl k ru ri=>ru.of<|ri.of λt=>aO8 q hl r k) ru ri
theorem af3{f g:L->H->(V->H->Prop)->Prop}(ev: ∀ρ,a3 (x.at ρ) Ar (aQ e x.env)<|f ρ)(ei: ∀ρ,a3 (x.at ρ) Ar (aQ i x.env)<|g ρ):
  qz x Ar (.Subscript e i pos) (λv ρ h K=>f ρ h λw h=>g ρ h λj h=>nF h v (λh=>K ρ h) w j):=λρ σ v w K r h=>by
 rw[assign_Subscript]
 exact aF (e7<|(ev ρ).bind h λτ u w1 l r1 k=>aF<|e7<|(ei ρ).bind k λυ j w2 l2 r2 k=>aF<|jk<|aF<|e7<|bx (HW k ((r.aG l.fl).aG l2.fl) (r1.aG l2.fl) r2) (λ_ _ p=>p.casesOn λφ l3 k=>ET<|PA.mk (σ:=σ) ρ φ (λa b o z _=>l3 _ _ _<|l2 _ _ _<|l _ _ _ z) k) λ_ _=>id)
end
noncomputable def j0:List Nat->List V->L->L
 |i::is,v::vs,ρ=>j0 is vs (cX ρ i v)
 |_,_,ρ=>ρ
theorem IK: ∀(ρ:L) (i j:Nat) (v w:V),i≠j->cX (cX ρ i v) j w=cX (cX ρ j w) i v
 |[],_,_,_,_,_=>rfl
 |_::_,0,0,_,_,h=>absurd rfl h
 |_::_,0,_+1,_,_,_=>rfl
 |_::_,_+1,0,_,_,_=>rfl
 |x::r,i+1,j+1,v,w,h=>aA (x:: ·) (IK r i j v w λe=>h<|aA (· +1) e)
theorem Nj: ∀(is:List Nat) (vs:List V) (ρ:L) (i:Nat) (v:V),i∉is->j0 is vs (cX ρ i v)=cX (j0 is vs ρ) i v
 |[],_,_,_,_,_=>rfl
 |_::_,[],_,_,_,_=>rfl
 |j::is,w::vs,ρ,i,v,h=>(aA (j0 is vs)<|IK _ _ _ _ _ λz=>h<|bB.mpr<|.inl z).trans (Nj is vs _ i v λz=>h<|.tail _ z)
theorem Hp: ∀(is:List Nat) (vs:List V) (a:List Nat) (us:List V) (ρ:L),is.length=vs.length->j0 (is++a) (vs++us) ρ=j0 a us (j0 is vs ρ)
 |[],[],_,_,_,_=>rfl
 |i::is,v::vs,a,us,ρ,h=>Hp is vs a us (cX ρ i v) (pC h)
theorem F1: ∀(is:List Nat) (vs:List V) (ρ:L),is.Nodup->is.length=vs.length->j0 is.reverse vs.reverse ρ=j0 is vs ρ
 |[],[],_,_,_=>rfl
 |i::is,v::vs,ρ,nd,hl=>by
  rw[pv,pv,Hp _ _ _ _ _ (by rw[sU,sU];exact pC hl),F1 is vs ρ (lF.mp nd).2<|pC hl]
  exact(Nj is vs ρ i v (lF.mp nd).1).symm
abbrev zn(x:Cx):List Str->List Nat->Prop:=bW λn i=>ah x.ns i=U n/\x.env.kindOf n=U .local
section
variable{x:Cx}{σ:St x}{Ar:cV}{K:V->H->Prop}{n:Nat}{f:L->H->(V->H->Prop)->Prop}{e:Expr}{pos:Pos}{Q:Fl->L->H->Prop}{fl:sQ}{s:bA}
theorem PS.aG{ρ}{τ:St<|x.at ρ}(l:σ.lo τ)(p:PS τ Q fl s):PS σ Q fl s:=p.casesOn λa υ v l' r k=>PS.mk (σ:=σ) a υ v (St.lo.trans l l') r k
theorem PS.dc{ρ}{τ:St<|x.at ρ}{v}(l:σ.lo τ)(r:mI τ.R v fl)(k:Q v ρ τ.A):PS σ Q fl τ.s:=PS.mk ρ τ v l r k
theorem PA.next(p:PA σ (λρ h=>Q .next ρ h) s):PS σ Q .next s:=p.casesOn λρ τ l k=> .dc l .next k
theorem PA.up{ρ}{τ:St<|x.at ρ}(l:σ.lo τ)(p:PA τ (λρ h=>Q .next ρ h) s):PS σ Q .next s:=PA.next (PA.aG l p)
theorem xf{α β o}{a}{m}{J:β->H->Prop}{g:α->Sem o}{Q:α->o->bA->Prop}(h:aw (M x) Ar m (PV a σ J) N0 σ.s)
  (k: ∀(τ:St x) v w,σ.le τ->a τ.R v w->J v τ.A->aw (M x) Ar (g w) (Q w) N0 τ.s):aw (M x) Ar m (λw s=>aw (M x) Ar (g w) (Q w) N0 s) N0 σ.s:=
 bx h (λ_ _ p=>p.casesOn λτ v w l r j=>k τ v w l r j) λ_ _=>id
theorem St.Vg(σ:St x){i}{n}{v}{G:Prop}(hn:ah x.ns i=U n)(hl:x.env.kindOf n=U .local)(hv:ah x.ρ i=U (U v))
  (k: ∀w,ax σ.R v w->(∀Q:au->bA->Prop,Q w σ.s->aw (M x) Ar (loadName x.env n) Q N0 σ.s)->G):G:=
 σ.fr.dR.casesOn λo m c e ns h=>(h i n v hn hl hv).elim λw q=>k w q.2 λQ z=>GQ x.st.kind hl (σ.ns e ns) q.1 z
theorem Da{j}{v w}{a b}(h:mh σ.A K j v w)(r:ax σ.R v a)(q:ax σ.R w b):aw (M x) Ar (inplaceOp (nR j) a b) (PV ax σ K) N0 σ.s:=
 mh.casesOn h (λk r q=>r.of λt=>q.of λu=>P.iadd_int<|.tk (.int ..) k) r q
theorem dS.branch{m}{f}{T F}{Q:Bool->bA->Prop}{E}(e:dS x Ar m f)(h:f σ.A T F)(b: ∀τ:St x,σ.le τ->T τ.A->Q aa τ.s)(a: ∀τ:St x,σ.le τ->F τ.A->Q ae τ.s):aw (M x) Ar m Q E σ.s:=
 bx (e σ (λc=>match c with|aa=>T|ae=>F) h) (λ_ _ p=>p.casesOn λτ c d l r k=>match c,d,r,k with
  |aa,_,rfl,k=>b τ l k
  |ae,_,rfl,k=>a τ l k) λ_ _ q=>q.elim
theorem OJ{j a}{o}(hs:a18 [j] a pos.line x.env=cF ae)(hw:Bc [j] a x.env=cF Y)(hn:fE j=aa)
  (ev: ∀ρ,a3 (x.at ρ) Ar (aQ a x.env)<|f ρ) (ea:qz x Ar j o):c_ x Ar (hg (.Assign [j] a pos) x.env) (λρ h Q=>f ρ h λv h=>o v ρ h λρ h=>Q .next ρ h):=λρ σ Q h=>
 wpAny_Assign_stores ((ev ρ).bind h λτ v w l r k=>by rw[BU hn];exact bx (ea ρ τ v w _ r k) (λ_ _ p=>PA.up (St.kj l) p) λ_ _=>id) hs hw
theorem NY{K}{j}{h}(ha:zn x j h): ∀(vs:List V) (ws:List au) (ρ:L) (τ:St<|x.at ρ),vs.length=h.length->aV τ.R vs ws->K (j0 h vs ρ) τ.A->
  aw (M x) Ar (a13 (j.map λn=>bindName x.env n) ws) (λ_=>PA τ K) N0 τ.s:=ha.rec
 λvs ws ρ τ hl r k=>by rw[List.length_eq_zero_iff.mp hl] at r k;exact r.none (a15<|PA.mk (σ:=τ) ρ τ (λ_ _ _ e _=>e) k)
 λ{nm i j h} a q ih vs ws ρ τ hl r k=>match vs,hl,r,k with
  |v::vs,hl,r,k=>r.of λw ws r0 b=>a16 (wpAny_bindName (vI (x:=x.at ρ) a.1 (by rw[a.2];exact λz=>nomatch z) r0 k λφ lo _ k=>
    bx (ih vs ws (cX ρ i v) φ (pC hl) (aV.aG b<|St.lo.fl lo) k) (λ_ _ p=>PA.aG lo p) λ_ _=>id))
theorem aK7(hh:Ar.handled=Y){u}{A}{t}{j}{D}{y}(hs:a18 [.Tuple u A t] j pos.line x.env=cF ae)(hw:Bc [.Tuple u A t] j x.env=cF (U D))
  (ha:zn x D y) (nd:y.Nodup) (ev: ∀ρ,a3 (x.at ρ) Ar (aQ j x.env)<|f ρ):
  c_ x Ar (hg (.Assign [.Tuple u A t] j pos) x.env) (λρ h Q=>f ρ h λv h=>jp h (λl=>match bE l.length y.length with|aa=>Q .next (j0 y l ρ) h|ae=>False) v):=λρ σ Q h=>
 a19 ((ev ρ).bind h λτ v w l r k=>by
  rw[<-ha.length]
  refine C0 hh r k λxs hl k υ ws l2 e r2=> ?_
  rw[<-F1 y xs ρ nd hl.symm,<-e] at k
  exact bx (NY ha.iK xs.reverse ws.reverse ρ υ (by rw[sU,sU];exact hl) r2.iK k) (λ_ _ p=>PA.up (λa b o z _=>l2 _ _ _<|l _ _ _ z) p) λ_ _=>id) hs hw
theorem VX(ev: ∀ρ,a3 (x.at ρ) Ar (aQ e x.env)<|f ρ):c_ x Ar (hg (.Return (U e) pos) x.env) (λρ h Q=>f ρ h λv h=>Q (.ret v) ρ h):=λρ σ Q h=>
 Si ((ev ρ).map h λτ v w l r k=>PS.dc (St.kj l) (.ret r) k)
theorem Tl:c_ x Ar (hg (.Return Y pos) x.env) (λρ h Q=>Q (.ret .none) ρ h):=λρ σ Q h=>wpAny_Return_none (PS.dc (λ_ _ _ e _=>e) (.ret .none) h)
theorem S7(hi:interactive x.env=ae)(hs:Sj e Y pos.line x.env=cF ae)(ev: ∀ρ,a3 (x.at ρ) Ar (aQ e x.env)<|f ρ):
  c_ x Ar (hg (.Expr e pos) x.env) (λρ h Q=>f ρ h λ_ h=>Q .next ρ h):=λρ σ Q h=>by
 rw[exec_Expr x.env e pos hi hs]
 exact aF (jk<|aF<|(ev ρ).map h λτ v w l r k=>wpAny_dropValue<|PS.dc (St.kj l) .next k)
theorem SU:c_ x Ar (hg (.Pass pos) x.env) (λρ h Q=>Q .next ρ h):=λρ σ Q h=>aF (jk<|bV<|PS.dc (λ_ _ _ e _=>e) .next h)
theorem am0:c_ x Ar (hg (.Continue pos) x.env) (λρ h Q=>Q .cont ρ h):=λρ σ Q h=>aF (jk<|bV<|PS.dc (λ_ _ _ e _=>e) .cont h)
theorem aM7{t}{a b}{ft:L->H->(H->Prop)->(H->Prop)->Prop}{j o}(c: ∀ρ,dS (x.at ρ) Ar (isTrue t x.env<|aQ t x.env)<|ft ρ)(ea:c_ x Ar (kM a x.env) j)(eb:c_ x Ar (kM b x.env) o):
  c_ x Ar (hg (.If t a b pos) x.env) (λρ h Q=>ft ρ h (λh=>j ρ h Q) λh=>o ρ h Q):=λρ σ Q h=>
 wpAny_If ((c ρ).branch h (λτ l k=>bx (ea ρ τ Q k) (λ_ _ p=>PS.aG (St.kj l) p) λ_ _=>id) λτ l k=>bx (eb ρ τ Q k) (λ_ _ p=>PS.aG (St.kj l) p) λ_ _=>id)
theorem U6:c_ x Ar (kM [] x.env) (λρ h Q=>Q .next ρ h):=λρ σ Q h=>Be (PS.dc (λ_ _ _ e _=>e) .next h)
theorem JK{a}{r}{f g}(ea:c_ x Ar (hg a x.env) f)(er:c_ x Ar (kM r x.env) g):
  c_ x Ar (kM (a::r) x.env) (λρ h Q=>f ρ h λfl ρ h=>match fl with|.next=>g ρ h Q|fl=>Q fl ρ h):=λρ σ Q h=>
 q5 (bx (ea ρ σ _ h) (λfl s p=>p.casesOn λb τ v l r k=>by
  cases r with
  |next=>exact bx (er b τ Q k) (λ_ _ p=>PS.aG l p) λ_ _=>id
  |brk=>exact PS.dc l .brk k
  |cont=>exact PS.dc l .cont k
  |ret r=>exact PS.dc l (.ret r) k) λ_ _=>id)
theorem aP4{j}{i}{p}{t}(hn:ah x.ns i=U j)(hl:x.env.kindOf j=U .local)(ev: ∀ρ,a3 (x.at ρ) Ar (aQ e x.env)<|f ρ):
  c_ x Ar (hg (.AugAssign (.Name j t) (nR p) e pos) x.env) (λρ h Q=>gh ρ i λa=>f ρ h λb h=>mh h (λv h=>Q .next (cX ρ i v) h) p a b):=λρ σ Q h=>
 q7 h λv hv h=>wpAny_AugAssign_Name (σ.Vg hn hl hv λw r z=>z _ ((ev ρ).bind h λτ b c l rb k=>xf (Da k (r.aG l.fl) rb) λυ v w l2 r2 k=>
  vI hn (by rw[hl];exact λz=>nomatch z) r2 k λφ lo _ k=>PS.dc (λa b o z n=>lo a b o (l2 _ _ _<|l _ _ _ z) n) .next k))
theorem TD{a}{m}{p}{t}{j:L->H->(V->H->Prop)->Prop}(hn:m <gA.length)(ea: ∀ρ,a3 (x.at ρ) Ar (aQ a x.env)<|j ρ)(ev: ∀ρ,a3 (x.at ρ) Ar (aQ e x.env)<|f ρ):
  c_ x Ar (hg (.AugAssign (.Attribute a (cM m) t) (nR p) e pos) x.env) (λρ h Q=>j ρ h λc h=>j6 I h (λu h=>f ρ h λb h=>mh h (λv h=>oq I h m v (λh=>Q .next ρ h) c) p u b) c m):=λρ σ Q h=>
 wpAny_AugAssign_AttributeAny ((ea ρ).bind h λτ c y l ra k=>xf (Hk hn k ra) λυ u g l2 ru k=>(ev ρ).bind k λφ b q l3 rb k=>xf (Da k (ru.aG l3.fl) rb) λψ v w l4 rv k=>
  KE k rv (((ra.aG l2.fl).aG l3.fl).aG l4.fl) λi e k=>PS.dc (λa b o z _=>e▸l4 _ _ _ (l3 _ _ _<|l2 _ _ _<|l _ _ _ z)) .next k)
theorem ay5{a i}{y}{A}{t j:L->H->(V->H->Prop)->Prop}(hi: ∀ov iv new,augStore i ov iv new=(do iQ [new,ov,iv] (xx ov iv new);xp [new,ov,iv] [];cF .next))
  (ea: ∀ρ,a3 (x.at ρ) Ar (aQ a x.env)<|t ρ) (ei: ∀ρ,a3 (x.at ρ) Ar (aQ i x.env)<|j ρ) (ev: ∀ρ,a3 (x.at ρ) Ar (aQ e x.env)<|f ρ):
  c_ x Ar (hg (.AugAssign (.Subscript a i A) (nR y) e pos) x.env) (λρ h Q=>t ρ h λc h=>j ρ h λvi h=>gj h (λu h=>f ρ h λb h=>mh h (λv h=>nF h v (λh=>Q .next ρ h) c vi) y u b) c vi):=λρ σ Q h=>
 wpAny_AugAssign_SubscriptAny ((ea ρ).bind h λτ c R l ra k=>(ei ρ).bind k λυ vi J l2 ri k=>xf (Pj k (ra.aG l2.fl) ri).2 λφ u q l3 ru k=>(ev ρ).bind k λψ b N l4 rb k=>xf (Da k (ru.aG l4.fl) rb) λD v w l5 rv k=>
  bx (HW k rv ((((ra.aG l2.fl).aG l3.fl).aG l4.fl).aG l5.fl)<|((ri.aG l3.fl).aG l4.fl).aG l5.fl) (λ_ _ p=>p.casesOn λT g k=>PS.dc (λa b o z _=>g _ _ _<|l5 _ _ _<|l4 _ _ _<|l3 _ _ _<|l2 _ _ _<|l _ _ _ z) .next k) λ_ _=>id) hi
theorem X5{m}{f:L->H->(Fl->L->H->Prop)->Prop}(h: ∀ρ h Q,¬f ρ h Q):c_ x Ar m f:=λρ σ Q q=>(h _ _ _ q).elim
theorem am8{b}{hd}{a}{f}(e:c_ x Ar (kM b x.env) f):c_ x Ar (hg (.Try b (hd::a) [] [] pos) x.env) f:=λρ σ Q h=>
 a20 (bx (e ρ σ Q h) (λfl s q=>match fl,q with
  |.next,q=>Be q
  |.brk,q=>q
  |.cont,q=>q
  |.ret _,q=>q) λ_ _ q=>q.elim)
end
section
variable{x:Cx}{ρ0:L}{σ:St<|x.at ρ0}{Ar:cV}{tg:Expr}{it:au}{g:H->Prop}{pos:Pos}{Q:Fl->L->H->Prop}
theorem St.Su(σ:St x):σ.lo σ:=λ_ _ _ e _=>e
inductive LW (σ:St<|x.at ρ0) (F:L->H->Prop):bA->Prop
 |mk (ρ:L) (τ:St<|x.at ρ):σ.lo τ->F ρ τ.A->LW σ F τ.s
theorem aD0{ft:L->H->(H->Prop)->(H->Prop)->Prop}(c: ∀ρ,dS (x.at ρ) Ar (isTrue t x.env<|aQ t x.env)<|ft ρ)(eb:c_ x Ar (kM b x.env) j):
  c_ x Ar (hg (.While t b [] pos) x.env) (λρ h Q=> ∃n,iZ ft j n ρ h Q):=λρ0 σ Q h=>h.elim λn h=>
 wpAny_While (codeAny_whileLoop (λn s=>LW σ (λρ h=>iZ ft j n ρ h Q) s) (λn s q=>q.casesOn λρ τ l k=>match n,k with
  |n+1,k=>(c ρ).branch k (λυ l2 k=>
    have l2:=St.lo.trans l (St.kj l2)
    bx (eb ρ υ _ k) (λfl s p=>p.casesOn λa φ v l3 r k=>by
     have l3:=St.lo.trans l2 l3
     cases r with
     |next=>exact k.elim λh' k=>⟨n,n5 _,LW.mk (σ:=σ) a (φ.oJ k.1) l3 k.2⟩
     |cont=>exact k.elim λh' k=>⟨n,n5 _,LW.mk (σ:=σ) a (φ.oJ k.1) l3 k.2⟩
     |brk=>exact PS.dc l3 .next k
     |ret r=>exact PS.dc l3 (.ret r) k) λ_ _ q=>q.elim)
   λυ l2 k=>Be<|PS.dc (St.lo.trans l<|St.kj l2) .next k) n<|LW.mk ρ0 σ (St.Su σ) h)
theorem qh.step{σ:St x}(Iqv:qh tg it g){a:bA->Prop}{X1:au->bA->Prop}{E}(hh:Ar.handled=Y)(at_:Iqv.at_ xs σ.R)(ga:g σ.A)
  (h0:xs=[]-> ∀τ:St x,τ.A=σ.A->lZ Iqv.own σ.R τ.R->a τ.s) (h1: ∀v r,xs=v::r-> ∀(τ:St x) w,τ.A=σ.A->lZ Iqv.own σ.R τ.R->Iqv.at_ r τ.R->ax τ.R v w->X1 w τ.s):
  aw (M x) Ar (A_ it) (λq s=>match q with
   |Y=>a s
   |U w=>aw (M x) Ar (G3 tg it w) (λ_ s'=>X1 w s') E s) E σ.s:=
 bx (Iqv.next σ xs (λq s=>match q with
  |Y=>a s
  |U w=>X1 w s) hh at_ ga (by
  cases xs
  ·exact h0 rfl
  ·exact h1 _ _ rfl)) (λq s z=>by
  cases q
  ·exact z
  ·exact bx z (λ_ _ z=>z) λ_ _ q=>q.elim) λ_ _ q=>q.elim
inductive LF (σ:St<|x.at ρ0) (Iqv:qh tg it g) (B:V->L->H->(Fl->L->H->Prop)->Prop) (Q:Fl->L->H->Prop) (n:Nat):bA->Prop
 |mk (xs:List V) (ρ:L) (τ:St<|x.at ρ):xs.length=n->σ.lo τ->Iqv.at_ xs τ.R->dg B g xs ρ τ.A Q->LF σ Iqv B Q n τ.s
theorem am4(hh:Ar.handled=Y){it}{D:L->H->It->Prop}(hs: ∀y,Bf it x.env y=cF y)
  (ei: ∀ρ,qc (x.at ρ) Ar tg it<|D ρ) (ea:qz x Ar tg W) (eb:c_ x Ar (kM b x.env) X):
  c_ x Ar (hg (.For tg it b [] pos) x.env) (λρ h Q=>D ρ h λxs g h=>dg (λv ρ h Q=>W v ρ h λρ h=>X ρ h Q) g xs ρ h Q):=λρ0 σ Q h=>
 wpAny_For (bx (ei ρ0 σ _ h) (λw s q=>bx q (λiv s q=>q.casesOn λt xs g Iqv l0 own at_ k=>
  codeAny_forLoop_any (LF σ Iqv (λv ρ h Q=>W v ρ h λρ h=>X ρ h Q) Q) (λn s q=>q.casesOn λxs ρ τ hn l at_ k=>
   have keep: ∀{c:L} {υ:St<|x.at c},lZ Iqv.own τ.R υ.R->σ.lo υ:=λd2 a b o e n=>d2 a b o (λz=>absurd e<|own a b o z) (l a b o e n)
   Iqv.step hh at_ (match xs,k with
    |[],k=>k.1
    |_::_,k=>k.1) λe υ A d2=>by subst e;exact Be (PS.dc (keep d2) .next<|A▸k.2)
    λv r e υ w A d2 j J=>by
     subst e
     exact bx (ea ρ υ _ w _ J<|A▸k.2) (λ_ s p=>p.casesOn λc φ l2 k=>bx (eb c φ _ k) (λfl s p=>p.casesOn λi ψ u l3 r k=>by
       have l4:=St.lo.trans l2 l3
       have l5:=St.lo.trans (keep d2) l4
       have f:=Iqv.keep (λa b o n e=>l4 a b o e λz=>absurd z n) j
       cases r with
       |next=>exact k.elim λh' k=>⟨_,hn▸n5 _,LF.mk (σ:=σ) _ i (ψ.oJ k.1) rfl l5 f k.2⟩
       |cont=>exact k.elim λh' k=>⟨_,hn▸n5 _,LF.mk (σ:=σ) _ i (ψ.oJ k.1) rfl l5 f k.2⟩
       |brk=>exact PS.dc l5 .next k
       |ret r=>exact PS.dc l5 (.ret r) k) λ_ _ q=>q.elim) λ_ _ q=>q.elim)
   xs.length<|LF.mk xs ρ0 t rfl (St.kj l0) at_ k) λ_ _=>id) λ_ _=>id) hs
end
noncomputable def pX(env:Env):List (Str×n8)->List (Str×ai)->List (Str×ai)
 |[],cs=>cs
 |(n,k)::r,cs=>pX env r (if(k== .free)=aa then(n,(env.cells.lookup n).getD 0)::cs else cs)
theorem NX{k:n8}(h:(k== .free)=aa):k= .free:=by cases k <;>first|rfl|cases h
theorem Km env: ∀(ns:List (Str×n8)) (cs:List (Str×ai)),(∀n,(n,n_)∈ns->(env.cells.lookup n).isSome=aa)->
  (forIn ns cs λx r=>(match x with|(name,kind)=>if(kind==n_)=aa then do let a<-Sk env name;cF (Hc ((name,a)::r)) else cF (Hc r):Sem (ForInStep (List (Str×ai)))))=cF (pX env ns cs)
 |[],cs,_=>rfl
 |(n,k)::r,cs,h=>by
  have ih:=Km env r (if(k== .free)=aa then(n,(env.cells.lookup n).getD 0)::cs else cs) λm hm=>h m (.tail _ hm)
  rw[aX2]
  dsimp only
  refine Eq.trans ?_ ih
  refine if hk:(k==n_)=aa then ?_ else ?_
  ·refine(u4.mp<|h n<|NX hk▸ .head _).elim λa ha=> ?_
   have e:Sk env n=cF a:=by unfold Sk;rw[ha]
   rw[aM hk,aM hk,e,ha];rfl
  ·rw[aE hk,aE hk];rfl
theorem I6(h: ∀n,(n,n_)∈scope.names->(env.cells.lookup n).isSome=aa):closureFor scope env=cF (pX env scope.names []):=by
 unfold closureFor
 rw[bind_pure]
 exact Km env scope.names [] h
theorem FX: ∀(ns:List<|Str×n8) (cs:List<|Str×ai),(∀n,(n,n_)∈ns->(env.cells.lookup n).isSome=aa)->(∀n c,cs.lookup n=U c->env.cells.lookup n=U c)->
  ∀n c,(pX env ns cs).lookup n=U c->env.cells.lookup n=U c
 |[],_,_,h=>h
 |(m,k)::r,cs,h0,h=>FX r _ (λn hn=>h0 n<|.tail _ hn) λb c' e'=>if hk:(k==n_)=aa then by
   rw[aM hk,pE] at e'
   cases q:b==m with
   |true=>
    cases c9 q
    refine(u4.mp<|h0 m<|NX hk▸ .head _).elim λa ha=> ?_
    rw[q,ha] at e'
    exact ha.trans e'
   |false=>rw[q] at e';exact h _ _ e'
  else h _ _ (by rw[aE hk] at e';exact e')
theorem LD: ∀(ns:List<|Str×n8) (cs:List<|Str×ai) (n:Str),((n,n_)∈ns\/ ∃c,(n,c)∈cs)-> ∃c,(n,c)∈pX env ns cs
 |[],_,_,h=>h.elim (λh=>dz h) id
 |(m,k)::r,cs,n,h=>LD r _ n (h.elim (λh=>(bB.mp h).elim (λh=>by cases h;exact .inr ⟨_,.head _⟩) .inl) λh=> .inr (h.imp λc h=>if hk:(k==n_)=aa then by rw[aM hk];exact .tail _ h else by rw[aE hk];exact h))
abbrev OM(x:Cx):List Str->List Nat->Prop:=bW λn i=>ah x.ns i=U n
abbrev HF(ρ:L):List Nat->L->Prop:=bW λi o=> ∃v,o=U v/\ah ρ i=U (U v)
theorem I_{G:Prop}: ∀{cs:List Nat} {P:L->Prop},iB ρ cs P->(∀a,HF ρ cs a->P a->G)->G
 |[],P,h,k=>k [] .nil h
 |c::cs,P,h,k=>q7 h λv hv h=>I_ h λa q p=>k (U v::a) (.cons ⟨v,rfl,hv⟩ q) p
noncomputable abbrev ou(a:List Expr)(env:Env):Sem Bool:=forIn a aa λc r=>if r=aa then do let ok<-isTrue c env (aQ c env);cF (Hc ok) else cF (Hc r)
inductive m_ (x:Cx) (scope:Scope) (ns:List Str):Cx->Prop
 |mk (cl:List<|Str×ai) (C:ai) (f:nQ (lH scope cl C x.env) ns) (ρ:L):m_ x scope ns ⟨x.T,lH scope cl C x.env,ns,x.gens,x.os,f,ρ⟩
structure lT(x:Cx)(scope:Scope)(n:Str)(cs:List Nat)(ns:List Str):Prop where
 kind:scope.kind= .function
 cell: ∀y∈scope.names,y.2≠ .cell
 names: ∀y∈scope.names,y.2= .local->scope.names.lookup y.1=U .local
 free: ∀m,(m,n_)∈scope.names->m∈ns
 mz: ∀m,m∈ns->(m,n_)∈scope.names/\(Bg scope x.env).names.lookup m=U .cell/\x.env.kindOf m≠U .local
 BX:(Bg scope x.env).names.lookup n=U .local
 nd:(n::ns).Nodup
 iB:OM x ns cs
section
variable{x:Cx}{σ:St x}{Ar:cV}{scope:Scope}{n:Str}{cs:List Nat}{ns:List Str}
theorem S9:dS x Ar (ou [] x.env) (λh T Fa=>tv h T Fa<|.bool aa):=λσ K h=>wpAny_tests_nil (PV.dc rfl (by cases h with|DA a _=>exact a rfl))
theorem aw5(ev:dS x Ar (isTrue e x.env<|aQ e x.env) f):dS x Ar (ou [e] x.env) f:=λσ K h=>wpAny_tests_one (ev σ K h)
theorem ze{l}{a:α}(h:a∈l): ∃j,ah l j=U a:=(List.getElem_of_mem h).elim λj z=>z.elim λhj e=>⟨j,(lK ..).trans<|(G9 hj).trans<|aA U e⟩
theorem lT.Sw(cok:lT x scope n cs ns)(σ:St x){m:Str}{G:Prop}(hm:m∈ns)(k: ∀j i c o cv,ah ns j=U m->ah cs j=U i->x.env.cells.lookup m=U c->σ.R.kp .own c o->o.data= .cell cv->(∀v,ah x.ρ i=U (U v)-> ∃w,cv=U w/\ax σ.R v w)->G):G:=
 (ze hm).elim λj hj=>cok.iB.ah hj λi hi h=>(σ.fr.var i m h).casesOn (λq=>absurd q (cok.mz m hm).2.2) λc o cv _ h2 h3 h4 a=>k j i c o cv hj ((lK ..).trans hi) h2 h3 h4 a
theorem lT.some(cok:lT x scope n cs ns)(σ:St x): ∀m,(m,n_)∈scope.names->(x.env.cells.lookup m).isSome=aa:=λm hm=>cok.Sw σ (cok.free m hm) λj i c o cv _ _ h _ _ _=>h▸rfl
theorem lT.im(cok:lT x scope n cs ns)(σ:St x) C:nQ (lH scope (pX x.env scope.names []) C x.env)<|n::ns:=
 have b:=FX scope.names [] (cok.some σ) λ_ _ e=>bQ e
 ⟨cok.kind,x.st.gw,x.st.blt,cok.nd,λm a c e e'=>x.st.apart m a c (b _ _ e)<|b _ _ e'⟩
end
section
variable{σ:St x}{Ar:cV}{ns:List Str}{K:V->H->Prop}
abbrev Cx.comp(x:Cx)(f:nQ (lH scope a C x.env)<|n::ns)(ρ:L):Cx:=⟨x.T,lH scope a C x.env,n::ns,x.gens,x.os,f,ρ⟩
theorem Fr.seq(f:Fr x R)(e:R.kp .own a o)(ho:o.data= .seq xs k):Fr x<|R.bw a<|.kp .own p:=
 have ne: ∀{c o'},R.kp .own c o'->(o'.data= .seq xs k->False)->c≠a:=λg h z=>h ((aA Obj.data (jX g<|iL z e).2).trans ho)
 ⟨f.len,f.dR.casesOn λo' m j e' n h=>⟨o',m,j,(Rm.cQ<|ne e' λz=>n.casesOn λ_ _ h0 _ _ _=>nomatch h0.symm.trans z).trans e',n,λi n v a b c=>(h i n v a b c).imp λ_ q=>⟨q.1,q.2.aG<|qI e⟩⟩,
  λi n z=>(f.var i n z).casesOn .dR λc o cv h1 h2 h3 h4 l=> .cell c o cv h1 h2 ((Rm.cQ<|ne h3 λz=>nomatch h4.symm.trans z).trans h3) h4 λv e'=>(l v e').imp λ_ q=>⟨q.1,q.2.aG<|qI e⟩⟩
theorem Te(τ:St x)(cok:lT x scope n cs ns)(g:HF x.ρ cs y){C:ai}(hC:C=τ.s.heap.objs.size+1)(hn:h.Ns C λm=>([]:List<|Str×au).reverse.lookup m)(keep: ∀a o,τ.s.heap.get? a=U o->h.get? a=U o)(hD:h.get? τ.s.heap.objs.size=U (cy [] 0)){G:Prop}
  (k: ∀(υ:St<|x.comp (cok.im τ C)<|Y::y),υ.s={τ.s with heap:=h,toks:=t}->υ.A=τ.A->τ.R.le υ.R->υ.R.kp .own τ.s.heap.objs.size (cy [] 0)->G):G:=
 hn.elim λo hn=>hn.elim λes hn=>hn.elim λep hn=>by
  have e1:τ.R C=Y:=τ.bg.dm _ (hC▸jj _)
  have nDC:τ.s.heap.objs.size≠C:=λz=>s_ _ (hC.symm.trans z.symm)
  have l1:=Rm.jd (r:= .kp .own<|cy [] 0) τ.new
  have e2:τ.R.bw τ.s.heap.objs.size (.kp .own<|cy [] 0) C=Y:=(Rm.cQ nDC.symm).trans e1
  have l:τ.R.le<|(τ.R.bw τ.s.heap.objs.size<|.kp .own<|cy [] 0).bw C<|.kp .own o:=λa b p z=>Rm.jd e2 _ _ _ (l1 _ _ _ z)
  have m1:=τ.bg.mW _ hD (λb o _=>keep b o) (b:= .own) (τ.bg.j9 λz=>bH <|τ.new.symm.trans z) (λ_ z=>bH <|τ.new.symm.trans z) λ_ z=>bH <|τ.new.symm.trans z
  have m2:=m1.mW C hn.1 (λb o _=>id) (b:= .own) (m1.j9 λz=>bH <|e2.symm.trans z) (λ_ z=>bH <|e2.symm.trans z) λ_ z=>bH <|e2.symm.trans z
  refine k ⟨_,τ.A,{τ.s with heap:=h,toks:=t},m2,λa o e=>l _ _ _<|τ.bX a o e,τ.gens,τ.os,⟨aA (· +1)<|g.length.trans cok.iB.length,⟨o,_,es.size,Rm.cN ..,⟨es,ep,hn.2.1,hn.2.2.1,hn.2.2.2,dO _⟩,λi m v a b c=> ?_⟩,λi m a=> ?_⟩⟩ rfl rfl l ((Rm.cQ nDC).trans<|Rm.cN ..)
  ·cases i with
   |zero=>exact bQ (bM c)
   |succ i=>exact nomatch((cok.mz m<|pp a).2.1).symm.trans b
  ·cases i with
   |zero=>exact p7 a (.dR cok.BX)
   |succ i=>
    have hm:=pp (l:=ns) a
    refine cok.iB.ah a λw s h=>(τ.fr.var w m h).casesOn (λq=>absurd q (cok.mz m hm).2.2) λc o cv _ h2 h3 h4 A=> ?_
    refine(LD (env:=x.env) scope.names [] m<|.inl (cok.mz m hm).1).elim λc' f=>(u4.mp<|J1 f).elim λc' f=> ?_
    have q:=bM ((FX scope.names [] (cok.some τ) (λ_ _ e=>bQ <|e) _ _ f).symm.trans h2)
    exact .cell c o cv (.inl (cok.mz m hm).2.1) (q▸f) (l _ _ _ h3) h4 λv hv=>g.ah ((lK ..).trans s) λov u j=>j.elim λD j=>by
     cases((lK ..).trans u).symm.trans hv
     cases j.1
     exact(A v j.2).imp λ_ q=>⟨q.1,q.2.aG l.fl⟩
inductive PC (σ:St x) (K:V->H->Prop) (w:au) (C:ai):bA->Prop
 |mk (τ:St x) (v:V) (o:Obj):σ.le τ->(∀b o,¬σ.R.kp b C o)->τ.R.kp .own C o->(∃m k,iN o m k)->ax τ.R v w->K v τ.A->PC σ K w C τ.s
def St.out(σ:St x)(υ:St y)(b:y.gens=x.gens)(ho:y.os=x.os) S A(m:c2 S A υ.s.heap)(l:σ.R.le S):St x:=⟨S,A,υ.s,m,λa o e=>l _ _ _<|σ.bX a o e,b▸υ.gens,ho▸υ.os,σ.fr.keep l⟩
theorem SD(υ:St y)(c:y.gens=x.gens)(ho:y.os=x.os)(l:σ.R.le υ.R)(e:υ.R.kp .own D<|cy us m)(n1: ∀b o,¬σ.R.kp b D o)(n2: ∀b o,¬σ.R.kp b C o)(ne:C≠D)(r:aV υ.R vs us)(f:υ.R.kp .own C h)(hC: ∃m k,iN h m k)
  (k:jO fr vs υ.A K):PC σ K (.ref D) C υ.s:=
 have l': ∀(r),σ.R.le<|υ.R.bw D r:=λr a b o z=>(Rm.cQ λy=>n1 b o<|iL y.symm z).trans (l a b o z)
 have fl: ∀(r),υ.R.fl<|υ.R.bw D r:=λr a o z=>(Rm.cQ<|uh z e).trans z
 have na:=υ.bg.j9 λz=>bH <|e.symm.trans z
 match fr,k with
 |aa,k=>PC.mk (σ.out υ c ho _ υ.A (υ.bg.mW D (υ.at e) (λ_ _ _=>id) na (λ_ z=>fU (jX z e).1) λ_ z=>bH <|e.symm.trans z)<|l' _) (.fl vs) h (l' _) n2 ((Rm.cQ ne).trans f) hC (.fl (Rm.cN ..)<|r.aG<|fl _) k
 |ae,k=>PC.mk (σ.out υ c ho (υ.R.bw D .abs) (υ.A.cq D<|.list vs) (υ.bg.abs D (λ_=>Rm.cQ) (λ_ _ _=>id) (Rm.cN ..) (λ_ z=>fU (jX z e).1) (λ_ z=>bH <|e.symm.trans z)<|.list (υ.at e)<|r.aG<|fl _)<|l' _) (.ref D) h (l' _) n2 ((Rm.cQ ne).trans f) hC (.ref _) (k D na)
theorem Fr.Mw(f0:Fr x R)(n: ∀b o,¬R.kp b C o):x.env.locals≠C:=f0.dR.casesOn λo m k e _ _ z=>n _ _ (iL z.symm e)
theorem Fr.Yr{R S}(f0:Fr x R)(n: ∀b o,¬R.kp b C o)(e:S.kp .own C o)(f:Fr (x.at ρ) S):Fr (x.at ρ)<|S.d2 C:=
 have fl:S.fl<|S.d2 C:=λa o z=>(aE<|uh z e).trans z
 ⟨f.len,f.dR.casesOn λo m k e ns h=>⟨o,m,k,(aE<|f0.Mw n).trans e,ns,λi n v a b c=>(h i n v a b c).imp λ_ q=>⟨q.1,q.2.aG fl⟩⟩,
  λi m z=>(f.var i m z).casesOn .dR λc o cv h1 h2 h3 h4 p=> .cell c o cv h1 h2 ((aE λy=>(f0.var i m z).casesOn (λq=>h1.elim (λh1=>nomatch h1.symm.trans q) λh1=>nomatch h1.symm.trans q) λc' o' l _ j g _ _=>n _ _<|iL (y.symm.trans<|bM<|h2.symm.trans j) g).trans h3) h4 λv e'=>(p v e').imp λ_ q=>⟨q.1,q.2.aG fl⟩⟩
def St.drop(σ:St x)(τ:St<|x.at ρ)(n: ∀b o,¬σ.R.kp b C o)(e:τ.R.kp .own C o)(sb:sV C τ.s.heap h):St<|x.at ρ:=
 ⟨τ.R.d2 C,τ.A,{τ.s with heap:=h},τ.bg.jx C (λb z=>aE z) (λ_ _ _=>id) (λb o z q=>(sb.2 b z).trans q) (λa o z=>(aE<|uh z e).trans z) (λ_ _ z=>bH <|(aM rfl).symm.trans z) (λ_ z=>bQ <|(τ.bg.j9 λy=>bH <|e.symm.trans y).symm.trans z) (λ_ z=>bH <|e.symm.trans z) λ_=>aM rfl,
  λa o z=>(aE λy:a=C=>n .fr o<|iL y.symm<|σ.bX a o z).trans<|τ.bX a o z,τ.gens,τ.os,σ.fr.Yr n e τ.fr⟩
theorem Ul(q:PC σ K w C s): ∃m,s.heap.Ns C m/\ ∀h,sV C s.heap h->PV ax σ K w {s with heap:=h}:=q.casesOn λτ v o l n e hN r k=>hN.elim λm hN=>hN.elim λ_ hN=>⟨m,τ.ns e hN,λh sb=>
 PV.mk (σ.drop τ n e sb) v w (λa b o z=>(aE λy:a=C=>n b o<|iL y.symm z).trans<|l a b o z) (r.aG λa o z=>(aE<|uh z e).trans z) k⟩
end
section
variable{x:Cx}{σ:St x}{Ar:cV}{scope:Scope}{n:Str}{cs:List Nat}{ns:List Str}{K:V->H->Prop}{px pos:Pos}{iter elt:Expr}{ifs:List Expr}{ft:L->H->(H->Prop)->(H->Prop)->Prop}{fe:L->H->(V->H->Prop)->Prop}{fr:Bool}
abbrev yx(ft:L->H->(H->Prop)->(H->Prop)->Prop)(fe:L->H->(V->H->Prop)->Prop)(a:L)(v:V)(h:H)(K:Option V->H->Prop):Prop:=ft (U v::a) h (λh=>fe (U v::a) h λw h=>K (U w) h) λh=>K .none h
abbrev PB(fr:Bool)(b:H->It->Prop)(ρ:L)(cs:List Nat)(ft:L->H->(H->Prop)->(H->Prop)->Prop)(fe:L->H->(V->H->Prop)->Prop)(h:H)(Q:V->H->Prop):Prop:=
 b h λxs g h=>a_ xs.length/\iB ρ cs λa=>hO (λv h K=>ft (U v::a) h (λh=>fe (U v::a) h λw h=>K (U w) h) λh=>K .none h) g xs h λws h=>jO fr ws h Q
inductive LC (σ:St x) {C:ai} {cl:List<|Str×ai} (f:nQ (lH scope cl C x.env)<|n::ns) (κ:L) (D:ai) {it:au} {g:H->Prop} (Iqv:qh (.Name n px) it g) (ft:L->H->(H->Prop)->(H->Prop)->Prop) (fe:L->H->(V->H->Prop)->Prop) (fr:Bool) (K:V->H->Prop) (k:Nat):bA->Prop
 |mk (xs:List V) (q:Option V) (υ:St<|x.comp f<|q::κ) (vs:List V) (us:List au) (m:Nat) (P:List V->H->Prop):xs.length=k->σ.R.le υ.R->υ.R.kp .own D (cy us m)->aV υ.R vs us->a_ (vs.length+xs.length)->Iqv.at_ xs υ.R->(∀ws h,P ws h->jO fr (vs++ws) h K)->
   hO (yx ft fe κ) g xs υ.A P->LC σ f κ D Iqv ft fe fr K k υ.s
theorem ao5{B g h K}{xs:List V}(q:hO B g xs h K):g h:=by
 cases xs <;>exact q.1
theorem X4(hh:Ar.handled=Y){C D}{A}(f:nQ (lH scope A C x.env)<|n::ns)(hk:(Bg scope x.env).names.lookup n=U .local)(t:L){it}{g}(Iqv:qh (.Name n px) it g)
  (own: ∀a b o,Iqv.own a-> ¬σ.R.kp b a o) (n1: ∀b o,¬σ.R.kp b D o) (n2: ∀b o,¬σ.R.kp b C o) (ne:C≠D)
  (et: ∀x',m_ x scope (n::ns) x'->dS x' Ar (ou ifs x'.env) (ft x'.ρ)) (ee: ∀x',m_ x scope (n::ns) x'->a3 x' Ar (aQ elt x'.env) (fe x'.ρ)) {k} {s} (h:LC σ f t D Iqv ft fe fr K k s):
  n9 (M x) Ar (.compLoop (.ListComp elt [⟨.Name n px,iter,ifs,0⟩] scope pos) 0 it (.ref D)<|lH scope A C x.env) (λr s'=>match r with|.ok _=>PC σ K (.ref D) C s'|.error _=>False) s:=
 codeAny_compLoop_tests (LC σ f t D Iqv ft fe fr K) (λk s q=>q.casesOn λxs q υ vs us m P hn le eD r hl at_ hP h=>
  bx (Iqv.step (X1:=λw s=>aw (M x) Ar (Hb (.Name n px) (lH scope A C x.env) w) (λ_ Q=>aw (M x) Ar (ou ifs<|lH scope A C x.env) (λok y=>
    if ok=aa then aw (M x) Ar (aQ elt<|lH scope A C x.env) (λu N=>aw (M x) Ar (call (.builtin "list.append") [.ref D,u]) (λ_ R=> ∃m,m <k/\LC σ f t D Iqv ft fe fr K m R) N0 N) N0 y
    else∃m,m <k/\LC σ f t D Iqv ft fe fr K m y) N0 Q) N0 s) hh at_ (ao5 h)
   (λe τ X d2=>by
    subst e
    have keep:=λ{a b o} e=>d2 a b o (λz=>absurd e<|own a b o z) (le a b o e)
    exact τ.fr.dR.casesOn λoC mC k e nC _=>SD (σ:=σ) τ rfl rfl (λa b o e=>keep e) (d2 _ _ _ (λ_ z=>fU z) eD) n1 n2 ne (r.aG d2.fl) e ⟨mC,k,nC⟩<|c8 vs▸hP [] _ (X▸h.2))
   λv rs e τ w X d2 W rW=>by
    subst e
    have keep:=λ{a b o} e=>d2 a b o (λz=>absurd e<|own a b o z) (le a b o e)
    refine Sh (vI (σ:=τ) (i:=0) (P:=λh=>yx ft fe t v h λo h=>hO (yx ft fe t) g rs h λws h=>match o with
     |U w=>P (w::ws) h
     |.none=>P ws h) rfl (λz=>nomatch hk.symm.trans z) rW (X▸h.2) λχ lo st h=> ?_)
    have st:=st hk
    have l7:=λa b o e=>st a b o (λz=>n2 b o<|iL z.symm e) (keep e)
    have eD2:χ.R.kp .own D<|cy us m:=st _ _ _ ne.symm (d2 _ _ _ (λ_ z=>fU z) eD)
    have J:=Iqv.keep (λa b o n e=>lo a b o e λz=>absurd z n) W
    have r2:=(r.aG d2.fl).aG (St.lo.fl lo)
    refine dS.branch (et _<|.mk A C f<|U v::t) h (λφ l h=> ?_) λφ l h=> ?_
    ·rw[aM rfl]
     refine(ee _<|.mk A C f<|U v::t).bind h λψ T u l2 ru h=> ?_
     have j:=l2 _ _ _ (l _ _ _ eD2)
     refine G2 R0 ⟨_,ψ.at j,rfl⟩ aY5 (aY6 _ _) (aY7 D us.toArray m u<|by rw[sL r2];exact jo<|ak (cg ..) hl) ⟨ψ.at j,(CT (λxs=>xs.push u) us m).elim λm' en=> ?_⟩
     rw[List.push_toArray] at en
     have e6:=(uW (u8 (·.push u)) (ψ.at j)<|en▸rfl).trans (aA U en)
     let Z:=ψ.own (U v::t) ψ.s.toks j e6 (A1 ..) (ψ.fr.seq j rfl)
     have fl:ψ.R.fl Z.R:=qI j
     refine⟨_,hn▸n5 _,LC.mk (σ:=σ) rs (U v) Z (vs++[T]) (us++[u]) m' (λws h=>P (T::ws) h) rfl (λa b o e=>(Rm.cQ λz=>n1 b o<|iL z.symm e).trans<|l2 _ _ _<|l _ _ _<|l7 _ _ _ e) (Rm.cN ..) (aV.aG (bW.append ((r2.aG l.fl).aG l2.fl)<|.cons ru .nil) fl)
      (by rw[aC,cG,c4 [T].length];exact hl) (Iqv.keep (λa b o n e=>(Rm.cQ λz=>n (jX (iL z.symm<|l2 _ _ _<|l _ _ _ e) j).1).trans<|l2 _ _ _<|l _ _ _ e) J) (λws h p=>by rw[aX];exact hP (T::ws) h p) h⟩
    ·rw[aE A2]
     exact⟨_,hn▸n5 _,LC.mk rs (U v) φ vs us m P rfl (λa b o e=>l _ _ _<|l7 _ _ _ e) (l _ _ _ eD2) (r2.aG l.fl) (ak (jj _) hl) (Iqv.keep (λa b o n e=>l _ _ _ e) J) hP h⟩)
   (λr s z=>by
    rcases r with _|w
    ·exact z
    ·exact(bx (aF z:aw (M x) Ar ((cF ()) >>=λ_=>Hb (.Name n px) (lH scope A C x.env) w) _ N0 s) (λ_ _ z=>bx z (λc _ z=>by
      cases c with
      |false=>exact z
      |true=>exact bx z (λ_ _ z=>bx z (λ_ _ z=>z) λ_ _ z=>z.elim) λ_ _ z=>z.elim) λ_ _ z=>z.elim) λ_ _ z=>z.elim)) λ_ _ z=>AN z) k h λ_=>rfl
theorem Ls(hh:Ar.handled=Y)(cok:lT x scope n cs ns)(Q: ∀x',m_ x scope (n::ns) x'->dS x' Ar (ou ifs x'.env) (ft x'.ρ))(N: ∀x',m_ x scope (n::ns) x'->a3 x' Ar (aQ elt x'.env) (fe x'.ρ))
  {A} {xs} {g} (τ:St x) (Iqv:qh (.Name n px) A g) (l:σ.le τ) (own: ∀a b o,Iqv.own a-> ¬σ.R.kp b a o) (at_:Iqv.at_ xs τ.R) (hl:a_ xs.length) (h:iB x.ρ cs λs=>hO (yx ft fe s) g xs τ.A λws h=>jO fr ws h K) {Z:au->ai->u5->bA->Prop}
  (z: ∀acc C r s',(match r with|.ok _=>PC σ K acc C s'|.error _=>False)->Z acc C r s'):aw (M x) Ar (newList []) (λacc c=>aw (M x) Ar (newFunctionEnv scope x.env.globals (pX x.env scope.names []) [] x.env.qual Y .none<|U x.env) (λcenv i=>
   n9 (M x) Ar (.compStart (.ListComp elt [⟨.Name n px,iter,ifs,0⟩] scope pos) 0 A acc {cenv with scope:=Bg scope x.env}) (λr s'=>Z acc cenv.locals r s') i) N0 c) N0 τ.s:=by
 refine I_ h λs j h=>u3 (wpAny_newFunctionEnv cok.cell (λy J=>dz J) (λw hns sb=> ?_) cok.kind)
 have hC:(τ.s.heap.push<|cy [] 0).objs.size=τ.s.heap.objs.size+1:=s9 ..
 have nDC:τ.s.heap.objs.size≠(τ.s.heap.push<|cy [] 0).objs.size:=λz=>s_ _ (hC.symm.trans z.symm)
 have old:=λa o e=>sb.extBut a o (λz=>Nat.lt_asymm (g9 e)<|z▸hC▸n5 _) (eA _<|eA _ e)
 refine Te (t:=τ.s.toks+([]:List<|Str×au).length) τ cok j hC hns old (sb.extBut _ _ nDC<|eA _<|g_ _ rfl) λυ es D l2 eD=> ?_
 have new: ∀{a},τ.R a=Y-> ∀b o,¬σ.R.kp b a o:=λe b o z=>bH <|e.symm.trans (l _ _ _ z)
 have f:=Iqv.keep (λa b o _ e=>l2 _ _ _ e) at_
 have ga:=D▸(match xs,h with
  |[],h=>h.1
  |_::_,h=>h.1)
 have loop:=xy (X4 (pos:=pos) (iter:=iter) hh (cok.im τ (τ.s.heap.push<|cy [] 0).objs.size) cok.BX s Iqv own (new τ.new) (new<|τ.bg.dm _<|hC▸jj _) nDC.symm Q N<|LC.mk xs Y υ [] [] 0 (λws h=>jO fr ws h K) rfl (λa b o e=>l2 _ _ _<|l _ _ _ e) eD .nil (by rw[j2,gK];exact hl) f (λws h p=>p)<|D▸h) (z _ _)
 have go:=codeAny_compStart_list loop (bx (Iqv.self (.mk _ _) υ xs (λu s'=>n9 (M x) Ar (.compLoop (.ListComp elt [⟨.Name n px,iter,ifs,0⟩] scope pos) 0 u (.ref τ.s.heap.objs.size)<|lH scope (pX x.env scope.names []) (τ.s.heap.push<|cy [] 0).objs.size x.env) (Z (.ref τ.s.heap.objs.size) (τ.s.heap.push<|cy [] 0).objs.size) s') hh f ga loop) (λ_ _ q=>q) λ_ _ q=>q.elim)
 rw[es] at go
 exact go
theorem aB3(hh:Ar.handled=Y)(cok:lT x scope n cs ns){a}(hs: ∀y,Bf iter x.env y=cF y)(ei:qc x Ar (.Name n px) iter a)
  (c: ∀x',m_ x scope (n::ns) x'->dS x' Ar (ou ifs x'.env) (ft x'.ρ)) (b: ∀x',m_ x scope (n::ns) x'->a3 x' Ar (aQ elt x'.env) (fe x'.ρ)):
  a3 x Ar (aQ (.ListComp elt [⟨.Name n px,iter,ifs,0⟩] scope pos) x.env)<|PB fr a x.ρ cs ft fe:=λσ K h=>by
 rw[eval_ListComp]
 exact a21 rfl hs (I6<|cok.some σ) cok.kind cok.names (bx (ei σ _ h) (λw s q=>bx q (λe s q=>q.casesOn λτ xs g Iqv l own at_ k=>
  Ls hh cok c b τ Iqv l own at_ k.1 k.2 λacc C r s' q=>match r,q with
   |.ok _,q=>Ul q
   |.error _,q=>q.elim) λ_ _=>id) λ_ _=>id)
theorem Vm(hh:Ar.handled=Y){t}{i}{p j}(cok: ∀ρ,lT (x.at ρ) scope n cs ns){u:L->H->It->Prop}
  (c:Sj (.ListComp elt [⟨.Name n px,iter,ifs,0⟩] scope pos) (U<|.Name t p) j.line x.env=cF aa) (hn:ah x.ns i=U t) (hl:x.env.kindOf t=U .local)
  (hs: ∀y,Bf iter x.env y=cF y) (ei: ∀ρ,qc (x.at ρ) Ar (.Name n px) iter<|u ρ)
  (D: ∀ρ x',m_ (x.at ρ) scope (n::ns) x'->dS x' Ar (ou ifs x'.env) (ft x'.ρ)) (f: ∀ρ x',m_ (x.at ρ) scope (n::ns) x'->a3 x' Ar (aQ elt x'.env) (fe x'.ρ)):
  c_ x Ar (hg (.Assign [.Name t p] (.ListComp elt [⟨.Name n px,iter,ifs,0⟩] scope pos) j) x.env) (λρ h Q=>PB fr (u ρ) ρ cs ft fe h λv h=>Q .next (cX ρ i v) h):=λρ σ Q h=>by
 rw[exec_Assign_Name_used _ _ _ _ c]
 refine aF (jk<|aF ?_)
 refine aF (bx (a21 rfl hs (I6<|(cok ρ).some σ) (cok ρ).kind (cok ρ).names (bx (ei ρ σ _ h) (λw s q=>bx q (λN s q=>q.casesOn λτ xs g Iqv l own at_ k=>
  Ls hh (cok ρ) (D ρ) (f ρ) τ Iqv l own at_ k.1 k.2 λacc C r s' q=>match r,q with
   |.error _,q=>q.elim
   |.ok _,q=>q.casesOn λυ v o le e A hN r k=>Sh (vI (σ:=υ) hn (λz=>nomatch hl.symm.trans z) r k λφ lo st k=>
    have e2:=st hl _ _ _ (σ.fr.Mw e).symm A
    hN.elim λm hN=>hN.elim λ_ hN=>⟨m,φ.ns e2 hN,λh sb=>PS.mk _ (σ.drop φ e e2 sb) .next (λa b o z n=>(aE λy:a=_=>e b o<|iL y.symm z).trans<|lo a b o (le a b o z) n) .next k⟩)) λ_ _=>id) λ_ _=>id)) (λ_ s' J=>bV<|bV J) λ_ _=>id)
end
abbrev ab(P:Prop):=(b:Bool)×'(b=aa->P)
noncomputable abbrev ab.b{P}(t:ab P):Bool:=t.1
noncomputable abbrev ab.ok{P}(t:ab P):t.b=aa->P:=t.2
section
theorem dD{a b}(h:(a&&b)=aa):a=aa:=(fT.mp h).1
theorem fh{a b}(h:(a&&b)=aa):b=aa:=(fT.mp h).2
noncomputable def ab.no:ab P:=⟨ae,λh=>fy h⟩
noncomputable def ab.yes(p:P):ab P:=⟨aa,λ_=>p⟩
def ab.map(t:ab P)(f:P->Q):ab Q:=⟨t.b,λh=>f<|t.ok h⟩
def ab.and(s:ab P)(t:ab Q)(f:P->Q->R):ab R:=⟨s.b&&t.b,λh=>f (s.ok<|dD h)<|t.ok<|fh h⟩
def ab.or(s t:ab P):ab P:=⟨s.b||t.b,λh=>(xj.mp h).elim s.ok t.ok⟩
noncomputable def ba{M:Type}(no:M)(c:Bool)(k:c=aa->M):M:=match c,k with
 |aa,k=>k rfl
 |ae,_=>no
@[elab_as_elim] def iU{α:Type} [BEq α] [LawfulBEq α] {M:α->Type}(a b:α)(no:M a)(k:M b):M a:=ba no (a==b) λh=>(c9 h).symm▸k
noncomputable def ab.is(c:Bool)(k:c=aa->P):ab P:=⟨c,k⟩
end
@[elab_as_elim] noncomputable def gN{α:Type}{M:List α->Type}(l:List α)(no:M l)(k:M []):M l:=match l,no with
 |[],_=>k
 |_::_,no=>no
@[elab_as_elim] noncomputable def gC{α:Type}{M:List α->Type}(l:List α)(no:M l)(k: ∀a r,M<|a::r):M l:=match l,no with
 |[],no=>no
 |a::r,_=>k a r
@[elab_as_elim] noncomputable def gO{α:Type}{M:Option α->Type}(o:Option α)(n:M Y)(k: ∀a,M<|U a):M o:=match o with
 |Y=>n
 |U a=>k a
section
variable{M:Expr->Type}(t:Expr)(no:M t)
noncomputable def g0(n:Nat)(f:t.ctorIdx=n->M t):M t:=if h:t.ctorIdx=n then f h else no
@[elab_as_elim] def EF(k: ∀a b c,M<|.BoolOp a b c):M t:=g0 t no 0 λh=>Expr.BoolOp.elim t h k
@[elab_as_elim] def Aq(k: ∀a b c d,M<|.BinOp a b c d):M t:=g0 t no 2 λh=>Expr.BinOp.elim t h k
@[elab_as_elim] def wT(k: ∀a b c,M<|.UnaryOp a b c):M t:=g0 t no 3 λh=>Expr.UnaryOp.elim t h k
@[elab_as_elim] def Cv(k: ∀a b c d,M<|.IfExp a b c d):M t:=g0 t no 5 λh=>Expr.IfExp.elim t h k
@[elab_as_elim] def N3(k: ∀a b c,M<|.Dict a b c):M t:=g0 t no 6 λh=>Expr.Dict.elim t h k
@[elab_as_elim] def Gb(k: ∀a b c d,M<|.ListComp a b c d):M t:=g0 t no 8 λh=>Expr.ListComp.elim t h k
@[elab_as_elim] def E_(k: ∀a b c d,M<|.Compare a b c d):M t:=g0 t no 15 λh=>Expr.Compare.elim t h k
@[elab_as_elim] def qr(k: ∀a b c d,M<|.Call a b c d):M t:=g0 t no 16 λh=>Expr.Call.elim t h k
@[elab_as_elim] def pd(k: ∀a b c,M<|.Constant a b c):M t:=g0 t no 19 λh=>Expr.Constant.elim t h k
@[elab_as_elim] def ky(k: ∀a b c,M<|.Attribute a b c):M t:=g0 t no 20 λh=>Expr.Attribute.elim t h k
@[elab_as_elim] def mj(k: ∀a b c,M<|.Subscript a b c):M t:=g0 t no 21 λh=>Expr.Subscript.elim t h k
@[elab_as_elim] def fK(k: ∀a b,M<|.Name a b):M t:=g0 t no 23 λh=>Expr.Name.elim t h k
@[elab_as_elim] def Eu(k: ∀a b,M<|.List a b):M t:=g0 t no 24 λh=>Expr.List.elim t h k
@[elab_as_elim] def kz(k: ∀a b c,M<|.Tuple a b c):M t:=g0 t no 25 λh=>Expr.Tuple.elim t h k
@[elab_as_elim] def Ia(k: ∀a b c d,M<|.Slice a b c d):M t:=g0 t no 26 λh=>Expr.Slice.elim t h k
end
section
variable{M:cr->Type}(t:cr)(no:M t)
noncomputable def g1(n:Nat)(f:t.ctorIdx=n->M t):M t:=if h:t.ctorIdx=n then f h else no
@[elab_as_elim] def xF(k: ∀a b,M<|.Return a b):M t:=g1 t no 3 λh=>cr.Return.elim t h k
@[elab_as_elim] def Gr(k: ∀a b c,M<|.Assign a b c):M t:=g1 t no 5 λh=>cr.Assign.elim t h k
@[elab_as_elim] def B9(k: ∀a b c d,M<|.AugAssign a b c d):M t:=g1 t no 7 λh=>cr.AugAssign.elim t h k
@[elab_as_elim] def as8(k: ∀a b c d e,M<|.For a b c d e):M t:=g1 t no 9 λh=>cr.For.elim t h k
@[elab_as_elim] def av7(k: ∀a b c d,M<|.While a b c d):M t:=g1 t no 11 λh=>cr.While.elim t h k
@[elab_as_elim] def P9(k: ∀a b c d,M<|.If a b c d):M t:=g1 t no 12 λh=>cr.If.elim t h k
@[elab_as_elim] def VM(k: ∀a b c,M<|.Raise a b c):M t:=g1 t no 16 λh=>cr.Raise.elim t h k
@[elab_as_elim] def O4(k: ∀a b c d e,M<|.Try a b c d e):M t:=g1 t no 17 λh=>cr.Try.elim t h k
@[elab_as_elim] def aL6(k: ∀a b,M<|.Expr a b):M t:=g1 t no 24 λh=>cr.Expr.elim t h k
@[elab_as_elim] def aw8(k: ∀a,M<|.Pass a):M t:=g1 t no 25 λh=>cr.Pass.elim t h k
@[elab_as_elim] def Ve(k: ∀a,M<|.Continue a):M t:=g1 t no 27 λh=>cr.Continue.elim t h k
end
@[elab_as_elim] noncomputable def zB{M:E->Type}(t:E)(no:M t)(k: ∀v,M<|.c v):M t:=match t,no with
 |.c v,_=>k v
 |_,no=>no
@[elab_as_elim] noncomputable def Ld{M:E->Type}(t:E)(no:M t)(k: ∀i,M<|.x i):M t:=match t,no with
 |.x v,_=>k v
 |_,no=>no
@[elab_as_elim] noncomputable def gVn{M:V->Type}(t:V)(no:M t)(k:M .none):M t:=if h:t.ctorIdx=0 then V.none.elim t h k else no
@[elab_as_elim] noncomputable def Nu{M:V->Type}(t:V)(no:M t)(k: ∀i,M<|.int i):M t:=if h:t.ctorIdx=2 then V.int.elim t h k else no
structure Cc where
 sc:List (Str×n8)
 ns:List Str
 G:List Nat
structure oB where
 C:cW
 k:Nat
 Ar:cV
 rm:d6 (k+2) Ar
structure c3(z:oB)(c:Cc)(x:Cx):Prop where
 sc:x.env.scope.names=c.sc
 ns:x.ns=c.ns
 G:x.T.G=c.G
 fZ:mV x.T z.C z.k
section
theorem c3.kindOf(g:c3 z c x)(n:Str):x.env.kindOf n=c.sc.lookup n:=aA (G1 n) g.sc
theorem hV{b}(h:(!b)=aa):b=ae:=match b,h with|ae,_=>rfl
noncomputable def yw(n:Str):Bool:= !(n==("__debug__"))&& !(n==("__classdict__"))
theorem zD(h:yw n=aa):(n==("__debug__":Str))=ae:=hV (dD h)
theorem EE(h:yw n=aa):(n==("__classdict__":Str))=ae:=hV (fh h)
def gQ(c:Cc)(n:Str):Bool:=(c.sc.lookup n==U .globalImplicit)&&yw n
theorem c3.gQ(g:c3 z c x)(h:gQ c n=aa):x.env.kindOf n=U .globalImplicit:=(g.kindOf n).trans (c9<|dD h)
theorem ue(h:gQ c n=aa):(n==("__debug__":Str))=ae:=zD (fh h)
def zY(c:Cc)(i:Nat)(n:Str):Bool:=(ah c.ns i==U n)&&yw n
theorem c3.dR(g:c3 z c x){i}(h:zY c i n=aa):ah x.ns i=U n:=(aA (ah · i) g.ns).trans (c9<|dD h)
abbrev SV(c:Cc)(e:E)(a:Expr):Prop:= ∀(z) x,c3 z c x->a3 x z.Ar (aQ a x.env) (ao I z.C e x.ρ).v
abbrev ST(c:Cc)(e:E)(a:Expr):Prop:= ∀(z) x,c3 z c x->dS x z.Ar (isTrue a x.env<|aQ a x.env) (ao I z.C e x.ρ).t
abbrev SI(c:Cc)(e:E)(a tg:Expr):Prop:= ∀(z:oB) x,c3 z c x->qc x z.Ar tg a (ao I z.C e x.ρ).i
abbrev aP(c:Cc)(e:E)(a:Expr):=ab (SV c e a)×ab (ST c e a)×(∀tg,ab<|SI c e a tg)
def aP.no:aP c e a:=⟨ab.no,ab.no,λ_=>ab.no⟩
def AA(tg:Expr):ab<|i4 tg:=fK tg (kz tg ab.no λes k p=>ab.yes<|.t es k p) λs p=>ab.yes (.n s p)
def aP.of(v:ab<|SV c e a)(hp: ∀env m,isTrue a env m=(do let v<-m;uZ a.pos;iQ [v] (xt v)))(ht: ∀C ρ,(ao I C e ρ).t=λh T F=>(ao I C e ρ).v h λv h=>tv h T F v)(hi: ∀C ρ,(ao I C e ρ).i=λh K=>(ao I C e ρ).v h λv h=>hY h K v):aP c e a:=
 ⟨v,ab.map v λq z x g=>by rw[hp,ht];exact Dc<|q z x g,λtg=>ab.and v (AA tg) λq ht z x g=>by rw[hi];exact EX ht<|q z x g⟩
abbrev SL(c:Cc)(es:Es)(as:List Expr):Prop:=as.all fE=aa/\ ∀(z:oB) x pos,c3 z c x->fX as.length x z.Ar (iP<|eU pos<|eV as x.env) (cP I z.C es x.ρ)
abbrev Ye(c:Cc)(es:Es)(as:List Expr):=ab (SL c es as)×(∀a,ab (∃e,es= .cons e .nil/\SV c e a))
theorem aE7{l}{b}{k}{pos}{Ar}(h:decide (b.map (λx:UInt8=>(x.toNat:Int))=l)=aa):a3 x Ar (aQ (.Constant (.bytes b) k pos) x.env) (λh Q=>Q (.a6 l) h):=λσ K q=>by
 cases of_decide_eq_true h
 exact Constant_bytes (.tk (.a6 b.toArray _) q)
noncomputable def II(v:V)(k:Const)(m:Nat)(pos:Pos):ab (∀(x:Cx) (Ar:cV),a3 x Ar (aQ (.Constant k m pos) x.env) λh Q=>Q v h):=match v with
 |.none=>(match k with
  |.none=>ab.yes λ_ _=>aq9
  |_=>ab.no)
 |.bool b=>(match k with
  |.bool d=>ab.is (b==d) λh _ _=>c9 h▸Zg
  |_=>ab.no)
 |.int b=>(match k with
  |.int d=>ab.is (b==d) λh _ _=>c9 h▸PQ
  |_=>ab.no)
 |.str b=>(match k with
  |.str d=>ab.is (b==d) λh _ _=>c9 h▸az9
  |_=>ab.no)
 |.a6 b=>(match k with
  |.bytes d=>ab.is (decide<|d.map (λx:UInt8=>(x.toNat:Int))=b) λh _ _=>aE7 h
  |_=>ab.no)
 |_=>ab.no
abbrev TE(e:E):Type:= ∀c a,aP c e a
abbrev TL(es:Es):Type:= ∀c as,Ye c es as
def K3(v:V):TE<|.c v:=λc a=>pd a aP.no λk m pos=>aP.of (ab.map (II v k m pos) λh z x g=>h x z.Ar) (λ_ _=>rfl) (λ_ _=>rfl) (λ_ _=>rfl)
def HM(i:Nat):TE<|.x i:=λc a=>fK a aP.no λn pos=>aP.of (ab.is (zY c i n) λh z x g=>ag9 (g.dR h) (zD<|fh h)<|EE<|fh h) (λ_ _=>rfl) (λ_ _=>rfl) (λ_ _=>rfl)
def MY(k:Nat):TE<|.g k:=λc a=>fK a aP.no λn pos=>aP.of (ab.is ((n==si k)&&gQ c n) λh z x g=>by cases c9 (dD h);exact TK (g.gQ<|fh h)<|ue<|fh h) (λ_ _=>rfl) (λ_ _=>rfl) (λ_ _=>rfl)
def Mt(o:jY)(l r:E)(p:TE l)(q:TE r):TE<|.dY o l r:=λc a=>Aq a aP.no λl' o' r' pos=>aP.of (ba ab.no (decide<|nR o=o') λh=>ab.and (p c l').1 (q c r').1 λp q z x g=>by cases of_decide_eq_true h;exact Xy (p z x g)<|q z x g) (λ_ _=>rfl) (λ_ _=>rfl) (λ_ _=>rfl)
def Ly(e:E)(p:TE e):TE<|.neg e:=λc a=>wT a aP.no λo e' pos=>ba aP.no (decide<|o= .USub) λh=>by cases of_decide_eq_true h;exact aP.of (ab.map (p c e').1 λp z x g=>IA<|p z x g) (λ_ _=>rfl) (λ_ _=>rfl) (λ_ _=>rfl)
end
section
noncomputable def rG(b:BoolOp)(r:List Expr)(pos:Pos):Expr:=match r with
 |[a]=>a
 |r=> .BoolOp b r pos
theorem Nr(e:a3 x Ar (aQ (rG a (d::r) pos) x.env) f):a3 x Ar (A5 pos a<|evalEach (d::r) x.env) f:=match r,e with
 |[],e=>e
 |_::_,e=>e
theorem PK(e:dS x Ar (isTrue (rG a (d::r) pos) x.env<|aQ (rG a (d::r) pos) x.env) f):dS x Ar (xu a (d::r) x.env) f:=match r,e with
 |[],e=>YF e
 |_::_,e=>e
def QA e(p:TE e):TE<|.nt e:=λc a=>wT a aP.no λo e' pos=>ba aP.no (decide<|o= .Not) λh=>of_decide_eq_true h▸⟨ab.map (p c e').1 λp z x g=>ax4<|p z x g,ab.map (p c e').2.1 λp z x g=>UW<|p z x g,λ_=>ab.no⟩
def Qz e f(p:TE e)(q:TE f):TE<|.an e f:=λc a=>EF a aP.no λo l pos=>gC l aP.no λb r=>gC r aP.no λd r=>ba aP.no (decide<|o= .And) λh=>of_decide_eq_true h▸
 ⟨ab.and (p c b).1 (q c<|rG .And (d::r) pos).1 λp q z x g=>Xm (p z x g)<|Nr<|q z x g,ab.and (p c b).2.1 (q c<|rG .And (d::r) pos).2.1 λp q z x g=>aA9 (u:=(ao I z.C f x.ρ).t) (p z x g)<|PK<|q z x g,λ_=>ab.no⟩
def Ie e f(p:TE e)(q:TE f):TE<|.or e f:=λc a=>EF a aP.no λo l pos=>gC l aP.no λb r=>gC r aP.no λd r=>ba aP.no (decide<|o= .Or) λh=>of_decide_eq_true h▸
 ⟨ab.and (p c b).1 (q c<|rG .Or (d::r) pos).1 λp q z x g=>S6 (p z x g)<|Nr<|q z x g,ab.and (p c b).2.1 (q c<|rG .Or (d::r) pos).2.1 λp q z x g=>aj1 (u:=(ao I z.C f x.ρ).t) (p z x g)<|PK<|q z x g,λ_=>ab.no⟩
def JX o l r(p:TE l)(q:TE r):TE<|.eW o l r:=λc a=>E_ a aP.no λl' os rs pos=>gC os aP.no λo' os=>gN os aP.no (gC rs aP.no λr' rs=>gN rs aP.no (ba aP.no (decide<|iG o=o') λh=>of_decide_eq_true h▸ba aP.no (!(xr (iG o) r')) λhm=>
 ⟨ab.and (p c l').1 (q c r').1 λp q z x g=>ak9 z.rm (hV hm) (p z x g)<|q z x g,ab.and (p c l').1 (q c r').1 λp q z x g=>VN z.rm (hV hm) (p z x g)<|q z x g,λ_=>ab.no⟩))
def Ql o o2 l m r(p:TE l)(u:TE m)(q:TE r):TE<|.iz o o2 l m r:=λc a=>E_ a aP.no λl' os rs pos=>gC os aP.no λo' os=>gC os aP.no λb os=>gN os aP.no (gC rs aP.no λe rs=>gC rs aP.no λr' rs=>gN rs aP.no (
 ba aP.no (decide<|iG o=o') λh=>of_decide_eq_true h▸ba aP.no (decide<|iG o2=b) λh=>of_decide_eq_true h▸ba aP.no (!(xr (iG o2) r')) λhm=>
 ⟨ab.and (p c l').1 (ab.and (u c e).1 (q c r').1 hq) λp q z x g=>U8 z.rm (hV hm) (p z x g) (q.1 z x g)<|q.2 z x g,ab.and (p c l').1 (ab.and (u c e).1 (q c r').1 hq) λp q z x g=>aI2 z.rm (hV hm) (p z x g) (q.1 z x g)<|q.2 z x g,λ_=>ab.no⟩))
def aP.val(v:ab<|SV c e a)(hi: ∀C ρ,(ao I C e ρ).i=λh K=>(ao I C e ρ).v h λv h=>hY h K v):aP c e a:=⟨v,ab.no,λtg=>ab.and v (AA tg) λq ht z x g=>by rw[hi];exact EX ht<|q z x g⟩
def Ke t e f(p:TE t)(q:TE e)(u:TE f):TE<|.ite t e f:=λc a=>Cv a aP.no λb e' h pos=>aP.val (ab.and (p c b).2.1 (ab.and (q c e').1 (u c h).1 hq) λp q z x g=>af9 (p z x g) (q.1 z x g)<|q.2 z x g) λ_ _=>rfl
def Mf e(p:TE e):TE<|.gz e:=λc a=>aP.val (ab.map (p c a).1 λp z x g=>ak1<|p z x g) λ_ _=>rfl
theorem D8{n:Nat}(h:eY n 1000=aa):a_ n:=ak (d5 h) dd
def Qd es(p:TL es):TE<|.tu es:=λc a=>kz a aP.no λas k pos=>aP.of (ba ab.no (eY as.length 1000) λhn=>ab.map (p c as).1 λp z x g=>VU (p.2 z x pos g)<|D8 hn) (λ_ _=>rfl) (λ_ _=>rfl) λ_ _=>rfl
def NM fr es(p:TL es):TE<|.li fr es:=λc a=>Eu a aP.no λas pos=>aP.of (ba ab.no (eY as.length 1000) λhn=>ab.map (p c as).1 λp z x g=>aj3 (p.2 z x pos g) (D8 hn) fr) (λ_ _=>rfl) (λ_ _=>rfl) λ_ _=>rfl
def Do a:ab (∀n env m,xv a n env m=m):=
 fK a (ky a (mj a (qr a ab.no λf as kw p=>gC as ab.no λ_ _=>fK f (ky f ab.no λ_ _ _=>ab.yes λ_ _ _=>rfl) λ_ _=>ab.yes λ_ _ _=>rfl) λ_ _ _=>ab.yes λ_ _ _=>rfl) λ_ _ _=>ab.yes λ_ _ _=>rfl) λ_ _=>ab.yes λ_ _ _=>rfl
def O8 a:ab (∀env y,Bf a env y=cF y):=
 fK a (ky a (mj a (qr a (kz a (Eu a (Aq a (pd a ab.no λ_ _ _=>ab.yes λ_ _=>rfl) λ_ _ _ _=>ab.yes λ_ _=>rfl) λ_ _=>ab.yes λ_ _=>rfl) λ_ _ _=>ab.yes λ_ _=>rfl) λ_ _ _ _=>ab.yes λ_ _=>rfl) λ_ _ _=>ab.yes λ_ _=>rfl) λ_ _ _=>ab.yes λ_ _=>rfl) λ_ _=>ab.yes λ_ _=>rfl
def KZ e f(p:TE e):TE (.at e f):=λc a=>ky a aP.no λe' n pos=>aP.of (ba ab.no (j5 f gA.length) λhf=>ba ab.no (n==cM f) λhn=>ab.and (Do e') (p c e').1 λhb p z x g=>by
 cases c9 hn;exact as7 (d5 hf) (hb ..)<|p z x g) (λ_ _=>rfl) (λ_ _=>rfl) λ_ _=>rfl
def IX e i(p:TE e)(q:TE i):TE<|.ix e i:=λc a=>mj a aP.no λe' b pos=>aP.of (ba ab.no (DP b) λh=>ab.and (p c e').1 (q c b).1 λp q z x g=>Zi h (p z x g)<|q z x g) (λ_ _=>rfl) (λ_ _=>rfl) λ_ _=>rfl
def QI(e:E):ab<|e= .c .none:=zB e ab.no λv=>gVn v ab.no (ab.yes rfl)
def Qp e(p:TE e) c o:ab (∀z x,c3 z c x->a3 x z.Ar (GY o x.env) (ao I z.C e x.ρ).v):=
 gO o (ab.map (QI e) λh z x g=>h▸as1) λa=>ab.map (p c a).1 λh z x g=>h z x g
def MM e l u(p:TE e)(q:TE l)(w:TE u):TE<|.sl e l u:=λc a=>mj a aP.no λe' i pos=>Ia i aP.no λl' b s _=>gO s (aP.of (ab.and (p c e').1 (ab.and (Qp l q c l') (Qp u w c b) hq) λp q z x g=>ZC (p z x g) (q.1 z x g)<|q.2 z x g) (λ_ _=>rfl) (λ_ _=>rfl) λ_ _=>rfl) λ_=>aP.no
def JS e(p:TE e):TE<|.iK e:=λc a=>mj a aP.no λe' i pos=>Ia i aP.no λl u s _=>gO l (gO u (gO s aP.no λs=>wT s aP.no λo k p2=>pd k aP.no λk n p1=>
 aP.of (ba ab.no (decide<|o= .USub) λho=>ba ab.no (decide<|k= .int 1) λhk=>ab.map (p c e').1 λp z x g=>by
  cases of_decide_eq_true ho;cases of_decide_eq_true hk
  exact Tm (p z x g) λσ K h=>IA PQ σ K<|.sG h) (λ_ _=>rfl) (λ_ _=>rfl) λ_ _=>rfl) λ_=>aP.no) λ_=>aP.no
end
section
def Dw{M:Expr->Type} a(no:M a)(b: ∀a,M a)(k: ∀n q as pos,M<|.Call (.Name n q) as [] pos):M a:=qr a no λf as kw pos=>gN kw (b _) (fK f (b _) λn q=>k n q as pos)
def K7 f es(p:TL es):TE<|.call f es:=λc a=>Dw a aP.no (λ_=>aP.no) λn q as pos=>aP.of (ba ab.no (rF f c.G) λhG=>ba ab.no (j5 f rK.length) λhf=>ba ab.no (n==sd f) λhn=>ba ab.no (gQ c n) λhk=>ab.map (p c as).1 λp z x g=>by
 cases c9 hn
 exact WB g.fZ (z.rm.oZ<|Nat.le_add_right _ _) (d5 hf) (g.gQ hk) (ue hk) (x.T.hG f<|g.G▸hG) p.1<|p.2 z x pos g) (λ_ _=>rfl) (λ_ _=>rfl) λ_ _=>rfl
def QH k es(p:TL es):TE<|.new k es:=λc a=>Dw a aP.no (λ_=>aP.no) λn q as pos=>aP.of (ba ab.no (I.lu k).isSome λhi=>ba ab.no (n==tY k) λhn=>ba ab.no (gQ c n) λhk=>ab.map (p c as).1 λp z x g=>by
 cases c9 hn
 exact(u4.mp hi).elim λf hf=>af0 g.fZ (z.rm.oZ<|Nat.le_succ _) hf (g.gQ hk) (ue hk) (x.T.hC k hi) p.1<|p.2 z x pos g) (λ_ _=>rfl) (λ_ _=>rfl) λ_ _=>rfl
theorem Td{m:Nat}(h:o= .nil)(hm:bE m AG=aa)(hl:(a.endLine==pos.line)=aa)(hb: ∀n env m,xv j n env m=m)(v:SV c e j):SI c (.me e m o) (.Call (.Attribute j (kt m) a) [] [] pos)<|.Tuple l p t:=λz x g=>by
 cases jh hm
 exact aw7 (hb ..) hl (v z x g)
noncomputable def AD(es:Es):ab<|es= .nil:=match es with
 |.nil=>ab.yes rfl
 |.cons _ _=>ab.no
def QF e m es(p:TE e)(q:TL es):TE<|.me e m es:=λc a=>qr a aP.no λf as kw pos=>gN kw aP.no (ky f aP.no λe' n apos=>iU n (kt m) aP.no (ba aP.no (apos.endLine==pos.line) λhl=>ba aP.no (j5 as.length 30) λhb=>
 have v:=ab.and (Do e') (ab.and (p c e').1 (q c as).1 hq) λha p z x g=>ae6 g.fZ (z.rm.oZ<|cg _ _) (ha ..) hl (d5 hb) p.2.1 (p.1 z x g) (p.2.2 z x pos g)
 ⟨v,ab.map v λv z x g=>Dc<|v z x g,λtg=>gN as ab.no<|kz tg ab.no λelts kk b=>ba ab.no (bE m AG) λhm=>ab.and (AD es) (ab.and (Do e') (p c e').1 hq) λh p=>Td h hm hl p.1 p.2⟩))
noncomputable def Js(b:Bi):Bool:=Bi.casesOn b ae ae ae ae ae ae ae (λ_=>ae) (λ_=>ae) ae ae aa aa λ_=>ae
theorem UB{as:List Expr}{q pos:Pos}(ht:i4 h)(hb:Js b=ae)(v:SV c (.bi b j) a):SI c (.bi b j) a h:=λz x g=>by
 have:=EX ht (v z x g)
 cases b with
 |range=>exact jK hb
 |kE=>exact jK hb
 |_=>exact this
noncomputable def ay2(p:ab<|SL c a as)(hk:gQ c (jH b).1=aa) tg:ab<|SI c (.bi b a) (.Call (.Name (jH b).1 q) as [] pos) tg:=match b,hk with
 |.range,hk=>ab.and p (AA tg) λp ht z x g=>iY ht (g.gQ hk) p.1 (p.2 z x pos g)
 |.kE,hk=>kz tg ab.no λelts kk e=>ab.map p λp z x g=>yU (g.gQ hk) p.1 (p.2 z x pos g)
 |_,_=>ab.no
noncomputable def J7 b es(p:TL es):TE<|.bi b es:=λc a=>Dw a aP.no (λ_=>aP.no) λn q as pos=>iU n (jH b).1 aP.no (ba aP.no (gQ c (jH b).1) λhk=>
 have v:=match b,hk with
  |.gc t,hk=>gC as ab.no λe' as=>gC as ab.no λm as=>gN as ab.no (fK m ab.no λm h=>iU m (qg t).1 ab.no<|ba ab.no (gQ c (qg t).1) λf=>ba ab.no (fE e') λhs=>ab.map ((p c []).2 e') λp z x g=>p.elim λe p=>p.1▸ao6 z.rm.hd (g.gQ hk) (g.gQ f) (ue f) hs (p.2 z x g))
  |b,hk=>ba ab.no (Bn b).isEmpty λhb=>ab.map (p c as).1 λp z x g=>aJ5 z.rm.hd (Sl.mp hb) (g.gQ hk) (ue hk) p.1 (p.2 z x pos g)
 ⟨v,ab.map v λv z x g=>Dc<|v z x g,λtg=>ab.or (ay2 (p c as).1 hk tg)<|ba ab.no (!(Js b)) λh1=>ab.and v (AA tg) λv ht=>UB (as:=as) (q:=q) (pos:=pos) ht (hV h1) v⟩)
def Mz:TL .nil:=λc as=>⟨gN as ab.no<|ab.yes ⟨rfl,λ_ _ _ _=>fX.nil⟩,λ_=>ab.no⟩
def Ky e r(p:TE e)(q:TL r):TL<|.cons e r:=λc as=>⟨gC as ab.no λa as=>ba ab.no (fE a) λhs=>ab.and (p c a).1 (q c as).1 λp q=>⟨fT.mpr ⟨hs,q.1⟩,λz x pos g=>by rw[o0 hs];exact fX.cons (p z x g)<|q.2 z x pos g⟩,
 λa=>ab.and (AD r) (p c a).1 λh p=>⟨e,aA (Es.cons e) h,p⟩⟩
end
@[elab_as_elim] noncomputable def gVb{M:V->Type}(t:V)(no:M t)(k: ∀b,M<|.bool b):M t:=if h:t.ctorIdx=1 then V.bool.elim t h k else no
@[elab_as_elim] noncomputable def OH{M:Es->Type}(es:Es)(no:M es)(k: ∀a b,M<|.cons a<|.cons b .nil):M es:=match es,no with
 |.cons a (.cons b .nil),_=>k a b
 |_,no=>no
noncomputable def xd(c:Cc)(ns:List<|Str×n8):List<|Str×n8:=ns.map λ(n,k)=>if(k== .free&&c.sc.lookup n==U .cell) then(n,.cell) else(n,k)
noncomputable def vk:List Str->Bool
 |[]=>aa
 |n::r=> !(r.contains n)&&vk r
def qK(c:Cc)(cs:List Nat):List Str:=cs.map λi=>(ah c.ns i).getD ""
def FE(c:Cc)(scope:Scope)(n:Str)(ns:List Str):Bool:=
 (scope.kind== .function)&&scope.names.all (λy=> !(y.2== .cell))&&scope.names.all (λy=> !(y.2== .local)||scope.names.lookup y.1==U .local)&&
 scope.names.all (λy=> !(y.2== .free)||ns.contains y.1)&&ns.all (λm=>scope.names.contains (m,.free)&&(xd c scope.names).lookup m==U .cell&& !(c.sc.lookup m==U .local))&&
 ((xd c scope.names).lookup n==U .local)&&vk (n::ns)
theorem zF: ∀{l:List Str},vk l=aa->l.Nodup
 |[],_=>So
 |n::r,h=>lF.mpr ⟨λq=>(fy <|(hV<|dD h).symm.trans<|Bh.mpr q),zF<|fh h⟩
section
variable{z:oB}{c:Cc}{x:Cx}{e:E}{a:Expr}{n:Str}{Ar:cV}{scope:Scope}{ns:List Str}{cs:List Nat}
theorem BG(g:c3 z c x)(scope:Scope):(Bg scope x.env).names=xd c scope.names:=aW9 λy _=>match y with
 |(n,k)=>by
  dsimp only
  rw[g.kindOf,x.st.kind]
  exact aA (λb:Bool=>if b=aa then(n,aX9) else(n,k)) (aA (· &&_)<|aT3 _)
theorem Kg(g:c3 z c x): ∀(cs:List Nat),cs.all (λi=>(ah c.ns i).isSome)=aa->OM x (qK c cs) cs
 |[],_=> .nil
 |i::cs,h=> .cons ((u4.mp<|dD h).elim λm hm=>by rw[g.ns];refine(?_:ah c.ns i=U ((ah c.ns i).getD ""));rw[hm];rfl) (Kg g cs<|fh h)
theorem ib{α:Type}{l:List α}{p}(h:l.all p=aa){a}(m:a∈l):p a=aa:=A3.mp h a m
theorem Ip{a b}(h:(!a||b)=aa)(q:a=aa):b=aa:=by rw[q] at h;exact h
theorem OI(g:c3 z c x)(hc:cs.all (λi=>(ah c.ns i).isSome)=aa)(h:FE c scope n (qK c cs)=aa):lT x scope n cs (qK c cs) where
 kind:=c9 (dD<|dD<|dD<|dD<|dD<|dD h)
 cell y hy e:=fy <|(hV<|ib (fh<|dD<|dD<|dD<|dD<|dD h) hy).symm.trans (beq_iff_eq.mpr e)
 names y hy e:=c9 (Ip (ib (fh<|dD<|dD<|dD<|dD h) hy)<|beq_iff_eq.mpr e)
 free m hm:=Bh.mp (Ip (ib (fh<|dD<|dD<|dD h) hm) rfl)
 mz m hm:=
  have q:=ib (fh<|dD<|dD h) hm
  ⟨Bh.mp<|dD<|dD q,(aA (G1 m)<|BG g scope).trans<|c9<|fh<|dD q,λe=>(fy <|(hV<|fh q).symm.trans<|beq_iff_eq.mpr<|(g.kindOf m).symm.trans e)⟩
 BX:=(aA (G1 n)<|BG g scope).trans (c9<|fh<|dD h)
 nd:=zF (fh h)
 iB:=Kg g cs hc
theorem zJ(g:c3 z c x){h}(f:m_ x scope (n::qK c cs) h):c3 z ⟨xd c scope.names,n::qK c cs,c.G⟩ h:=f.casesOn λ_ _ _ _=>⟨BG g scope,rfl,g.G,g.fZ⟩
noncomputable def au7(e:E)(q:TE e)(c:Cc)(f:List Expr):ab (∀(z:oB) x,c3 z c x->dS x z.Ar (ou f x.env) (ao I z.C e x.ρ).t):=match f with
 |[]=>zB e ab.no λv=>gVb v ab.no λb=>(match b with
  |aa=>ab.yes λz x g=>S9
  |ae=>ab.no)
 |[t]=>ab.map (q c t).2.1 λh z x g=>aw5 (h z x g)
 |_=>ab.no
abbrev yM(c:Cc)(scope:Scope)(n:Str)(cs:List Nat):Cc:=⟨xd c scope.names,n::qK c cs,c.G⟩
abbrev SC(c:Cc)(scope:Scope)(n:Str)(h:Pos)(cs:List Nat)(g cond f:E)(iter elt':Expr)(b:List Expr):Prop:=
 (cs.all (λi=>(ah c.ns i).isSome)=aa/\FE c scope n (qK c cs)=aa)/\(∀env y,Bf iter env y=cF y)/\SI c g iter (.Name n h)/\(∀(z) x,c3 z (yM c scope n cs) x->dS x z.Ar (ou b x.env) (ao I z.C cond x.ρ).t)/\SV (yM c scope n cs) f elt'
def NR(cs:List Nat)(g cond f:E)(p:TE g)(q:TE cond)(u:TE f)(c:Cc)(scope:Scope)(n:Str)(j:Pos)(iter elt':Expr)(b:List Expr):ab<|SC c scope n j cs g cond f iter elt' b:=
 ba ab.no (cs.all λi=>(ah c.ns i).isSome) λh1=>ba ab.no (FE c scope n<|qK c cs) λh2=>ab.and (O8 iter) (ab.and ((p c iter).2.2<|.Name n j) (ab.and (au7 cond q (yM c scope n cs) b) (u (yM c scope n cs) elt').1 hq) hq) λh3 h=>⟨⟨h1,h2⟩,h3,h⟩
noncomputable def Nh(fr:Bool)(cs:List Nat)(i cond b:E)(p:TE i)(q:TE cond)(u:TE b):TE<|.comp fr cs i cond b:=λc a=>Gb a aP.no λelt' gs scope pos=>gC gs aP.no λjx gs=>gN gs aP.no (match jx with
 |⟨tg,iter,ifs,as⟩=>fK tg aP.no λn l=>iU as 0 aP.no<|aP.of (ab.map (NR cs i cond b p q u c scope n l iter elt' ifs) λh z x g=>aB3 (ft:=λj=>(ao I z.C cond j).t) (fe:=λj=>(ao I z.C b j).v) z.rm.hd (OI g h.1.1 h.1.2) (h.2.1 x.env) (h.2.2.1 z x g) (λx' f=>h.2.2.2.1 z x'<|zJ g f) λx' f=>h.2.2.2.2 z x'<|zJ g f) (λ_ _=>rfl) (λ_ _=>rfl) λ_ _=>rfl)
def Mh(fr:Bool)(ks vs:Es)(_:TL ks)(_:TL vs):TE<|.di fr ks vs:=λc a=>N3 a aP.no λa b pos=>gN a
 (gC a aP.no λf a=>gC a aP.no λk2 a=>gN a aP.no (gC b aP.no λp b=>gC b aP.no λo b=>gN b aP.no (gO f aP.no λf=>gO k2 aP.no λk2=>pd f aP.no λc1 m1 p1=>pd k2 aP.no λq m2 p2=>fK p aP.no λn1 p3=>fK o aP.no λn2 p4=>
  OH ks aP.no λe1 e2=>OH vs aP.no λh s=>zB e1 aP.no λw1=>zB e2 aP.no λw2=>Nu w1 aP.no λi=>Nu w2 aP.no λj=>Ld h aP.no λk=>Ld s aP.no λl=>iU c1 (.int i) aP.no (iU q (.int j) aP.no (iU fr aa aP.no
   (aP.of (ba ab.no (zY c k n1) λh1=>ab.is (zY c l n2) λh2 z x g=>S_ (g.dR h1) (g.dR h2) (zD<|fh h1) (EE<|fh h1) (zD<|fh h2)<|EE<|fh h2) (λ_ _=>rfl) (λ_ _=>rfl) λ_ _=>rfl))))))
 (gN b aP.no<|aP.of (ab.and (AD ks) (AD vs) λh1 h2 z x g=>by cases h1;cases h2;exact Un fr) (λ_ _=>rfl) (λ_ _=>rfl) λ_ _=>rfl)
def gG(e:E):TE e:=
 E.rec K3 HM MY Mt Ly QA Qz Ie JX Ql Ke Qd NM Mh KZ IX MM JS K7 QH QF J7 Nh Mf Mz Ky e
end
section
theorem c3.at(g:c3 z c x) ρ:c3 z c<|x.at ρ:=⟨g.sc,g.ns,g.G,g.fZ⟩
theorem x_(g:c3 z c x)(h:(c.sc.lookup n==U .local)=aa):x.env.kindOf n=U .local:=(g.kindOf n).trans (c9 h)
abbrev SA(c:Cc)(t:Tg)(a:Expr):Prop:= ∀(z) x,c3 z c x->qz x z.Ar a (af I z.C t)
abbrev Tc(c:Cc)(ts:ia)(as:List Expr):Prop:=(∀(z) x,c3 z c x->tt x z.Ar as (lQ I z.C ts))/\as.length=o9 ts/\ ∀env,(pH as env).length=as.length/\(pH as env).findIdx? (·.1)=Y
abbrev TT(t:Tg):Type:= ∀c a,ab (SA c t a)
abbrev AC(ts:ia):Type:= ∀c as,ab (Tc c ts as)
def VW i:TT<|.x i:=λc a=>fK a ab.no λn p=>ba ab.no (ah c.ns i==U n) λh=>ab.is (!(c.sc.lookup n==U .free)) λh2 z x g=>Yy ((aA (ah · i) g.ns).trans<|c9 h) λq=>fy <|(hV h2).symm.trans (beq_iff_eq.mpr<|(g.kindOf n).symm.trans q)
def aG0 o f:TT (.at o f):=λc a=>ky a ab.no λe n p=>iU n (cM f) ab.no (ba ab.no (j5 f gA.length) λh=>ab.map (gG o c e).1 λv z x g=>WY λρ=>v _ _<|g.at ρ)
def VK o i:TT<|.ix o i:=λc a=>mj a ab.no λe j p=>ab.and (gG o c e).1 (gG i c j).1 λv u z x g=>af3 (λρ=>v _ _<|g.at ρ) λρ=>u _ _ (g.at ρ)
def Z5 ts(p:AC ts):TT<|.aj ts:=λc a=>kz a ab.no λas k pos=>ab.map (p c as) λq z x g=>Yl z.rm.hd (((q.2.2 x.env).1).trans q.2.1) (q.2.2 x.env).2 (q.1 z x g)
noncomputable def VF:AC .nil:=λc as=>gN as ab.no (ab.yes ⟨λz x g=>aH9 λvs ρ h K k=>match vs,k with
 |[],k=>⟨rfl,k⟩,rfl,λ_=>⟨rfl,rfl⟩⟩)
noncomputable def ap8 t r(p:TT t)(q:AC r):AC<|.cons t r:=λc as=>gC as ab.no λa as=>ba ab.no (fE a) λhs=>ab.and (p c a) (q c as) λp q=>⟨λz x g=>X_ hs (p z x g) (q.1 z x g) λvs ρ h K k=>match vs,k with
 |v::vs,k=>⟨v,vs,rfl,k⟩,aA (· +1) q.2.1,λenv=>by rw[BU hs];exact⟨aA (· +1) (q.2.2 env).1,by rw[List.findIdx?_cons,(q.2.2 env).2];rfl⟩⟩
def Ds t:TT t:=Tg.rec VW aG0 VK Z5 VF ap8 t
noncomputable def pq(nm:List<|Str×n8)(a:ScopeKind)(ts vs:List Expr):Option<|Option<|List Str:=
 if !(ts.length==2||ts.length==3)||vs.length !=ts.length||a != .function then U Y else
 if vs.any (λ|.Starred .. =>aa|_=>ae) then U Y else
 let line:=(ts.head?.map (·.pos.line)).getD 0
 let names:=ts.filterMap fun
  |.Name id pos=>if nm.lookup id==U .local&&pos.line==line then U id else Y
  |_=>Y
 if names.length !=ts.length||names.eraseDups.length !=names.length then U Y else
 if vs.all (foldedForSure 8) then U Y else
 if vs.all (constantsAlone 8) then Y else U (U names)
noncomputable def uj:Option (Option<|List Str)->Sem (Option<|List Str)
 |U r=>cF r
 |Y=>Se "assign.tuple-of-constant-expressions:order-of-the-stores"
theorem Ud:Bc [.Tuple h k2 a] (.Tuple vs k pos) env=uj (pq env.scope.names env.blockKind h vs):=by
 unfold pq
 dsimp only
 rw[apply_ite uj,apply_ite uj,apply_ite uj,apply_ite uj,apply_ite uj]
 rfl
end
@[elab_as_elim] noncomputable def aK2{M:E->Type} t(no:M t)(k: ∀a b d e f,M<|.comp a b d e f):M t:=match t,no with
 |.comp a b d e f,_=>k a b d e f
 |_,no=>no
@[elab_as_elim] noncomputable def I3{M:Tg->Type} t(no:M t)(k: ∀i,M<|.x i):M t:=match t,no with
 |.x i,_=>k i
 |_,no=>no
@[elab_as_elim] noncomputable def SE{M:Tg->Type} t(no:M t)(k: ∀ts,M<|.aj ts):M t:=match t,no with
 |.aj ts,_=>k ts
 |_,no=>no
section
variable{z:oB}{c:Cc}{x:Cx}{n:Str}{Ar:cV}{C:cW}
def MS b:ab (∀t n env,Sj b t n env=cF ae):=
 fK b (ky b (mj b (qr b (pd b (Aq b (wT b (EF b (E_ b (Cv b (N3 b (Eu b (kz b ab.no λ_ _ _=>ab.yes λ_ _ _=>rfl) λ_ _=>ab.yes λ_ _ _=>rfl) λ_ _ _=>ab.yes λ_ _ _=>rfl) λ_ _ _ _=>ab.yes λ_ _ _=>rfl) λ_ _ _ _=>ab.yes λ_ _ _=>rfl) λ_ _ _=>ab.yes λ_ _ _=>rfl) λ_ _ _=>ab.yes λ_ _ _=>rfl) λ_ _ _ _=>ab.yes λ_ _ _=>rfl) λ_ _ _=>ab.yes λ_ _ _=>rfl)
  λ_ _ _ _=>ab.yes λ_ _ _=>rfl) λ_ _ _=>ab.yes λ_ _ _=>rfl) λ_ _ _=>ab.yes λ_ _ _=>rfl) λ_ _=>ab.yes λ_ _ _=>rfl
theorem zu(x:Cx):x.env.blockKind= .function:=by unfold Env.blockKind;rw[x.st.kind];rfl
theorem c3.swap(g:c3 z c x)(h:(pq c.sc .function a vs==U r)=aa):Bc [.Tuple a k2 p2] (.Tuple vs k p) x.env=cF r:=by
 rw[Ud,g.sc,zu,c9 h];rfl
def VE c tg b:ab (∀z x,c3 z c x->Bc [tg] b x.env=cF Y):=
 fK tg (ky tg (mj tg (kz tg ab.no λts k2 p2=>fK b (ky b (mj b (qr b (Cv b (kz b ab.no λvs k p=>ab.is (pq c.sc .function ts vs==U Y) λh z x g=>g.swap h) λ_ _ _ _=>ab.yes λ_ _ _=>rfl) λ_ _ _ _=>ab.yes λ_ _ _=>rfl) λ_ _ _=>ab.yes λ_ _ _=>rfl) λ_ _ _=>ab.yes λ_ _ _=>rfl) λ_ _=>ab.yes λ_ _ _=>rfl)
  λ_ _ _=>ab.yes λ_ _ _=>rfl) λ_ _ _=>ab.yes λ_ _ _=>rfl) λ_ _=>ab.yes λ_ _ _=>rfl
noncomputable def DT c ns is:ab (∀z x,c3 z c x->zn x ns is):=match ns,is with
 |[],[]=>ab.yes λ_ _ _=> .nil
 |n::ns,i::is=>ba ab.no (ah c.ns i==U n) λh1=>ba ab.no (c.sc.lookup n==U .local) λh2=>ab.map (DT c ns is) λh z x g=> .cons ⟨(aA (ah · i) g.ns).trans<|c9 h1,x_ g h2⟩ (h z x g)
 |_,_=>ab.no
noncomputable def C8:List Nat->Bool
 |[]=>aa
 |n::r=> !(r.contains n)&&C8 r
theorem KB: ∀{l:List Nat},C8 l=aa->l.Nodup
 |[],_=>So
 |n::r,h=>lF.mpr ⟨λq=>(fy <|(hV<|dD h).symm.trans<|Bh.mpr q),KB<|fh h⟩
abbrev Ec(ts:ia)(is:List Nat):Prop:=o9 ts=is.length/\ ∀C vs ρ h K,vs.length=is.length->lQ I C ts vs ρ h K=K (j0 is vs ρ) h
noncomputable def HI ts:(is:List Nat)×ab (Ec ts is):=match ts with
 |.nil=>⟨[],ab.yes ⟨rfl,λC vs ρ h K hl=>match vs,hl with
  |[],_=>rfl⟩⟩
 |.cons t r=>match HI r with
  |⟨is,q⟩=>I3 t ⟨[],ab.no⟩ λi=>⟨i::is,ab.map q λq=>⟨aA (· +1) q.1,λC vs ρ h K hl=>match vs,hl with
   |v::vs,hl=>q.2 C vs (cX ρ i v) h K<|pC hl⟩⟩
theorem Ol(q:Ec j a):af I C (.aj j)=λv ρ h K=>jp h (λl=>match bE l.length a.length with|aa=>K (j0 a l ρ) h|ae=>False) v:=
 funext λv=>funext λρ=>funext λh=>funext λK=>aA (λP=>jp h P v) (funext λl=>by
  rw[q.1]
  cases e:bE l.length a.length with
  |false=>rfl
  |true=>exact q.2 C l ρ h K<|Nat.eq_of_beq_eq_true e)
abbrev SS(c:Cc)(s:S)(a:cr):Prop:= ∀(z) x,c3 z c x->c_ x z.Ar (hg a x.env) (ex I z.C s)
def ac0 t e c tg b pos:ab<|SS c (.af t e)<|.Assign [tg] b pos:=
 ba ab.no (fE tg) λhs=>ab.and (ab.and (MS b) (VE c tg b) hq) (ab.and (gG e c b).1 (Ds t c tg) hq) λh q z x g=>OJ (h.1 ..) (h.2 z x g) hs (λρ=>q.1 _ _<|g.at ρ) (q.2 z x g)
def Vi t e c tg b pos:ab<|SS c (.af t e)<|.Assign [tg] b pos:=
 ky tg ab.no λo m p=>Gb b ab.no λel gs sc p2=>ab.and (gG e c<|.ListComp el gs sc p2).1 (Ds t c<|.Attribute o m p) λq r z x g=>OJ rfl rfl rfl (λρ=>q _ _<|g.at ρ) (r z x g)
noncomputable def al4 t e c tg b pos:ab<|SS c (.af t e)<|.Assign [tg] b pos:=
 SE t ab.no λts=>kz tg ab.no λl k p=>kz b ab.no λvs k2 p2=>match HI ts,pq c.sc .function l vs with
  |⟨is,q⟩,U (U names)=>ba ab.no (pq c.sc .function l vs==U (U names)) λh=>ba ab.no (C8 is) λhd=>ab.and (ab.and q (DT c names is) hq) (gG e c<|.Tuple vs k2 p2).1 λq v z x g=>by
   have:=aK7 z.rm.hd (pos:=pos) rfl (g.swap (k2:=k) (p2:=p) h) (q.2 z x g) (KB hd) λρ=>v _ _ (g.at ρ)
   refine(?_:c_ x z.Ar _ λρ h Q=>(ao I z.C e ρ).v h λv h=>af I z.C (.aj ts) v ρ h λρ h=>Q .next ρ h)
   rw[Ol q.1]
   exact this
  |_,_=>ab.no
noncomputable def ak6 t e c tg b pos:ab<|SS c (.af t e)<|.Assign [tg] b pos:=
 I3 t ab.no λi=>fK tg ab.no λm pt=>aK2 e ab.no λfr cs l cond a=>Gb b ab.no λelt' gs scope p=>gC gs ab.no λjx gs=>gN gs ab.no (match jx with
  |⟨tg2,iter,ifs,as⟩=>fK tg2 ab.no λn o=>iU as 0 ab.no (ba ab.no (ah c.ns i==U m) λhi=>ba ab.no (c.sc.lookup m==U .local) λhl=>ba ab.no ((pt.line==p.line)&& !(scope.names.any λ(n,k)=>n==m&&(k== .local||k== .cell))) λhs=>
   ab.map (NR cs l cond a (gG l) (gG cond) (gG a) c scope n o iter elt' ifs) λh z x g=>Vm (ft:=λj=>(ao I z.C cond j).t) (fe:=λj=>(ao I z.C a j).v) z.rm.hd (λρ=>OI (g.at ρ) h.1.1 h.1.2)
    (aA cF<|by rw[zu,x_ g hl];exact(by rw[Bool.and_assoc];exact hs:((aa&&aa)&&(pt.line==p.line)&& !(scope.names.any λ(n,k)=>n==m&&(k== .local||k== .cell)))=aa)) ((aA (ah · i) g.ns).trans<|c9 hi) (x_ g hl) (h.2.1 x.env) (λρ=>h.2.2.1 _ _<|g.at ρ) (λρ x' f=>h.2.2.2.1 z x'<|zJ (g.at ρ) f) λρ x' f=>h.2.2.2.2 z x'<|zJ (g.at ρ) f))
def Um t e c a:ab<|SS c (.af t e) a:=Gr a ab.no λf b pos=>gC f ab.no λtg f=>gN f ab.no (ab.or (ac0 t e c tg b pos)<|ab.or (Vi t e c tg b pos)<|ab.or (al4 t e c tg b pos)<|ak6 t e c tg b pos)
end
section
theorem gX.swap(F:gX R k h o)(hf:bc h f=U v)(r: ∀w,ax R v w->ax R u w):gX R k (iw h f u) o:=F.of λm g n h1 h2 h3=>
 have at_: ∀{i y},bc (iw h f u) i=U y-> ∃a,bc h i=U a/\ ∀w,ax R a w->ax R y w:=λ{i y} e=>if q:f=i then by subst q;cases(Ah ..).symm.trans e;exact⟨v,hf,r⟩ else⟨y,(wB _ _ q).symm.trans e,λ_=>id⟩
 .mk (m:=m) g (by rw[Os,hf];exact n) (λy w e=>(h1 y w e).imp λi q=>q.elim λa q=>if t:f=i then⟨u,t▸Ah ..,q.2⟩ else⟨a,(wB _ _ t).trans q.1,q.2⟩)
  (λi y e=>(at_ e).elim λa q=>h2 i a q.1) λi y e=>(at_ e).elim λa q=>q.2 _ (h3 i a q.1)
theorem aw0{σ:St x}{K}{G:Prop}(h:CK σ.A f K v)(k: ∀τ:St x,τ.s=σ.s->σ.le τ->K τ.A->G):G:=
 h.casesOn λha hf h=>zb h λτ u e l r q=>(τ.bg.ob _ _ q.1).2.of λd o e1 ed e2 F=>
  k (τ.cq τ.s.toks q.1 (sV.refl _ _)<|.aK e1 ed e2<|F.swap hf λw p=>p.of r) e l q.2
theorem Fr.xX(f:Fr x R)(hi:ah x.ρ i=U (U v))(hv: ∀u,ax R v u->ax R w u):Fr (x.at<|cX x.ρ i w) R:=
 have key: ∀{j l} {P:V->Prop},ah (cX x.ρ i w) j=U (U l)->(∀g,ah x.ρ j=U (U g)->P g)->(P v->P w)->P l:=λ{j l P} e h q=>if t:i=j then by subst t;cases(ya w<|xE hi).symm.trans e;exact q (h v hi) else h l ((wD _ t).symm.trans e)
 ⟨(ED ..).trans f.len,f.dR.casesOn λo m k e n h=>⟨o,m,k,e,n,λj n l a b e=>key (P:=λv=> ∃w,m n=U w/\ax R v w) e (λg h1=>h j n g a b h1) λq=>q.imp λ_ q=>⟨q.1,hv _ q.2⟩⟩,
  λj n a=>(f.var j n a).casesOn (λq=> .dR q) λc o cv h1 h2 h3 h4 p=> .cell c o cv h1 h2 h3 h4 λl e=>key (P:=λv=> ∃w,cv=U w/\ax R v w) e (λg h=>p g h) λq=>q.imp λ_ q=>⟨q.1,hv _ q.2⟩⟩
def St.xX(σ:St x)(hi:ah x.ρ i=U (U v))(hv: ∀u,ax σ.R v u->ax σ.R w u):St<|x.at<|cX x.ρ i w:=⟨σ.R,σ.A,σ.s,σ.bg,σ.bX,σ.gens,σ.os,σ.fr.xX hi hv⟩
noncomputable abbrev SG(s:S):Prop:= ∀(z:oB) x m g,c_ x z.Ar m g->c_ x z.Ar m λρ h Q=>ex I z.C s ρ h λfl ρ h=>match fl with|.next=>g ρ h Q|fl=>Q fl ρ h
theorem Yg i f:SG<|.wh i f:=λz x m g e ρ σ Q h=>q7 h λv _ h=>aw0 (σ:=σ) h λτ es l k=>es▸bx (e ρ τ Q k) (λ_ _ p=>PS.aG (σ:=σ) (St.kj l) p) λ_ _=>id
theorem aJ8 i:SG<|.xH i:=λz x m g e ρ σ Q h=>q7 h λv hv h=>Fi.casesOn (motive:=λv _=>ah ρ i=U (U v)->aw (M x) z.Ar m (PS σ Q) N0 σ.s) h
 (λh hv=>zb h λτ v es l r k=>es▸bx (e (cX ρ i v) (St.xX (x:=x.at ρ) τ hv λu p=>p.of r) Q k) (λ_ _ p=>PS.aG (σ:=σ) (ρ:=cX ρ i v) (τ:=St.xX (x:=x.at ρ) τ hv λu p=>p.of r) (λa b o z _=>l a b o z) p) λ_ _=>id) hv
abbrev TS(s:S):Type:=(∀c a,ab<|SS c s a)×ab (SG s)
abbrev Nc(c:Cc)(ss:Ss)(as:List cr):Prop:= ∀(z:oB) x,c3 z c x->c_ x z.Ar (kM as x.env) (aZ I z.C ss)
abbrev mw(ss:Ss):Type:= ∀c as,ab (Nc c ss as)
def aO7 e:TS<|.expr e:=⟨λc a=>aL6 a ab.no λb pos=>ab.and (MS b) (gG e c b).1 λh v z x g=>S7 (by unfold interactive;rw[x.st.kind];rfl) (h ..) λρ=>v _ _<|g.at ρ,ab.no⟩
def pR t e:TS<|.af t e:=⟨Um t e,ab.no⟩
def aJ9 i o e:TS<|.Ap i o e:=⟨λc a=>B9 a ab.no λn f b pos=>fK n ab.no λn p=>ba ab.no (decide<|nR o=f) λh=>of_decide_eq_true h▸ba ab.no (ah c.ns i==U n) λh1=>ba ab.no (c.sc.lookup n==U .local) λh2=>
 ab.map (gG e c b).1 λv z x g=>aP4 ((aA (ah · i) g.ns).trans<|c9 h1) (x_ g h2) λρ=>v _ _<|g.at ρ,ab.no⟩
def aM1 b f o e:TS<|.zE b f o e:=⟨λc a=>B9 a ab.no λn i d pos=>ky n ab.no λb' n p=>ba ab.no (decide<|nR o=i) λh=>of_decide_eq_true h▸iU n (cM f) ab.no (ba ab.no (j5 f gA.length) λhf=>
 ab.and (gG b c b').1 (gG e c d).1 λv u z x g=>TD (d5 hf) (λρ=>v _ _<|g.at ρ) λρ=>u _ _<|g.at ρ),ab.no⟩
def SR j:ab (∀ov iv new,augStore j ov iv new=(do iQ [new,ov,iv] (xx ov iv new);xp [new,ov,iv] [];cF .next)):=
 fK j (pd j (Aq j (ky j (mj j (wT j ab.no λ_ _ _=>ab.yes λ_ _ _=>rfl) λ_ _ _=>ab.yes λ_ _ _=>rfl) λ_ _ _=>ab.yes λ_ _ _=>rfl) λ_ _ _ _=>ab.yes λ_ _ _=>rfl) λ_ _ _=>ab.yes λ_ _ _=>rfl) λ_ _=>ab.yes λ_ _ _=>rfl
def XD b i o e:TS<|.Ag b i o e:=⟨λc a=>B9 a ab.no λn f d pos=>mj n ab.no λb' j p=>ba ab.no (decide<|nR o=f) λh=>of_decide_eq_true h▸
 ab.and (SR j) (ab.and (gG b c b').1 (ab.and (gG i c j).1 (gG e c d).1 hq) hq) λhj v z x g=>ay5 hj (λρ=>v.1 _ _<|g.at ρ) (λρ=>v.2.1 _ _<|g.at ρ) λρ=>v.2.2 _ _<|g.at ρ,ab.no⟩
def HY t b d(p:mw b)(q:mw d):TS<|.ite t b d:=⟨λc a=>P9 a ab.no λe b' f pos=>ab.and (gG t c e).2.1 (ab.and (p c b') (q c f) hq) λv u z x g=>aM7 (λρ=>v _ _<|g.at ρ) (u.1 z x g)<|u.2 z x g,ab.no⟩
def ax1 t b(p:mw b):TS<|.while t b:=⟨λc a=>av7 a ab.no λe b' r pos=>gN r ab.no<|ab.and (gG t c e).2.1 (p c b') λv u z x g=>aD0 (ft:=λρ=>(ao I z.C t ρ).t) (λρ=>v _ _<|g.at ρ)<|u z x g,ab.no⟩
def Ut t it b(p:mw b):TS<|.for t it b:=⟨λc a=>as8 a ab.no λtg iter b' r pos=>gN r ab.no<|ab.and (ab.and (O8 iter) ((gG it c iter).2.2 tg) hq) (ab.and (Ds t c tg) (p c b') hq) λh u z x g=>am4 z.rm.hd (h.1 x.env) (λρ=>h.2 _ _<|g.at ρ) (u.1 z x g)<|u.2 z x g,ab.no⟩
def aL7 e:TS<|.ret e:=⟨λc a=>xF a ab.no λo pos=>gO o (ab.map (QI e) λh z x g=>h▸Tl) λb=>ab.map (gG e c b).1 λv z x g=>VX λρ=>v _ _<|g.at ρ,ab.no⟩
def Zd:TS .bp:=⟨λc a=>ab.yes λz x g=>X5 λ_ _ _ q=>q,ab.no⟩
def aF5:TS .cont:=⟨λc a=>Ve a ab.no λ_=>ab.yes λz x g=>am0,ab.no⟩
def aB5:TS .Hv:=⟨λc a=>aw8 a ab.no λ_=>ab.yes λz x g=>SU,ab.no⟩
def aJ2 b(p:mw b):TS<|.tr b:=⟨λc a=>O4 a ab.no λb' hs r f pos=>gN r ab.no<|gN f ab.no<|gC hs ab.no λ_ _=>ab.map (p c b') λv z x g=>am8<|v z x g,ab.no⟩
def aa4 i f:TS<|.wh i f:=⟨λ_ _=>ab.no,ab.yes<|Yg i f⟩
def aD9 i:TS<|.xH i:=⟨λ_ _=>ab.no,ab.yes<|aJ8 i⟩
def at5:mw .nil:=λc as=>gN as ab.no (ab.yes λz x g=>U6)
def Yh s r(p:TS s)(q:mw r):mw<|.cons s r:=λc as=>ab.or (ab.and p.2 (q c as) λp q z x g=>p z x _ _<|q z x g) (gC as ab.no λa as=>ab.and (p.1 c a) (q c as) λp q z x g=>JK (p z x g)<|q z x g)
def zg ss:mw ss:=Ss.rec (motive_1:=TS) (motive_2:=mw) aO7 pR aJ9 aM1 XD HY ax1 Ut aL7 Zd aF5 aB5 aJ2 aa4 aD9 at5 Yh ss
end
section
noncomputable def BV(K:n7) a(k: ∀o,K.lookup a=U o->ab P):ab P:=match h:K.lookup a with
 |U o=>k o h
 |Y=>ab.no
theorem yO(e:B.get? a=U o):(Rm.of B).is a o:=aA (uM<|Rl.kp .fr) e
noncomputable def B0 v w:ab (∀R,ax R v w):=match v with
 |.none=>(match w with
  |.none=>ab.yes λ_=> .none
  |_=>ab.no)
 |.bool b=>(match w with
  |.bool d=>ab.is (b==d) λh _=>c9 h▸ .bool _
  |_=>ab.no)
 |.int b=>(match w with
  |.int d t=>ab.is (b==d) λh _=>c9 h▸ .int ..
  |_=>ab.no)
 |.str b=>(match w with
  |.str d t=>ab.is (b==d) λh _=>c9 h▸ .str ..
  |_=>ab.no)
 |_=>ab.no
noncomputable def J8 vs ws:ab (∀R,aV R vs ws):=match vs,ws with
 |[],[]=>ab.yes λ_=> .nil
 |v::vs,w::ws=>ab.and (B0 v w) (J8 vs ws) λp q R=> .cons (p R) (q R)
 |_,_=>ab.no
noncomputable def aM6(K:n7) l w:ab (∀B,K.In B->ax (Rm.of B) (.aj l) w):=match w with
 |.ref a=>BV K a λo h=>(match o,h with
  |⟨.type T,Y,.seq ws n,sl⟩,h=>ba ab.no (T=="tuple") λh1=>ba ab.no sl.isEmpty λh2=>ab.map (J8 l ws.toList) λr B hB=> .aj (n:=n) (yO<|by rw[hB _ _ h,c9 h1,Array.isEmpty_iff.mp h2]) (r _)
  |_,_=>ab.no)
 |_=>ab.no
noncomputable def Gp(K:n7) v w:ab (∀B,K.In B->ax (Rm.of B) v w):=match v with
 |.aj l=>aM6 K l w
 |v=>ab.map (B0 v w) λr B _=>r _
noncomputable def MO(K:n7) vs ws:ab (∀B,K.In B->aV (Rm.of B) vs ws):=match vs,ws with
 |[],[]=>ab.yes λ_ _=> .nil
 |v::vs,w::ws=>ab.and (Gp K v w) (MO K vs ws) λp q B h=> .cons (p B h) (q B h)
 |_,_=>ab.no
noncomputable def ND(K:n7) cd q:ab (∀B,K.In B->a22 B cd q):=match cd with
 |.ref a=>BV K a λo h=>(match o,h with
  |⟨cl,d,.fields vs,sl⟩,h=>(match e:(vs[1]? :Option au) with
   |U (.str s t)=>ab.is (s==q) λhs B hB=>⟨a,_,vs,t,rfl,hB _ _ h,rfl,e.trans<|by rw[c9 hs]⟩
   |_=>ab.no)
  |_,_=>ab.no)
 |_=>ab.no
abbrev HQ(K:n7)(d:au)(l:List V)(dv:List au):Prop:= ∀B:ct,K.In B->aV (Rm.of B) l dv/\((d= .none/\dv=[])\/ ∃t od n,d= .ref t/\B.get? t=U od/\od.data= .seq dv.toArray n)
noncomputable def Ma K d l:(dv:List au)×ab (HQ K d l dv):=match d with
 |.none=>⟨[],gN l ab.no<|ab.yes λ_ _=>⟨.nil,.inl ⟨rfl,rfl⟩⟩⟩
 |.ref a=>(match h:K.lookup a with
  |U ⟨cl,dd,.seq ws n,sl⟩=>⟨ws.toList,ab.map (MO K l ws.toList) λr B hB=>⟨r B hB,.inr ⟨a,_,n,rfl,hB _ _ h,aA (G8 · n) a10.symm⟩⟩⟩
  |_=>⟨[],ab.no⟩)
 |_=>⟨[],ab.no⟩
noncomputable def QO p ns:ab<|wU p ns:=match p with
 |⟨po,as,va,ko,kd,kw,df⟩=>gN po ab.no (gO va (gN ko ab.no<|gO kw (ab.is (decide<|kW as=ns) λh=>⟨as,kd,df,rfl,of_decide_eq_true h⟩) λ_=>ab.no) λ_=>ab.no)
abbrev As(T:qM)(f:Nat)(fn:Fn)(G:List Nat)(a:Cc->List cr->Prop):=(ck:Ck T f fn)×'a ⟨ck.fd.scope.names,ck.ns,G⟩ ck.nD
def oW{j:Cc->List cr->Prop}(w: ∀c l,ab<|j c l) K G f fn(ns:List Str):ab (∀T,T.p.K=K->T.G=G->Nonempty (As T f fn G j)):=BV K (bR f) λo h=>match o,h with
 |⟨cl,dd,.func fd,sl⟩,h=>(match hb:fd.body with
  |.stmts nD=>ba ab.no (fd.globals==uL) λh1=>ba ab.no (fd.builtins==AX) λh2=>ba ab.no fd.closure.isEmpty λh3=>ba ab.no (!fd.scope.isCoroutine) λh4=>ba ab.no (!fd.scope.isGenerator) λi=>ba ab.no (fd.scope.kind== .function) λt=>
   ba ab.no (vk ns) λg=>ba ab.no (bE ns.length fn.nl) λu=>ba ab.no (eY fn.np fn.nl) λe=>ba ab.no (eY fn.gS.length fn.np) λb=>ba ab.no (ns.all λn=>fd.scope.names.lookup n==U .local||fd.scope.names.lookup n==U .cell) λa=>
   (match Ma K fd.defaults fn.gS with
   |⟨dv,hd⟩=>ab.and (ab.and (ND K fd.code fd.qualname) (QO fd.params<|ns.take fn.np) hq) (ab.and hd (w ⟨fd.scope.names,ns,G⟩ nD) hq) λp q T s hG=>
    have i7:=s▸T.p.i7
    ⟨⟨⟨fd,_,i7 _ _ h,rfl,c9 h1,c9 h2,Sl.mp h3,nD,hb,hV h4,hV i,c9 t,p.1 _ i7,ns,zF g,jh u,d5 e,p.2,dv,(q.1 _ i7).1,d5 b,(q.1 _ i7).2,λn hn=>(xj.mp<|ib a hn).imp c9 c9⟩,
     q.2⟩⟩)
  |_=>ab.no)
 |_,_=>ab.no
def Qy K G f fn(ns:List Str):ab (∀T,T.p.K=K->T.G=G->Nonempty (F0 T f fn)):=
 ab.map (oW (λc l=>zg fn.body c l) K G f fn ns) λr T e hG=>(r T e hG).elim λz=>⟨⟨z.1,λC k x Ar fZ a xs b rm=>z.2 ⟨C,k,Ar,rm⟩ x ⟨aA Scope.names xs,b,a▸hG,a▸fZ⟩⟩⟩
end
end c6
namespace c6
set_option maxHeartbeats 0
open PySem PySem.W PySem.Calls PyProof.Rows PySem.SeqAt
def KP(P:cO):n7:=[125,124,132,131,139,138,146,145,153,152,181,180,195,194,239,238,246,245,260,259,267,266,274,273,281,280,298,291,289,290,297,305,304,312,311,319,318,326,325,340,339,382,381,389,388,394,393,399,398,404,403,411,410,418,417,425,424,432,431,440,433,439,447,446,454,453,461,460,492,491,506,505,526,521,525,547,546,568,567,580,579,585,584,590,589,597,596,604,603,631,630,652,651,666,665,673,672,680,679,694,693,701,700,709,702,708,746,745,753,752,760,759,767,766,772,771,779,778,793,792,800,799,807,806,814,813,828,827,842,841,849,848,856,855,863,862,870,869,877,876,884,883,912,911,917,916,929,928,936,935,951,944,950,960,953,952,959,967,966,992,991,999,998,1006,1005,1013,1012,1034,1033,1055,1054,1076,1075,1090,1089,1095,1094,1102,1101,1109,1108,1116,1115,1130,1129,1137,1136,1144,1143,1149,1148,1156,1155,1161,1160,1168,1167,1176,1175,1188,1187,1202,1201,1209,1208,1216,1215,1223,1222,1231,1224,1230,1239,1238,1246,1245,1253,1252,1260,1259,1265,1264,1272,1271,1279,1278,1284,1283,1291,1290,1296,1295,253,252,160,159,645,644,638,637,659,658,687,686,609,608,616,615,922,921,1123,1122,219,218,371,370,509,508,529,528,550,549,571,570,817,816,901,900,970,969,1016,1015,1058,1057,1079,1078,1191,1190,232,738,1169,1232].map λa=>(a,Hd.lo P a)
noncomputable def GL:List Nat:=[0,1,2,3,4,7,8,9,10,11,12,19,20,21,22,23,24,25,26,27,28,29,30,31,32,37,38,39,40,41,42,43,44,45,46,47,48,49,50,51,52,53,54,55,60,68,69,70,71,82,83,84,85,86,87,88,89,90,91,92,93,94,96,97,98,99,100,101,102,103,104,105,106,107,108,109,110,111,112,113,114,115,116,117,118,119,120]
def oP(P:cO):BT:=Hd.tr P (Hd.gl P Hd.jf 225) (Hd.yf 327) (Hd.yp 6)
theorem af2 P:(KP P).map (λp=>(oP P).get p.1)=(KP P).map (λp=>U p.2):=by kernel_rfl
theorem aC1 P:(KP P).map (λp=>alive p.2)=(KP P).map (λp=>U p.2):=by kernel_rfl
theorem kLt P:(KP P).all (λp=>j5 p.1 1297)=aa:=by kernel_rfl
theorem kT{α β:Type}{f g:α->β}{l:List α}(h:l.map f=l.map g): ∀a∈l,f a=g a:=List.map_inj_left.mp h
theorem NE{α:Type}{l:List<|Nat×α}{a}(h:l.lookup n=U a):(n,a)∈l:=by
 induction l with
 |nil=>cases h
 |cons p r ih=>
  rw[pE] at h
  cases e:n==p.1 with
  |true=>rw[e] at h;cases h;cases c9 e;exact .head _
  |false=>rw[e] at h;exact .tail _ (ih h)
theorem DW P:(KP P).In<|Hd.H1 P:=λa o e=>by
 have m:=NE e
 have h1:=kT (af2 P) _ m
 have h2:=kT (aC1 P) _ m
 have h3:=A3.mp (kLt P) _ m
 exact(abs_get (d5 h3) h1).trans h2
noncomputable def mE(f:Nat):List Str:=match bc Th f with
 |U l=>l
 |.none=>(match(Hd.lo Hd.p0<|bR f -4).data with
  |.seq vs _=>vs.toList.map λv=>match v with
   |.str n _=>n
   |_=>""
  |_=>[])
theorem nI{l}{a:α}(h:bc l n=U a):(n,a)∈l:=by
 induction l with
 |nil=>cases h
 |cons p r ih=>
  rw[show p=(p.1,p.2) from rfl,oV] at h
  exact if e:p.1=n then by rw[aM e] at h;cases h;cases e;exact .head _ else by rw[aE e] at h;exact .tail _ (ih h)
theorem xY: ∀n c,c <n->c∈u2 n:=λn c h=>List.mem_range.mpr h
section
variable(P:cO)
theorem aI6:(u2 13).map (λc=>(hZ (KP P) (.ref<|dK c) "__getattribute__",hZ (KP P) (.ref<|dK c) "__getattr__",hasDictIn (KP P)<|dK c,plainOver (KP P)<|dK c,hZ (KP P) (.ref<|dK c) "__setattr__"))=
  (u2 13).map (λ_=>(U<|U<|.builtin "object.__getattribute__",U Y,aa,aa,U<|U<|.builtin "object.__setattr__")):=by kernel_rfl
noncomputable def az7:Nat×List Nat->Bool:=λp=>j5 p.1 13&&p.2.all λf=>j5 f 62
theorem ZT:tN.all az7=aa:=by kernel_rfl
noncomputable def Qn(K:n7):Nat×List Nat->Bool:=λp=>p.2.all λf=>match hZ K (.ref<|dK p.1) (cM f) with
 |U attr=>noGet K attr&&(match GO K (dK p.1) (cM f) with|U Y=>aa|_=>ae)
 |Y=>ae
theorem Jv:tN.all (Qn<|KP P)=aa:=by kernel_rfl
noncomputable def sD:List (Nat×List (Nat×Nat))->List (Nat×Nat×Nat)
 |[]=>[]
 |(c,l)::r=>(l.map λp=>(c,p.1,p.2))++sD r
theorem aA2:(sD pO).map (λp=>(j5 p.1 13,hZ (KP P) (.ref<|dK p.1)<|kt p.2.1,AW (KP P)<|.ref<|bR p.2.2))=
  (sD pO).map (λp=>(aa,U<|U<|.ref<|bR p.2.2,U<|.type "function")):=by kernel_rfl
theorem PY:vn.map (λp=>(j5 p.1 13,hZ (KP P) (.ref<|dK p.1) "__init__",AW (KP P)<|.ref<|bR p.2,makesIn (KP P)<|dK p.1,qX (KP P)<|.ref<|dK p.1))=
  vn.map (λp=>(aa,U<|U<|.ref<|bR p.2,U<|.type "function",aa,aa)):=by kernel_rfl
theorem ak5:((u2 62).all λf=> !(cM f==("":Str))&&(u2 32).all λm=> !(cM f==kt m)||bE f (I.mf m))=aa:=by kernel_rfl
theorem Yu:vk gA=aa:=by kernel_rfl
theorem X2:(u2 121).all (λf=>qX (KP P)<|.ref<|bR f)=aa:=by kernel_rfl
theorem Fj:gA.length=62:=by kernel_rfl
theorem vV:kZ.length=13:=by kernel_rfl
theorem ZN:Hq.length=32:=by kernel_rfl
theorem Ux:rK.length=121:=by kernel_rfl
end
theorem KS: ∀{l:List<|Nat×List (Nat×Nat)} {c m f:Nat} {r:List<|Nat×Nat},(c,r)∈l->(m,f)∈r->(c,m,f)∈sD l
 |(c',r')::l,c,m,f,r,h,h2=>(bB.mp h).elim (λh=>by cases h;exact List.mem_append_left _<|List.mem_map.mpr ⟨(m,f),h2,rfl⟩) λh=>GJ _ (KS h h2)
theorem Kk(h:I.ms c m=U f):(c,m,f)∈sD pO:=by
 refine(?_:(match bc pO c with|U l=>bc l m|Y=>Y)=U f->_) h
 cases e:bc pO c with
 |none=>exact λh=>bQ h
 |some l=>exact λh=>KS (nI e) (nI h)
theorem By(h:I.nP c f=aa): ∃l,(c,l)∈tN/\f∈l:=by
 refine(?_:(match bc tN c with|U l=>l.contains f|Y=>ae)=aa->_) h
 cases e:bc tN c with
 |none=>exact λh=>fy h
 |some l=>exact λh=>⟨l,nI e,Bh.mp h⟩
theorem P6(h:i <l.length):ah l i=U (nm l i):=by
 unfold nm
 rw[lK,G9 h]
theorem Xv(h: ¬i <l.length):nm l i="":=by
 unfold nm
 rw[lK,List.getElem?_eq_none<|Nat.le_of_not_lt h]
theorem uw(h:j5 i n=aa)(e:m=n):i <m:=e▸d5 h
section
variable(P:cO)
noncomputable def L9 K c f v:ab (∀B,K.In B->c <kZ.length/\f <gA.length/\ ∃a,hZ K (.ref<|dK c) (cM f)=U (U a)/\Ri K a "__get__"=U Y/\ax (Rm.of B) v a/\Rj.contains (cM f)=ae):=
 ba ab.no (j5 c 13) λh1=>ba ab.no (j5 f 62) λh2=>ba ab.no (!(Rj.contains<|cM f)) λh3=>match e:hZ K (.ref<|dK c) (cM f) with
  |U (U a)=>(match e2:Ri K a "__get__" with
   |U Y=>ab.map (B0 v a) λr B _=>⟨uw h1 vV,uw h2 Fj,a,rfl,e2,r _,hV h3⟩
   |_=>ab.no)
  |_=>ab.no
theorem WZ:wA.all (λp=>p.2.all λq=>(L9 (KP P) p.1 q.1 q.2).1)=aa:=by kernel_rfl
theorem am3(h:I.vE c f=U v): ∃l,(c,l)∈wA/\(f,v)∈l:=by
 refine(?_:(match bc wA c with|U l=>bc l f|Y=>Y)=U v->_) h
 cases e:bc wA c with
 |none=>exact λh=>bQ h
 |some l=>exact λh=>⟨l,nI e,nI h⟩
theorem JB{K}(h:Qn K p=aa)(m:f∈p.2): ∃attr,hZ K (.ref<|dK p.1) (cM f)=U attr/\noGet K attr=aa/\GO K (dK p.1) (cM f)=U Y:=by
 have h:=ib h m
 cases e:hZ K (.ref<|dK p.1) (cM f) with
 |none=>rw[e] at h;cases h
 |some attr=>
  rw[e] at h
  refine⟨attr,rfl,dD h,?_⟩
  have h:=fh h
  cases e2:GO K (dK p.1) (cM f) with
  |none=>rw[e2] at h;cases h
  |some o=>cases o with
   |none=>rfl
   |some o=>rw[e2] at h;cases h
def U9:Pk<|Hd.H1 P:=
 have g:=λc (h)=>kT (aI6 P) c (xY _ _<|vV▸h)
 have oI:=λc m f (h)=>kT (aA2 P) _ (Kk h)
 have rD:=λc f (h)=>kT (PY P) _ (nI h)
 {K:=KP P
  i7:=DW P
  ga:=λc h=>(c7<|g c h).1
  gt:=λc h=>(c7 (c7<|g c h).2).1
  hd:=λc h=>(c7 (c7 (c7<|g c h).2).2).1
  po:=λc h=>(c7 (c7 (c7 (c7<|g c h).2).2).2).1
  set:=λc h=>(c7 (c7 (c7 (c7<|g c h).2).2).2).2
  Bl:=λc f h=>(By h).elim λl q=>have y:=ib ZT q.1;⟨uw (dD y) vV,uw (ib (fh y) q.2) Fj⟩
  Og:=λc f h=>(By h).elim λl q=>(JB (ib (Jv P) q.1) q.2).imp λa y=>⟨y.1,y.2.1⟩
  tk:=λc f h=>(By h).elim λl q=>(JB (ib (Jv P) q.1) q.2).elim λa y=>y.2.2
  Oe:=λc f v h=>(am3 h).elim λl q=>(L9 (KP P) c f v).2 (ib (ib (WZ P) q.1) q.2) _ (DW P)
  oI:=λc m f h=>⟨uw (c7<|oI c m f h).1 vV,(c7 (c7<|oI c m f h).2).1,(c7 (c7<|oI c m f h).2).2⟩
  rD:=λc f h=>⟨uw (c7<|rD c f h).1 vV,(c7 (c7<|rD c f h).2).1,(c7 (c7 (c7<|rD c f h).2).2).1,(c7 (c7 (c7 (c7<|rD c f h).2).2).2).1⟩
  Qt:=λm f hf e=>
   have y:=ib ak5 (xY _ _<|Fj▸hf)
   if hm:m <32 then(xj.mp<|ib (fh y)<|xY _ _ hm).elim (λq=>fy <|(hV q).symm.trans<|beq_iff_eq.mpr e) jh
   else fy <|(hV<|dD y).symm.trans (beq_iff_eq.mpr<|e.trans<|Xv<|by rw[ZN];exact hm)
  names:=λf g hf b e=>Eo (zF Yu) (P6 hf)<|(P6 b).trans<|aA U e.symm}
noncomputable def o4:Array jg:=match(Hd.gl P Hd.jf 225).data with
 |.dict es _=>es
 |_=> #[]
noncomputable def vg:Array jg:=match(AH P).data with
 |.dict es _=>es
 |_=> #[]
noncomputable def w4:Array jg:=match(AI P).data with
 |.dict es _=>es
 |_=> #[]
noncomputable def vw(e:jg):ab (∃s t,e.key= .str s t):=match e with
 |⟨_,.str s t,_⟩=>ab.yes ⟨s,t,rfl⟩
 |_=>ab.no
theorem Bo(h:a.toList.all (λe=>(vw e).1)=aa):StrKeys a:=λe he=>(vw e).2 (ib h<|A0.mpr he)
theorem YT:(o4 P).toList.all (λe=>(vw e).1)=aa:=by kernel_rfl
theorem XW:(vg P).toList.all (λe=>(vw e).1)=aa:=by kernel_rfl
theorem Yq:(w4 P).toList.all (λe=>(vw e).1)=aa:=by kernel_rfl
theorem au8:(oP P).get uL=U (Hd.gl P Hd.jf 225):=by kernel_rfl
theorem TG:(oP P).get AX=U (AH P):=by kernel_rfl
theorem aa2:(oP P).get cStatics=U (AI P):=by kernel_rfl
theorem aw1:((oP P).get kL).map (λo=>o.isFreed)=U ae:=by kernel_rfl
theorem aF6:K0.all (λp=>match lE (o4 P) (si p.1) with|U w=>(Gp (KP P) p.2 w).1|Y=>ae)=aa:=by kernel_rfl
theorem Yw:tG.map (λp=>((lE (o4 P) p.1).isNone,lE (vg P) p.1))=tG.map (λp=>(aa,U p.2)):=by kernel_rfl
theorem gFn:GL.map (λf=>lE (o4 P)<|sd f)=GL.map (λf=>U<|.ref<|bR f):=by kernel_rfl
theorem Xl:(sD pO).map (λp=>qX (KP P)<|.ref<|bR p.2.2)=(sD pO).map (λ_=>aa):=by kernel_rfl
theorem aO4:lE (w4 P) "sys.recursionlimit"=Y:=by kernel_rfl
theorem ao8:vn.map (λp=>lE (o4 P)<|tY p.1)=vn.map (λp=>U<|.ref<|dK p.1):=by kernel_rfl
theorem ag8:J3.all (λq=>(Qy (KP P) GL q.1 q.2<|mE q.1).1)=aa:=by kernel_rfl
theorem wf(h:(oP P).get a=U o)(hl:a <1297)(hf:alive o=U o):(Hd.H1 P).get? a=U o:=(abs_get hl h).trans hf
theorem YM{l:List Nat}{n:Nat}(h:rF n l=aa):n∈l:=by
 induction l with
 |nil=>exact fy h
 |cons k r ih=>
  have h:cond (bE k n) aa (rF n r)=aa:=h
  cases e:bE k n <;>rw[e] at h
  ·exact .tail _ (ih h)
  ·exact jh e▸ .head _
def Ci:NW (Hd.H1 P) where
 mg:=lE (o4 P)
 mb:=lE (vg P)
 ng:=⟨_,o4 P,225,wf P (au8 P) dd rfl,rfl,Bo<|YT P,λ_=>rfl⟩
 nb:=(⟨_,rfl⟩: ∃ep,(AH P).data= .dict (vg P) ep).elim λep hd=>⟨_,vg P,ep,wf P (TG P) dd rfl,hd,Bo<|XW P,λ_=>rfl⟩
 gw k v h:=by
  have h:=ib (aF6 P) (nI h)
  dsimp only at h
  cases e:lE (o4 P) (si k) with
  |none=>rw[e] at h;cases h
  |some w=>rw[e] at h;exact⟨w,rfl,(Gp (KP P) v w).2 h _<|DW P⟩
 bi n v h:=have y:=c7 (kT (Yw P) _ h);⟨aX1.mp y.1,y.2⟩
end
section
variable(P:cO)
def sN(p:qN)(w:kJ):qM where
 prog:=p
 w:=w
 B:=Hd.H1 P
 p:=U9 P
 g:=Ci P
 Dt f h:=ib (X2 P) (xY _ _<|Ux▸h)
 cls c f h:=(c7 (c7 (c7 (c7<|kT (PY P) _<|nI h).2).2).2).2
 oI c m f h:=kT (Xl P) _ (Kk h)
 Ju:=((oP P).get kL).getD QV
 nm:=by
  have h:=aw1 P
  cases e:(oP P).get kL with
  |none=>rw[e] at h;cases h
  |some o=>
   rw[e] at h
   refine wf P e dd ?_
   have h:=bM h
   obtain⟨c,d,a,b⟩:=o
   cases a <;>first|rfl|cases h
 G:=GL
 hG f h:=kT (gFn P) f (YM h)
 hC k h:=(u4.mp h).elim λf hf=>have e:=kT (ao8 P) _ (nI hf);e
theorem Bj:(Hd.H1 P).NoLimit:=(⟨_,rfl⟩: ∃ep,(AI P).data= .dict (w4 P) ep).elim λep hd=>⟨lE<|w4 P,⟨_,w4 P,ep,wf P (aa2 P) dd rfl,hd,Bo<|Yq P,λ_=>rfl⟩,aO4 P⟩
theorem Yp p w f fn(h:I.fn f=U fn):Nonempty<|F0 (sN P p w) f fn:=
 (Qy (KP P) GL f fn<|mE f).2 (ib (ag8 P)<|nI h) (sN P p w) rfl rfl
theorem BK p w d:mV (sN P p w) (al I d)<|4*d:=MZ (Bj P) (Yp P p w) d
end
end c6
namespace c6
open PySem PySem.W PySem.Calls PyProof.Rows PySem.SeqAt
open Sem (wp)
noncomputable abbrev L1:List au:=[.type "ValueError",.type "Exception",.type "BaseException",.type "object"]
abbrev ot:List au:= .ref 39::L1
abbrev oX:Obj:=excClassObj (eF "BadFont") (eF "BadFont") 76 75 [.ref 39] ot aa [] [] ae Y Y (U<|.ref 67) Y (U<|.str (eF "BadFont") 256) (U<|.str (eF "BadFont") 264) (U<|.bool aa) "ValueError.__new__"
def KX(P:cO):n7:=(39,Hd.yp 6)::[76,75,38,36,35,29].map λa=>(a,Hd.lo P a)
theorem TU P:(KX P).map (λp=>(oP P).get p.1)=(KX P).map (λp=>U p.2):=by kernel_rfl
theorem aI4 P:(KX P).map (λp=>alive p.2)=(KX P).map (λp=>U p.2):=by kernel_rfl
theorem Yi P:(KX P).all (λp=>j5 p.1 1297)=aa:=by kernel_rfl
theorem YW P:(KX P).In<|Hd.H1 P:=λa o e=>by
 have m:=NE e
 have h1:=kT (TU P) _ m
 have h2:=kT (aI4 P) _ m
 have h3:=A3.mp (Yi P) _ m
 exact wf P h1 (d5 h3) h2
theorem NL P:(KX P).lookup 76=U oX:=by kernel_rfl
theorem as5 P:hZ (KX P) (.ref 76) "__init__"=U (U<|.ref 36):=by kernel_rfl
theorem aK8 P:hZ (KX P) (.ref 76) "__setattr__"=U (U<|.builtin "object.__setattr__"):=by kernel_rfl
theorem VB P:hZ (KX P) (.ref 76) "reason"=U Y:=by kernel_rfl
theorem Vz P:AW (KX P) (.ref 36)=U (.type "function"):=by kernel_rfl
noncomputable abbrev FV:ExcBaseFacts "ValueError" "ValueError.__new__" "ValueError.__init__" L1:=PySem.F.excBase_ValueError
section
variable{M:Model}{E:au->bA->Prop}{os:ml}
theorem Wl(hC:h.get? 76=U oX)(b:Q () ⟨h,g,d,t,os⟩):
  aw M A (R9 "ValueError.__new__" ⟨.ref 76::rest,[]⟩) Q E ⟨h,g,d,t,os⟩:=by
 have hcont:(q4 76::ot).contains (.type "ValueError")=aa:=by decide+kernel
 have a:=FV.noStar
 simp only[R9,FV.newKind,FV.newSplit,FV.newRow]
 repeat(first|refine u_ hC ?_|(refine He hC ?_;rw[hcont])|refine wpAny_staticBase_exc hC ?_|refine a23 hC ?_|simp only[bne_self_eq_false,a04,if_false]|wp_step)
 exact b
end
section
variable{E:au->bA->Prop}{os:ml}
noncomputable abbrev vo(rest:List au):Obj:={cls:= .type "tuple",data:= .seq rest.toArray}
noncomputable abbrev vl(a:ai):Obj:={cls:= .ref 76,data:= .fields #[.ref a,.none,.none,.none,.bool ae,.none]}
theorem aw3(hC:h.get? 76=U oX)(hrest:rest.length<=jD)
  (c:R (.ok<|.ret<|.ref<|h.objs.size+1) ⟨(h.push<|vo rest).push<|vl h.objs.size,g,d,t,os⟩):
  n9 (fH prog w) A (.builtin "ValueError.__new__" ⟨.ref 76::rest,[]⟩) R ⟨h,g,d,t,os⟩:=by
 have a:=FV.ends
 have hcB:(q4 76::ot).contains (.type "ValueError")=aa:=by decide+kernel
 have hcA:(q4 76::ot).contains (.type "AttributeError")=ae:=by decide+kernel
 have hcN:(q4 76::ot).contains (.type "NameError")=ae:=by decide+kernel
 refine codeAny_builtinAt FV.entry ?_
 unfold iR.«BaseException.__new__»
 refine a24 ?_
 refine a24 (PySem.wpAt_stack λp b=>a25 ?_)
 wp_walk
 refine a25 ?_
 rw[FV.owner]
 repeat(first|with_reducible refine wpAny_madeHere_exc FV.canon hC ?_|with_reducible refine u_ hC ?_|(with_reducible refine He hC ?_;first|rw[hcB]|rw[hcA]|rw[hcN])|wp_step)
 rw[s9]
 exact c
theorem UG{Q:Fin->bA->Prop}(X:(KX P).In h)(hC:h.get? 76=U oX)(hrest:rest.length<=jD)
  (i:aw (fH prog w) A (call (.ref 36)<|.ref (h.objs.size+1)::rest) (λr s'=>r= .none/\Q (.done<|.ret<|.ref<|h.objs.size+1) s') E ⟨(h.push<|vo rest).push<|vl h.objs.size,g,d,t,os⟩):
  aw (fH prog w) A (iR.«type.__call__» ⟨.ref 76::rest,[]⟩) Q E ⟨h,g,d,t,os⟩:=by
 repeat(first|with_reducible refine u_ hC ?_|with_reducible refine a23 hC ?_|wp_step)
 refine codeAny_call_builtin_code (a26 _ FV.quiet) (Wl hC ?_)
 refine aw3 hC hrest ?_
 have k: ∀b o,h.get? b=U o->((h.push<|vo rest).push<|vl h.objs.size).get? b=U o:=λb o e=>eA _ (eA _ e)
 have f:=k _ _ hC
 have c:=λa o e=>k _ _ (X a o e)
 have hget:=by heap_get
 have hcC:(q4 76::ot).contains (.ref 76)=aa:=by decide+kernel
 unfold isInstance
 repeat(first|with_reducible refine u_ hget ?_|(with_reducible refine He f ?_;rw[hcC])|wp_step)
 refine(RZ c<|as5 P).at ?_
 refine e7 (aF ((bind_fn c _<|Vz P).at ?_))
 refine aF (bx i (λr s' hr=> ?_) λ_ _ x=>x)
 obtain⟨rfl,j⟩:=hr
 wp_walk
 exact j
theorem XF{Q:au->bA->Prop}(X:(KX P).In h)(hC:h.get? 76=U oX)(hrest:rest.length<=jD)
  (a:aw (fH prog w) (A.under<|.builtin "type.__call__" ⟨.ref 76::rest,[]⟩) (call (.ref 36)<|.ref (h.objs.size+1)::rest) (λr s'=>r= .none/\Q (.ref<|h.objs.size+1) s') E ⟨(h.push<|vo rest).push<|vl h.objs.size,g,d,t,os⟩):
  aw (fH prog w) A (call (.ref 76) rest) Q E ⟨h,g,d,t,os⟩:=by
 have f1:=tc_lookup
 have f2:=tc_bind (.ref 76)
 have hT:(⟨h,g,d,t,os⟩:bA).TypeIs (.ref 76) "type":=⟨_,hC,rfl⟩
 refine s8 (codeAny_of_tree ?_)
 repeat(any_goals(first|assumption|with_reducible refine u_ hC ?_|wp_step))
 refine⟨rfl,?_⟩
 exact codeAny_call_builtin_at (a26 _<|by decide+kernel) entry_typeCall (wpAny_check_type_call_sub hC<|UG X hC hrest a)
end
open Builtin Builtin.ObjectAttr
theorem WG P:mroIn (KX P) 76 (.type "object")=U aa:=by kernel_rfl
section
variable{E:au->bA->Prop}
theorem af1{M}(hC:h.get? 76=U oX):Looks M h (mroOf<|.ref 76)<|.ref 76::ot:=λA Q E s k q=>by
 obtain⟨hh,g,d,t,os⟩:=s
 exact wpAny_mroOf_exc (k _ _ hC) q
theorem ZY(X:(KX P).In s.heap)(hC:s.heap.get? 76=U oX)(he:s.heap.get? e=U h)(hc:h.cls= .ref 76)(f:h.dict=Y)(c:h.data= .fields vs)
  (j: ∀h' tk l,(∀b o,b≠e->s.heap.get? b=U o->h'.get? b=U o)->h'.get? e=U {cls:=h.cls,dict:=U l,data:=h.data,slots:=h.slots}->Q () {s with heap:=h',toks:=tk}):
  aw (fH prog w) A (setAttr (.ref e) "reason" v) Q E s:=by
 have SF:=PySem.F.store_object
 have Iqv:InstAt s.heap e h 76 Y:=⟨he,hc,by unfold notCls;rw[c],by rw[f];trivial⟩
 have sub:Looks (fH prog w) s.heap (isInstance (.ref e)<|.type "object") aa:=Iqv.type.andThen (looks_mroIn X<|WG P)
 refine PySem.W.set_plain X Iqv (aK8 P) ?_
 refine codeAny_call_builtin SF.slot.plain SF.entry (@check_slot (fH prog w) _ _ _ "object.__setattr__" "object" "__setattr__" (.ref e) [.str "reason" s.toks,v] [] _ SF.kind SF.split sub (SF.args (.ref e) (.str "reason" s.toks) v) ?_)
 rw[osa_eq,refuse_eq]
 obtain⟨hh,g,d,tk,os⟩:=s
 obtain⟨oc,od,q,t⟩:=h
 dsimp only at X hC he j hc f c Iqv⊢
 subst hc f c
 refine aF (aF<|Iqv.type.at<|wpAny_bind ((af1 hC).at ?_))
 rw[a27,a27,PySem.F.store_ValueError.passes]
 refine bV (aF<|Iqv.type.at<|wpAny_bind ((RZ X<|VB P).at<|wpAny_bind<|wpAny_pure ?_))
 refine aF (bV<|wpAny_bind<|wpAny_bind<|wpAny_loadPart he<|wpAny_bind<|wpAny_bind<|wpAny_load hC<|wpAny_pure ?_)
 have i:=jE (g9 he)
 have a:=eA {cls:= .type "dict",data:= .dict #[]} he
 refine aF (wpAny_alloc' ?_)
 refine aF (wpAny_update' a ?_)
 refine bV ?_
 have hgd:((hh.push {cls:= .type "dict",data:= .dict #[]}).update e λo=>{cls:=o.cls,dict:=U hh.objs.size,data:=o.data,slots:=o.slots}).get? hh.objs.size
   =U {cls:= .type "dict",data:= .dict #[]}:=
  (a28 _ _ _ _ i.symm).trans (ct.get?_push_at rfl rfl)
 have hns:iN {cls:= .type "dict",data:= .dict #[]} (λ_=>Y) 0:=⟨#[],0,rfl,by intro e he;simp at he,λ_=>rfl,dO _⟩
 unfold storeInDict newKeyGuard
 refine aF (bV<|wpAny_bind<|I1 hgd hns λo' h' e' p sb=> ?_)
 obtain⟨es,ep,n1,n2,u,n4⟩:=id p
 refine aF (aU4 e' (by rw[n1];exact aU3 (by
  have:es.size<=1:=n4
  rw[AZ];lia)) ?_)
 refine bV (j _ _ hh.objs.size (λb o hb eb=> ?_) ?_)
 ·exact(sb.2 b<|Nat.ne_of_lt<|Heap.lt_size eb).trans ((a28 _ _ _ _ hb).trans<|Heap.get?_push_of_some _ eb)
 ·exact(sb.2 e i).trans (uW _ a rfl)
end
abbrev Hm(l:List cr):Prop:= ∃p1 p2 p3 p4,l=[.Assign [.Attribute (.Name "self" p1) "reason" p2] (.Name "reason" p3) p4]
def Uo l:ab<|Hm l:=gC l ab.no λs r=>gN r ab.no (Gr s ab.no λts v p4=>gC ts ab.no λt tr=>gN tr ab.no (ky t ab.no λb n2 p2=>fK b ab.no λn1 p1=>fK v ab.no λa p3=>
 iU n1 "self" ab.no<|iU n2 "reason" ab.no<|iU a "reason" ab.no<|ab.yes ⟨p1,p2,p3,p4,rfl⟩))
structure aa6(K:n7)(fd:FuncData)(dv:List au):Prop where
 Fe: ∃l,fd.body= .stmts l/\Hm l
 q6:fd.closure=[]
 co:fd.scope.isCoroutine=ae
 jx:fd.scope.isGenerator=ae
 kind:fd.scope.kind= .function
 code: ∀B,K.In B->a22 B fd.code fd.qualname
 DY:wU fd.params ["self","reason"]
 gS:HQ K fd.defaults [.str ""] dv
 l1:fd.scope.names.lookup (eF "self")=U .local
 l2:fd.scope.names.lookup (eF "reason")=U .local
noncomputable def MP K(o:Obj):ab (∃fd dv,o.data= .func fd/\aa6 K fd dv):=match o with
 |⟨cl,dq,.func fd,sl⟩=>(match hb:fd.body with
  |.stmts l=>ba ab.no fd.closure.isEmpty λh3=>ba ab.no (!fd.scope.isCoroutine) λh4=>ba ab.no (!fd.scope.isGenerator) λe=>ba ab.no (fd.scope.kind== .function) λa=>ba ab.no (fd.scope.names.lookup (eF "self")==U .local) λb=>ba ab.no (fd.scope.names.lookup (eF "reason")==U .local) λc=>
   (match Ma K fd.defaults [.str ""] with
   |⟨dv,hd⟩=>ab.and (ab.and (ND K fd.code fd.qualname) (QO fd.params ["self","reason"]) hq) (ab.and hd (Uo l) hq) λp q=>⟨fd,dv,rfl,⟨l,hb,q.2⟩,Sl.mp h3,hV h4,hV e,c9 a,p.1,p.2,q.1,c9 b,c9 c⟩)
  |_=>ab.no)
 |_=>ab.no
theorem x36 P:(KX P).lookup 36=U (Hd.lo P 36):=by kernel_rfl
theorem ay1 P:(MP (KX P)<|Hd.lo P 36).b=aa:=by kernel_rfl
section
variable{E:au->bA->Prop}
theorem ai9(hA:A.depth <GT)(X:(KX P).In s.heap)(hl:s.heap.NoLimit)(hC:s.heap.get? 76=U oX)
  (he:s.heap.get? e=U {cls:= .ref 76,dict:=Y,data:= .fields vs,slots:=j})
  (h: ∀h' tk g,(∀b o,b≠e->s.heap.get? b=U o->h'.get? b=U o)->h'.get? e=U {cls:= .ref 76,dict:=U g,data:= .fields vs,slots:=j}->Q .none {s with heap:=h',toks:=tk}):
  aw (fH prog w) A (call (.ref 36) [.ref e,v]) Q E s:=by
 obtain⟨fd,dv,hd,Iqv⟩:=(MP (KX P)<|Hd.lo P 36).ok (ay1 P)
 obtain⟨l,t,p1,p2,p3,p4,el⟩:=Iqv.Fe
 have hbod:=el▸t
 have ho:=X _ _ (x36 P)
 obtain⟨dr,u⟩:=Iqv.gS s.heap X
 have ldv:dv.length=1:=dr.length
 have nd:(["self","reason"]:List Str).Nodup:=by decide+kernel
 refine s8 (aY1 hA ho hd Iqv.co Iqv.jx hbod (Iqv.code _ X) ?_)
 refine Pm Iqv.DY nd (dO _) (by simp only[eT,j2,ldv];lia) (by rw[ldv];exact d5 rfl) ?_ _ _ _ _ ?_
 ·intro M A E Q h
  rcases u with⟨e1,e2⟩|⟨T,od,n,e1,e2,e3⟩
  ·rw[e2] at ldv;cases ldv
  ·rw[e1];exact RV e2 e3 (h _ rfl)
 ·rw[Iqv.q6]
  have us:r7 ["self","reason"] [.ref e,v] dv=([("self",.ref e),("reason",v)]:List<|Str×au):=by
   unfold r7
   simp only[eT,j2,ldv]
   rw[aZ4<|by lia]
   rfl
  rw[us]
  refine aY2 Iqv.kind (λy f=> ?_) λenv c s' Z=> ?_
  ·rcases bB.mp f with rfl|f
   ·exact .inl Iqv.l1
   ·rcases bB.mp f with rfl|f
    ·exact .inl Iqv.l2
    ·cases f
  ·have ns:=Z.toInCall.ns
   obtain⟨h1,tk,rfl,hk⟩:=Z.done
   have ks:env.kindOf "self"=U .local:=by rw[c];exact Iqv.l1
   have kr:env.kindOf "reason"=U .local:=by rw[c];exact Iqv.l2
   have kd:env.scope.kind= .function:=by rw[c];exact Iqv.kind
   have b1:=Fu (us:=[.ref e,v]) (i:=0) nd rfl rfl ks
   have b2:=Fu (us:=[.ref e,v]) (i:=1) nd rfl rfl kr
   refine⟨hl.keeps hk,codeAny_func ?_⟩
   refine q5 (plainObj_wpAny_Assign_Attribute ?_)
   refine GP (GQ kd kr ns b2 ?_) (by decide+kernel)
   refine GP (GQ kd ks ns b1 ?_) (by decide+kernel)
   refine ZY (λa o q=>hk _ _<|X a o q) (hk _ _ hC) (hk _ _ he) rfl rfl rfl λh' p g z k2=> ?_
   exact Be (h h' p g (λb o hb eb=>z b o hb<|hk _ _ eb) k2)
end
theorem SM P:qX (KX P) (.ref 76)=aa:=by kernel_rfl
section
variable{M:Model}{E:au->bA->Prop}
theorem ax5(hh:A.handled=Y)
  (h:aw M A xs (λv s₁=> ∃e b vs c,v= .ref e/\s₁.heap.get? 76=U oX/\s₁.heap.get? e=U {cls:= .ref 76,dict:=b,data:= .fields vs,slots:=c}/\vs[1]? =U .none/\E (.ref e) s₁) E s):
  aw M A (raiseStmt env (U xs) Y) Q E s:=by
 have hcB:(q4 76::ot).contains (.type "BaseException")=aa:=by decide+kernel
 have hcT:(q4 76::ot).contains (.type "type")=ae:=by decide+kernel
 unfold raiseStmt
 refine aF (bx h (λv s₁ a=> ?_) λ_ _ x=>x)
 obtain⟨e,b,vs,c,rfl,hC,he,hv,f⟩:=a
 obtain⟨hp,g,d,tk,os⟩:=s₁
 repeat(first|with_reducible refine u_ he ?_|with_reducible refine u_ hC ?_|(with_reducible refine He hC ?_;first|rw[hcB]|rw[hcT])|wp_step)
 rw[hv]
 refine bV ?_
 rw[aE dd]
 exact bV (wpAny_raiseNew_none hh f)
end
section
variable{n:Nat}{σ:St x}{E:au->bA->Prop}
theorem Fz{M}{t}{Q:α->bA->Prop}(h:aw M Ar t Q N0 s):aw M Ar t Q E s:=bx h (λ_ _ q=>q) λ_ _ q=>q.elim
theorem L8(X:u.In x.T.B)(hk:qX u p=aa){j}
  (hn: ∀b,b p σ.s->aw (M x) Ar (aQ (.Name j q) x.env) b N0 σ.s) (hs:o.all fE=aa) (el:fX n x Ar (iP<|eU pos<|eV o x.env) t) (h:t σ.A G)
  (k: ∀(τ:St x) vs ws,σ.le τ->aV τ.R vs ws->G vs τ.A->aw (M x) Ar (call p ws) Q E τ.s):
  aw (M x) Ar (aQ (.Call (.Name j q) o [] pos) x.env) Q E σ.s:=
 u7 (Fz<|hn _<|callWith_of (by rw[tF hs];rfl) (keeps_K hk)<|Fz<|zT hs<|el.map h λτ vs ws l r g=>⟨λa ob e=>τ.i7<|X a ob e,k τ vs ws l r.1 g⟩)
theorem VR(hX:(KX P).In x.T.B)(hlim:x.T.B.NoLimit)(t:x.T.g.mg "BadFont"=U (.ref 76))(hk:x.env.kindOf "BadFont"=U .globalImplicit)(hh:Ar.handled=Y)(hdep:Ar.depth+4 <GT)
  (s: ∀h' tk (τ:St x) e oe vs a0,σ.le τ->τ.A=σ.A->(∀b ob,τ.s.heap.get? b=U ob->h'.get? b=U ob)->τ.s.heap.get? e=Y->h'.get? e=U oe->oe.cls= .ref 76->oe.data= .fields vs->vs[1]? =U .none->vs[0]? =U a0->E (.ref e) {τ.s with heap:=h',toks:=tk}):
  aw (M x) Ar (hg (.Raise (U<|.Call (.Name "BadFont" q) [.Constant (.str m) o cp] [] j) Y pos) x.env) Q E σ.s:=by
 rw[arm_exec_Raise]
 refine aF (jk<|?_)
 refine ax5 hh (aF ?_)
 have ec:=((II (.str m) (.str m) o cp).2<|by show(m==m)=aa;exact beq_self_eq_true m) x Ar
 have el:fX 1 x Ar (iP<|eU j<|eV [.Constant (.str m) o cp] x.env) (λh K=>K [.str m] h):=by
  rw[o0 rfl]
  exact fX.cons ec fX.nil
 refine L8 (G:=λvs h=>vs=[.str m]/\h=σ.A) hX (SM P) (λw k=>v2 σ hk (by decide+kernel) t k) rfl el ⟨rfl,rfl⟩ λτ vs ws l r g=>(g.1▸r:aV τ.R [.str m] ws).bq λb rw=> ?_
 have X1:=λa ob e=>τ.i7 (hX a ob e)
 have hC:=X1 _ _ (NL P)
 have f:=hlim.keeps λb ob e=>τ.i7 e
 have k2: ∀{y:au} b ob,τ.s.heap.get? b=U ob->((τ.s.heap.push<|vo [y]).push<|vl τ.s.heap.objs.size).get? b=U ob:=λb ob e=>eA _ (eA _ e)
 have hne:τ.s.heap.get? (τ.s.heap.objs.size+1)=Y:=RW (jj _)
 refine XF X1 hC (by size_fits) (ai9 ?_ (λa ob e=>k2 _ _<|X1 a ob e) (f.keeps k2) (k2 _ _ hC) (by heap_get) λh' c u c1 p=>⟨rfl,?_⟩)
 ·show Ar.depth+_ <_
  have:(Code.builtin "type.__call__" ⟨.ref 76::[b],[]⟩).weight=1:=rfl
  rw[this];lia
 ·have i:=λb ob e=>c1 b ob (λz=>by rw[z,hne] at e;exact bQ e) (k2 _ _ e)
  refine aF (jk<|bV ?_)
  exact⟨_,_,_,_,rfl,i _ _ hC,p,rfl,s h' c τ _ _ _ _ l g.2 i hne p rfl rfl rfl rfl⟩
end
noncomputable abbrev F7:E:= .nt (.call 0<|.cons (.x 3)<|.cons (.c<|.int 1)<|.cons (.c<|.int 32768) .nil)
noncomputable abbrev D_:Es:= .cons (.x 0) (.cons (.x 1)<|.cons (.x 2)<|.cons (.x 4) .nil)
noncomputable abbrev EL:Es:= .cons (.x 0) (.cons (.x 1)<|.cons (.ix (.tu<|.cons (.c<|.str<|eF "fa")<|.cons (.c<|.str<|eF "fb") .nil)<|.dY .sub (.x 1)<|.c<|.int 1)<|.cons (.x 2)<|.cons (.x 3) .nil)
inductive wP (c:Cc):List cr->Prop
 |mk:ST c F7 t->c.sc.lookup (eF "BadFont")=U .globalImplicit->wP c (.If t [.Raise (U<|.Call (.Name "BadFont" q) [.Constant (.str m) kk cp] [] cpos) Y pos] b p::rest)
inductive jA (c:Cc) (f:Nat) (es:Es):Expr->Prop
 |mk:rF f c.G=aa->f <rK.length->gQ c (sd f)=aa->SL c es as->jA c f es (.Call (.Name (sd f) q) as [] pos)
inductive vX (c:Cc):List cr->Prop
 |mk:SS c (.ite (.eW .gt (.x 3)<|.c<|.int 0) Co .nil) a->jA c 29 D_ e->vX c (a:: .Return (U e) p::rest)
inductive vO (c:Cc):List cr->Prop
 |mk:jA c 30 EL e->c.sc.lookup (eF "BadFont")=U .globalImplicit->vO c [.Try [.Return (U e) p] [.ExceptHandler (U<|.Name "BadFont" q) Y [.Return (U<|.Constant .none kk cp) p1] p2] [] [] p3]
def Z_ es:TL es:=
 Es.rec K3 HM MY Mt Ly QA Qz Ie JX Ql Ke Qd NM Mh KZ IX MM JS K7 QH QF J7 Nh Mf Mz Ky es
def zN c f es a:ab<|jA c f es a:=qr a ab.no λfn as kw pos=>gN kw ab.no (fK fn ab.no λn q=>iU n (sd f) ab.no (ba ab.no (rF f c.G) λh1=>ba ab.no (j5 f rK.length) λh2=>ba ab.no (gQ c<|sd f) λh3=>
 ab.map (Z_ es c as).1 λp=>⟨h1,d5 h2,h3,p⟩))
noncomputable def QB c l:ab<|wP c l:=gC l ab.no λs r=>P9 s ab.no λt b e p=>gC b ab.no λs g=>gN g ab.no (VM s ab.no λx z pos=>gO z (gO x ab.no λx=>qr x ab.no λf as kw cp=>gN kw ab.no (gC as ab.no λa ar=>gN ar ab.no (fK f ab.no λn q=>pd a ab.no λk kk kp=>(match k with
 |.str m=>iU n "BadFont" ab.no (ba ab.no (c.sc.lookup (eF "BadFont")==U .globalImplicit) λh=>ab.map (gG F7 c t).2.1 λv=>⟨v,c9 h⟩)
 |_=>ab.no)))) λ_=>ab.no)
def O7 c l:ab<|vX c l:=gC l ab.no λa r=>gC r ab.no λs r=>xF s ab.no λo p=>gO o ab.no λe=>ab.and ((HY _ _ _ (zg _)<|zg _).1 c a) (zN c 29 D_ e) λv k=>⟨v,k⟩
noncomputable def Il c l:ab<|vO c l:=gC l ab.no λs r=>gN r ab.no (O4 s ab.no λb hs oe f p3=>gN oe ab.no (gN f ab.no (gC b ab.no λs g=>gN g ab.no (xF s ab.no λo p=>gO o ab.no λe=>gC hs ab.no λhd hr=>gN hr ab.no (match hd with
 |.ExceptHandler a nm hb p2=>gO nm (gO a ab.no λa=>fK a ab.no λn q=>gC hb ab.no λs v7=>gN v7 ab.no (xF s ab.no λo p1=>gO o ab.no λv=>pd v ab.no λk kk cp=>(match k with
  |.none=>iU n "BadFont" ab.no (ba ab.no (c.sc.lookup (eF "BadFont")==U .globalImplicit) λh=>ab.map (zN c 30 EL e) λk=>⟨k,c9 h⟩)
  |_=>ab.no))) λ_=>ab.no)))))
theorem x29 P:(oW QB (KP P) GL 29 wG<|mE 29).b=aa:=by kernel_rfl
theorem WX P:(oW O7 (KP P) GL 30 vu<|mE 30).b=aa:=by kernel_rfl
theorem Yb P:(oW Il (KP P) GL 109 wL<|mE 109).b=aa:=by kernel_rfl
end c6
namespace c6.La
open PySem
section
theorem ac6(hs:a=0\/a=32769)(k:Q (.bool ae) h):al I (d+1) 0 [.int a,.int 1,.int 32768] h Q:=
 e_ rfl rfl (bz (mH (N9 (eJ (ay (ap rfl (bh (.Iu (Fk (N9 (af8 (eJ (ay (ap rfl (bh (.LL (ak8 (Fk (WM (ap rfl (ap rfl (.D3 (hs.elim
  (λe=>gk (by subst e;decide) ⟨h,H.le_refl h,k⟩) λe=>Fy (by subst e;decide)<|ap rfl<|.D3<|by rw[Qj<|by subst e;decide];exact⟨h,H.le_refl h,k⟩)))))))))))))))))))))))
theorem ai4(hs:a=0\/a=32769)(k:T h):(ao I (al I 2) F7 [U b,U n,U m,U<|.int a,Y]).t h T F:=
 ah5 (aI9<|eI<|ay<|ap rfl<|ay<|bl<|ay<|bl<|bh<|ac6 hs<|Ed k)
theorem aC6(k:Q .next [U b,U n,U m,U<|.int 0,U<|.int a] h):ex I (al I 2) (.ite (.eW .gt (.x 3)<|.c<|.int 0) Co .nil) [U b,U n,U m,U<|.int 0,U<|.int a] h Q:=
 Gg (iS<|ap rfl<|bl<|.qE<|gk dd k)
theorem Xd(k:K [b,n,m,s] h):cP I (al I 2) D_ [U b,U n,U m,U z,U s] h K:=
 ay (ap rfl<|ay<|ap rfl<|ay<|ap rfl<|ay<|ap rfl<|bh k)
theorem ay4(k:K [b,.int 2,.str<|eF "fb",z,s] h):cP I (al I 2) EL [U b,U<|.int 2,U z,U s] h K:=
 ay (ap rfl<|ay<|ap rfl<|ay<|iC<|mU<|ay<|bl<|ay<|bl<|bh<|eE<|ap rfl<|bl<|.wZ<|.nZ dd dd rfl<|ay<|ap rfl<|ay<|ap rfl<|bh k)
end
end c6.La
namespace c6
open PySem PySem.W PySem.Calls PyProof.Rows PySem.SeqAt
section
variable{x:Cx}
def Ck.cx(c:Ck x.T f fn)(n:Nat)(st:nQ (callEnvC c.fd n<|bR f) c.ns)(ρ:L):Cx:=c.fx n x.gens x.os st ρ
end
noncomputable abbrev im(l:List Env):List ai:=l.filterMap (·.frame)
def jt(R:Rm)(l:List Env):Prop:= ∀env∈l,env.scope.kind= .function/\ ∃L o,env.frame=U L/\R.kp .own L o/\ ∀vs,o.data≠ .fields vs
theorem jt.le{R S}(st:jt R l)(h:R.le S):jt S l:=λenv m=>(st env m).imp id λz=>z.imp λL z=>z.imp λo z=>⟨z.1,h _ _ _ z.2.1,z.2.2⟩
section
theorem rN(q:wo x R): ∃o,R.kp .own x.env.locals o/\ ∀vs,o.data≠ .fields vs:=q.casesOn λo m k e n _=>⟨o,e,λvs z=>by obtain⟨es,ep,e2,_⟩:=n;rw[e2] at z;exact nomatch z⟩
theorem jt.call{σ:St x}(st:jt σ.R l)(c:Ck x.T f fn){n:Nat}{s}(τ:St<|c.cx n s ρ)(h:σ.R.le τ.R):jt τ.R<|callEnvC c.fd n (bR f)::l:=λenv m=>(bB.mp m).elim (λe=>e▸⟨c.kind,_,(rN τ.fr.dR).elim λo z=>⟨o,rfl,z⟩⟩) λm=>st.le h env m
theorem M4{a h':ct}: ∀{l:List Env},(∀env∈l,env.scope.kind= .function/\ ∃L o,env.frame=U L/\h'.get? L=U o/\(∀vs,o.data≠ .fields vs)/\a.get? L=Y)->h'.FunFrames a l
 |[],_=>trivial
 |env::l,h=>by
  obtain⟨k,L,o,e1,e2,e3,e4⟩:=h env xg
  exact⟨by rw[k];decide,⟨L,o,e1,e4,e2,e3⟩,M4 λv m=>h v<|List.mem_cons_of_mem _ m⟩
theorem jt.frames{σ:St x}(st:jt σ.R l){a h':ct}(hb: ∀L∈im l,a.get? L=Y)(k: ∀b ob,σ.s.heap.get? b=U ob->h'.get? b=U ob):h'.FunFrames a l:=
 M4 λenv m=>(st env m).imp id λz=>z.elim λL z=>z.elim λo z=>⟨L,o,z.1,k _ _<|σ.bg.kp _ _ _ z.2.1,z.2.2,hb L<|Sp.mpr ⟨env,m,z.1⟩⟩
end
section
variable{E:au->bA->Prop}
def Ck.mz(c:Ck x.T f fn){n}{a}(σ:St x)(τ:St<|c.cx n a ρ)(h:σ.R.le τ.R):St x:=⟨τ.R,τ.A,τ.s,τ.bg,τ.bX,τ.gens,τ.os,σ.fr.keep h⟩
inductive oG (σ:St x) (l:List Env) (e:ai) (s':bA):Prop
 |mk (τ:St x) (bX:ct) (a0:au) (S:List ai):σ.R.le τ.R->τ.A=σ.A->s'.gens=x.gens->s'.os=x.os->(∀a∈S,(∀b o,¬σ.R.kp b a o)/\ ∃o,τ.R.kp .own a o)->
  (∀b ob,τ.s.heap.get? b=U ob->b∉S->b∉im l->bX.get? b=U ob)->ct.FlyingW bX l e (.ref 76) a0 s'.heap->τ.s.heap.UpToSlots s'.heap->oG σ l e s'
theorem Io{h a}(m:b∈im (callEnvC h n a::l))(k:b≠n):b∈im l:=(bB.mp m).elim (λz=>absurd z k) id
theorem OL{h:ct}{F}(hn:h.get? e=Y):(hideAll h F).get? e=Y:=by
 cases q:(hideAll h F).get? e with
 |none=>rfl
 |some p=>exact bQ <|hn.symm.trans (of_hideAll _ q)
theorem O0{S:List ai}(n1:b∉n::S):b≠n:=λz=>n1 (z▸xg)
theorem Wi{σ:St x}(c:Ck x.T f fn){n:Nat}{t}(τ:St<|c.cx n t ρ)(h:σ.R.le τ.R)(hA:τ.A=σ.A)(n0: ∀b o,¬σ.R.kp b n o)(sk:jt τ.R<|callEnvC c.fd n (bR f)::l)(i:Ar.frames=U (callEnvC c.fd n (bR f)::l))
  (k: ∀b ob,τ.s.heap.get? b=U ob->h'.get? b=U ob) (hn:τ.s.heap.get? e=Y) (he:h'.get? e=U j) (hc:j.cls= .ref 76) (hd:j.data= .fields vs) (h1:vs[1]? =U .none) (h0:vs[0]? =U p)
  {M} (s: ∀g,oG σ l e g->Q () g):aw M Ar (RU (callEnvC c.fd n<|bR f)<|.ref e) Q E {τ.s with heap:=h',toks:=tk}:=
 wpAny_leaving_firstW i (sk.frames (λL m=>hideAll_none _ m) k) rfl he (λb ob q=>k _ _<|of_hideAll _ q) (OL hn) hd h1 h0 λu LW=>s _
  ⟨c.mz σ τ h,_,p,[n],h,hA,τ.gens,τ.os,λa m=>pz (motive:=λa=>(∀b o,¬σ.R.kp b a o)/\ ∃o,τ.R.kp .own a o) (b9.mp m).symm ⟨n0,(rN τ.fr.dR).imp λo z=>z.1⟩,λb ob eb n1 n2=>hideAll_get _ eb λm=>n2<|Io m<|O0 n1,⟨LW.1,OL hn,LW.2.1.2.2,hc▸LW.2.2.1⟩,(ct.UpToSlots.of_keeps k).trans LW.2.2.2⟩
theorem as9{σ:St x}(c:Ck x.T f fn){n:Nat}{A}(τ:St<|c.cx n A ρ)(h:σ.R.le τ.R)(hA:τ.A=σ.A)(n0: ∀b o,¬σ.R.kp b n o)(fl:oG τ (callEnvC c.fd n (bR f)::l) e u)(j:Ar.frames=U (callEnvC c.fd n (bR f)::l))
  {M} (y: ∀g,oG σ l e g->Q () g):aw M Ar (RU (callEnvC c.fd n<|bR f)<|.ref e) Q E u:=
 oG.casesOn fl λυ bX t S l2 hA2 g2 o2 hS w s us=>wpAny_leaves_onW j rfl s λh' i p=>y _
  ⟨c.mz σ υ λa b o q=>l2 a b o<|h a b o q,bX,t,n::S,λa b o q=>l2 a b o<|h a b o q,hA2.trans hA,g2,o2,λa m=>(bB.mp m).elim (λz=>pz (motive:=λa=>(∀b o,¬σ.R.kp b a o)/\ ∃o,υ.R.kp .own a o) z.symm ⟨n0,(rN υ.fr.dR).imp λo z=>z.1⟩) λm=>⟨λb o q=>(hS a m).1 b o<|h a b o q,(hS a m).2⟩,
   λb ob eb n1 n2=>w b ob eb (λm=>n1<|.tail _ m) λm=>n2<|Io m<|O0 n1,i,us.trans p⟩
end
structure Ex(T:qM) where
 P:cO
 hX:(KX P).In T.B
 hl:T.B.NoLimit
 H_:T.g.mg "BadFont"=U (.ref 76)
 fZ:mV T (al I 2) 8
 zW:As T 29 wG T.G wP
 yn:As T 30 vu T.G vX
 yD:As T 109 wL T.G vO
section
theorem zM(rm:d6 (k+1) Ar):d6 k<|Ar.deeper env:=by
 have:=rm.oD
 have:=rm.un
 exact⟨rm.hd,by show Ar.depth+1+_ <_;lia,by show Ar.units+3+_+_ <_;lia⟩
noncomputable def tK(σ:St x)(l:List Env)(r:u5)(s':bA):Prop:=match r with
 |.error v=> ∃e,v= .ref e/\oG σ l e s'
 |.ok _=>False
@[elab_as_elim] theorem tK.el{σ:St x}{X:u5->bA->Prop}(q:tK σ l r s)(k: ∀e,oG σ l e s->X (.error<|.ref e) s):X r s:=by
 rcases r with v|v
 ·obtain⟨e,rfl,fl⟩:=q
  exact k e fl
 ·exact q.elim
theorem at1(X:Ex x.T)(c:Ck x.T 29 wG)(hb:wP ⟨c.fd.scope.names,c.ns,x.T.G⟩ c.nD)(rm:d6 12 Ar)(σ:St x)(sk:jt σ.R l)(i:Ar.frames=U l)(hs:p=0\/p=32769)(r:aV σ.R [b,n,m,.int p] t):
  n9 (M x) Ar (.call (.ref<|bR 29) ⟨t,[]⟩) (tK σ l) σ.s:=by
 refine v5 X.hl c (mo (cg _ _) rm.oD) σ.bg σ.bX σ.gens σ.os rfl r λst τ le y own _=>wP.casesOn hb λtv hk=> ?_
 have rm3:d6 10<|Ar.deeper<|callEnvC c.fd σ.s.heap.objs.size<|bR 29:=(zM rm).oZ dd
 refine q5 (wpAny_If<|Fz<|(tv ⟨al I 2,8,_,rm3⟩ (c.cx σ.s.heap.objs.size st [U b,U n,U m,U<|.int p,Y]) ⟨rfl,rfl,rfl,X.fZ⟩).map (J:=λb h=>b=aa/\h=τ.A) (La.ai4 hs ⟨rfl,rfl⟩) λυ v w l2 rv j=> ?_)
 cases(rv)
 rw[j.1]
 exact q5 (VR (σ:=υ) X.hX X.hl X.H_ hk rm3.hd (mo (eG dd _) rm3.oD) λh' tk f e oe vs z l3 e3 kp hn s hc hd h1 h0=>
  have g:=λa b o q=>l3 a b o (l2 a b o<|le a b o q)
  Wi c f g (e3.trans<|j.2.trans y) (λb o q=>bH <|(σ.bg.dm _<|Nat.le_refl _).symm.trans q) (sk.call c f g) (xC i) kp hn s hc hd h1 h0 λu fl=>⟨e,rfl,fl⟩)
end
section
theorem IV(g:c3 z c x)(k:jA c f j a)(σ:St x)(h:cP I z.C j x.ρ σ.A G){Q E}(q: ∀(τ:St x) vs ws,σ.le τ->aV τ.R vs ws->G vs τ.A->aw (M x) z.Ar (call (.ref<|bR f) ws) Q E τ.s):aw (M x) z.Ar (aQ a x.env) Q E σ.s:=
 jA.casesOn k λh1 h2 h3 h4=>L8 x.T.p.i7 (x.T.Dt f h2) (λb k=>v2 σ (g.gQ h3) (ue h3) (x.T.hG f<|g.G▸h1) k) h4.1 (h4.2 z x _ g) h q
theorem NO(g:c3 z c x)(k:jA c f o a)(σ:St x){vs j}(b:σ.A=j)(h: ∀K,K vs σ.A->cP I z.C o x.ρ σ.A K){Q E}(q: ∀(τ:St x) ws,σ.le τ->τ.A=j->aV τ.R vs ws->aw (M x) z.Ar (call (.ref<|bR f) ws) Q E τ.s):aw (M x) z.Ar (aQ a x.env) Q E σ.s:=
 IV g k σ (G:=λus h=>us=vs/\h=σ.A) (h _ ⟨rfl,rfl⟩) λτ us ws l r e=>q τ ws l (e.2.trans b) (e.1▸r)
noncomputable def Eb(f:Fl):Bool:=Fl.casesOn f aa ae ae λ_=>ae
theorem Tq(r:mI R f a):f= .next->a= .next:=
 mI.casesOn (motive:=λf w _=>f= .next->w= .next) r (λ_=>rfl) (λe=>fy<|aA Eb e) (λe=>fy<|aA Eb e) λ_ e=>fy (aA Eb e)
@[elab_as_elim] theorem PS.nx{σ:St x}{X:sQ->bA->Prop}(q:PS σ (λf ρ h=>f= .next/\ρ=a/\h=j) l s)(k: ∀υ:St<|x.at a,σ.lo υ->υ.A=j->X .next υ.s):X l s:=by
 obtain⟨b,υ,v,lo,r2,e1,e2,e3⟩:=q
 cases e2
 exact Tq r2 e1▸k υ lo e3
theorem aI1(X:Ex x.T)(c:Ck x.T 30 vu)(hb:vX ⟨c.fd.scope.names,c.ns,x.T.G⟩ c.nD)(rm:d6 13 Ar)(σ:St x)(sk:jt σ.R l)(i:Ar.frames=U l)(hs:j=0\/j=32769)(r:aV σ.R [b,n,m,.int 0,.int j] t):
  n9 (M x) Ar (.call (.ref<|bR 30) ⟨t,[]⟩) (tK σ l) σ.s:=by
 refine v5 X.hl c (mo (cg _ _) rm.oD) σ.bg σ.bX σ.gens σ.os rfl r λst τ le u own _=>vX.casesOn hb λsv kc=> ?_
 have rm2:d6 12<|Ar.deeper<|callEnvC c.fd σ.s.heap.objs.size<|bR 30:=zM rm
 have g:c3 ⟨al I 2,8,_,rm2.oZ dd⟩ ⟨c.fd.scope.names,c.ns,x.T.G⟩<|c.cx σ.s.heap.objs.size st [U b,U n,U m,U<|.int 0,U<|.int j]:=⟨rfl,rfl,rfl,X.fZ⟩
 refine q5 (bx (sv _ _ g _ τ (λfl p h=>fl= .next/\p=[U b,U n,U m,U<|.int 0,U<|.int j]/\h=τ.A)<|La.aC6 ⟨rfl,rfl,rfl⟩) (λfl s2 q=>PS.nx q λυ lo e3=> ?_) λ_ _ q=>q.elim)
 have l7:=λa b o q=>lo a b o (le a b o q) λ_ w=>bH <|(σ.bg.no a<|own a w).symm.trans q
 refine q5 (Si<|NO g kc υ (e3.trans u) (λK=>La.Xd) λφ y l3 hA r3=> ?_)
 have f:=λa b o q=>l3 a b o (l7 a b o q)
 exact s8 (xy (at1 (x:=c.cx σ.s.heap.objs.size st [U b,U n,U m,U<|.int 0,U<|.int j]) X X.zW.1 X.zW.2 rm2 φ (sk.call c φ f) (xC i) hs r3) λr s' q=>tK.el q λe fl=>
  as9 c φ f hA (λb o q=>bH <|(σ.bg.dm _<|dO _).symm.trans q) fl (xC i) λs fl'=>⟨e,rfl,fl'⟩)
end
section
noncomputable def Rm.mark(R:Rm)(T:List ai)(h:ct):Rm:=λa=>if a∈T then(h.get? a).map (.kp .own) else R a
theorem St.au6{σ υ:St x}(le:σ.R.le υ.R){T:List ai}{s}(hT: ∀a∈T,∃o,υ.R.kp .own a o)(nT: ∀a∈T,a≠x.env.locals-> ∀b o,¬σ.R.kp b a o)(k: ∀b ob,υ.s.heap.get? b=U ob->b∉T->s.heap.get? b=U ob)(us:υ.s.heap.UpToSlots s.heap)
  (g:s.gens=x.gens) (os:s.os=x.os) (nc: ∀n c,x.env.cells.lookup n=U c->c≠x.env.locals): ∃φ:St x,φ.s=s/\φ.A=υ.A/\σ.lo φ:=by
 have d2: ∀{a},a∉T->(υ.R.mark T s.heap) a=υ.R a:=λm=>aE m
 have no: ∀{a r},υ.R a=U r->(∀o,r≠ .kp .own o)->a∉T:=λe n m=>(hT _ m).elim λo q=>n o (bM<|e.symm.trans q)
 have fl:υ.R.fl<|υ.R.mark T s.heap:=λa o e=>(d2<|no e λ_ q=>qv <|q).trans e
 have lo:=λa b o e q=>(d2 λm=>nT a m q b o e).trans (le a b o e)
 have bg:c2 (υ.R.mark T s.heap) υ.A s.heap:=⟨λa b o e=>by
   by_cases m:a∈T
   ·have e:(if a∈T then(s.heap.get? a).map (Rl.kp .own) else υ.R a)=U (.kp b o):=e
    rw[aM m] at e
    exact(aZ8.mp e).elim λob q=>by cases q.2;exact q.1
   ·exact k _ _ (υ.bg.kp _ _ _<|(d2 m).symm.trans e) m,
  λa o e=>have q:=υ.bg.ob a o e
   have m:=no q.1 λ_ q=>qv <|q
   ⟨(d2 m).trans q.1,q.2.keep fl (λp h=>k a p h m) λd p hd hp=>⟨k d p hp<|no hd λ_ q=>qv <|q,(d2<|no hd λ_ q=>qv <|q).trans hd⟩⟩,
  λa e=>by
   by_cases m:a∈T
   ·exact(aM m).trans (by rw[e];rfl)
   ·refine(d2 m).trans ?_
    cases q:υ.s.heap.get? a with
    |none=>exact υ.bg.no a q
    |some ob=>exact bQ <|e.symm.trans<|k a ob q m⟩
 have iI:=λa o e=>fl a o (le a .fr o e)
 have fr:Fr x<|υ.R.mark T s.heap:=⟨σ.fr.len,σ.fr.dR.casesOn λo m j e ns hh=>by
   have eo:=υ.bg.kp _ _ _ (le _ _ _ e)
   have hh2: ∀i n v,ah x.ns i=U n->x.env.kindOf n=U .local->ah x.ρ i=U (U v)-> ∃w,m n=U w/\ax (υ.R.mark T s.heap) v w:=λi n v a b c=>(hh i n v a b c).imp λ_ q=>⟨q.1,q.2.aG iI⟩
   by_cases mT:x.env.locals∈T
   ·obtain⟨f,es⟩:=us _ _ eo λvs z=>by obtain⟨es,ep,e2,_⟩:=ns;rw[e2] at z;exact nomatch z
    exact .mk {o with slots:=f} m j ((aM mT).trans<|by rw[es];rfl) (ns.casesOn λes ep a b c d=>⟨es,ep,a,b,c,d⟩) hh2
   ·exact .mk o m j ((d2 mT).trans<|le _ _ _ e) ns hh2,
  λi n e=>(σ.fr.var i n e).casesOn .dR λc o cv h1 h2 h3 h4 l=> .cell c o cv h1 h2 (lo c .own o h3<|nc n c h2) h4 λv e=>(l v e).imp λ_ q=>⟨q.1,q.2.aG iI⟩⟩
 exact⟨⟨_,υ.A,s,bg,λa o e=>fl a o<|υ.bX a o e,g,os,fr⟩,rfl,rfl,λa b o e q=>lo a b o e λz=>(rN σ.fr.dR).elim λo' w=>q (by subst z;cases bM (e.symm.trans w.1);rfl)<|.inl z⟩
end
section
variable{x:Cx}
theorem jt.at(st:jt R l)(m:a∈im l): ∃o,R.kp .own a o:=by
 obtain⟨env,hm,hL⟩:=Sp.mp m
 obtain⟨-,L,o,e,k,-⟩:=st env hm
 cases bM (e.symm.trans hL)
 exact⟨o,k⟩
inductive jW (σ:St x) (K:V->H->Prop) (u:au):bA->Prop
 |mk (φ:St x) (v:V):σ.lo φ->ax φ.R v u->K v φ.A->jW σ K u φ.s
theorem Vu(X:Ex x.T)(t:x.env.frame=U x.env.locals)(nc: ∀n c,x.env.cells.lookup n=U c->c≠x.env.locals)(σ:St x){n:Nat}(c:Ck x.T f fn){y}(τ:St<|c.cx n y ρ)(le:σ.R.le τ.R)(hA:τ.A=σ.A)(n0: ∀b o,¬σ.R.kp b n o)
  (hk:c.fd.scope.names.lookup (eF "BadFont")=U n8.globalImplicit) (sk:jt σ.R [x.env]) (p:Ar.frames=U [callEnvC c.fd n<|bR f,x.env]) {K} (hK:K .none σ.A)
  (fl:oG τ [callEnvC c.fd n<|bR f,x.env] e W) {Q:sQ->bA->Prop} {E} (T: ∀j,jW σ K .none j->Q (.ret .none) j):
  aw (M x) Ar (noteFrame (.ref e)<|callEnvC c.fd n<|bR f) (λ_ l=>aw (M x) Ar (setFlight (.ref e) Y) (λ_ h=>
   aw (M x) Ar (handleBy (.ref e) (callEnvC c.fd n<|bR f) [.ExceptHandler (U<|.Name "BadFont" q) Y [.Return (U<|.Constant .none kk cp) p1] p2]) Q E h) E l) E W:=oG.casesOn fl λυ bX a0 S l2 hA2 g2 o2 hS R fw us=>by
 have l7:=λa b o q=>l2 a b o (le a b o q)
 refine wpAny_looks_onW p rfl fw λh4 u D=>wpAny_landsW u λZ g J=> ?_
 have i:=us.trans (D.trans J)
 have hX:=X.hX _ _ (NL X.P)
 have N:=υ.bX _ _ hX
 have no: ∀{a:ai} {o},υ.R.kp .own a o->a≠76:=λz m=>qv <|bM (z.symm.trans<|m▸N)
 have hC:=g.1 _ _ (R _ _ (υ.at N) (λm=>(hS _ m).2.elim λo z=>no z rfl) λm=>(((sk.call c τ le).le l2).at m).elim λo z=>no z rfl)
 have ns:Z.Ns (callEnvC c.fd n<|bR f).globals x.T.g.mg:=by
  rw[y.gw]
  exact i.ns (υ.zx x.T.g.ng)
 refine g.there.elim λoe he=> ?_
 refine wpAny_handleBy_cons (codeAny_handlers_test<|Rn y.kind hk (aT5 ns X.H_ ?_)<|by decide+kernel) (by intro z;cases z)
 refine wpAny_excMatches_sub_self hC he.1 he.2 (by decide+kernel) (codeAny_handlers_suite<|lands_againW g λh6 A w=>q5<|wpAny_Return_some<|wpAny_Constant_none<|T _ ?_)
 exact(St.au6 (υ:=c.mz σ υ l7) l7 (s:={W with heap:=h6})
  (λa m=>(bB.mp m).elim (λz=>z▸(rN υ.fr.dR).imp λo z=>z.1) λm=>(bB.mp m).elim (λz=>z▸(rN σ.fr.dR).imp λo z=>l7 _ _ _ z.1) λm=>(hS a m).2)
  (λa m nq=>(bB.mp m).elim (λz=>z▸n0) λm=>(bB.mp m).elim (λz=>absurd z nq) λm b o q=>(hS a m).1 b o<|le a b o q)
  (λb ob eb nm=>A.1 _ _<|R b ob eb (λm=>nm<|.tail _<|.tail _ m) λm=>(Sp.mp m).elim λenv m=>(bB.mp m.1).elim (λz=>nm<|by subst z;cases bM m.2;exact .head _) λhm=>nm<|.tail _<|by cases b9.mp hm;cases bM (t.symm.trans m.2);exact .head _)
  (i.trans w) g2 o2 nc).elim λφ q=>q.1▸⟨φ,.none,q.2.2,.none,q.2.1▸(show υ.A=σ.A from hA2.trans hA)▸hK⟩
end
structure jP(x:Cx)(Ar:cV):Prop where
 ex:Nonempty (Ex x.T)
 fZ:mV x.T (al I 100) 400
 rm:d6 402 Ar
 f0:x.env.frame=U x.env.locals
 fr:Ar.frames=U [x.env]
 nc: ∀n c,x.env.cells.lookup n=U c->c≠x.env.locals
section
theorem jP.sk(z:jP x Ar)(σ:St x):jt σ.R [x.env]:=λenv m=>(b9.mp m)▸⟨x.st.kind,_,(rN σ.fr.dR).imp λo q=>⟨z.f0,q⟩⟩
theorem ac2(X:Ex x.T)(c:Ck x.T 109 wL)(hb:vO ⟨c.fd.scope.names,c.ns,x.T.G⟩ c.nD)(z:jP x Ar)(σ:St x)(hs:h=0\/h=32769)(r:aV σ.R [b,.int 2,.int 0,.int h] l){K}(s:K .none σ.A):aw (M x) Ar (call (.ref<|bR 109) l) (jW σ K) N0 σ.s:=by
 refine s8 (v5 X.hl c (mo (cg _ _) z.rm.oD) σ.bg σ.bX σ.gens σ.os rfl r λst τ le j own _=>vO.casesOn hb λkc hk=> ?_)
 have rm2:d6 13<|Ar.deeper<|callEnvC c.fd σ.s.heap.objs.size<|bR 109:=zM (z.rm.oZ dd)
 have g:c3 ⟨al I 2,8,_,rm2.oZ dd⟩ ⟨c.fd.scope.names,c.ns,x.T.G⟩<|c.cx σ.s.heap.objs.size st [U b,U<|.int 2,U<|.int 0,U<|.int h]:=⟨rfl,rfl,rfl,X.fZ⟩
 refine q5 (a20<|q5<|Si<|NO g kc τ j (λK=>La.ay4) λφ p l3 hA r3=> ?_)
 have f:=λa b o q=>l3 a b o (le a b o q)
 exact s8 (xy (aI1 (x:=c.cx σ.s.heap.objs.size st [U b,U<|.int 2,U<|.int 0,U<|.int h]) X X.yn.1 X.yn.2 rm2 φ ((z.sk σ).call c φ f) (xC z.fr) hs r3) λr s' q=>tK.el q λe fl=>
  Vu X z.f0 z.nc σ c φ f hA (λb o q=>bH <|(σ.bg.dm _<|dO _).symm.trans q) hk (z.sk σ) (xC z.fr) s fl λi q=>q)
end
noncomputable abbrev uE:Es:= .cons (.x 2) (.cons (.c<|.int 1)<|.cons (.x 4)<|.cons (.c<|.int 0) .nil)
noncomputable abbrev rM:Es:= .cons (.x 2) (.cons (.c<|.int 2)<|.cons (.c<|.int 0)<|.cons (.x 5) .nil)
section
variable{x:Cx}{K:V->H->Prop}
theorem jW.aG{σ:St<|x.at ρ}{τ:St<|x.at ρ}(l:σ.lo τ)(q:jW τ K u s):jW σ K u s:=jW.casesOn q λφ v m r k=>⟨φ,v,St.lo.trans l m,r,k⟩
theorem US(z:jP x Ar)(σ:St x)(r:aV σ.R vs a)(h:La.CS 109 vs σ.A K):aw (M x) Ar (call (.ref<|bR 109) a) (jW σ K) N0 σ.s:=
 h.elim (λh=>bx (Bq z.fZ (z.rm.oZ dd) r h) (λ_ _ p=>p.casesOn λτ v w l r k=>⟨τ,v,St.kj l,r,k⟩) λ_ _=>id)
  λq=>q.elim λw q=>q.elim λsc q=>z.ex.elim λX=>ac2 X X.yD.1 X.yD.2 z σ q.1 (q.2.2.1▸r) q.2.2.2
theorem jP.to(z:jP x Ar) ρ:jP (x.at ρ) Ar:=⟨z.ex,z.fZ,z.rm,z.f0,z.fr,z.nc⟩
noncomputable abbrev jP.uA(z:jP x Ar):oB:=⟨La.CX,400,Ar,z.rm⟩
theorem Ij(z:jP x Ar)(g:c3 z.uA c x)(k:jA c 109 j a)(he:cP I La.CS j=cP I La.CX j)(σ:St x)(h:(ao I La.CS (.call 109 j) x.ρ).v σ.A K):aw (M x) Ar (aQ a x.env) (jW σ K) N0 σ.s:=
 IV g k σ (G:=λvs h=>La.CS 109 vs h K) (he▸h) λτ vs ws l r h=>bx (US z τ r h) (λ_ _ q=>jW.aG (St.kj l) q) λ_ _=>id
theorem jA.NV(k:jA c f h a):fE a=aa:=jA.casesOn k λ_ _ _ _=>rfl
theorem Wv(z:jP x Ar)(g:c3 z.uA c x)(e:jA c 109 uE a)(k2:jA c 109 rM b)(σ:St x)(h:(ao I La.CS (.tu<|.cons (.call 109 uE)<|.cons (.call 109 rM) .nil) x.ρ).v σ.A K):aw (M x) Ar (aQ (.Tuple [a,b] j pos) x.env) (jW σ K) N0 σ.s:=by
 refine aT6 ?_
 rw[o0 e.NV,o0 k2.NV]
 exact AY (bx (Ij z g e rfl σ (K:=λv h=>(ao I La.CS (.call 109 rM) x.ρ).v h λw h=>K (.aj [v,w]) h) h) (λf s1 q=>jW.casesOn q λτ v l r h=>
  AY (bx (Ij z g k2 rfl τ h) (λi s2 q=>jW.casesOn q λυ w l2 r2 h=>
   Ro ⟨jo<|D8 rfl,.mk (υ.keep (gU [f,i] 0) rfl) (.aj [v,w]) (St.lo.trans (St.lo.trans l l2)<|St.kj<|υ.dQ _) (.aj (υ.uG ..)<|.cons ((r.aG<|St.lo.fl l2).aG (υ.dQ _).fl)<|.cons (r2.aG (υ.dQ _).fl) .nil) h⟩) λ_ _=>id)) λ_ _=>id)
inductive vj (c:Cc):cr->Prop
 |mk:(pq c.sc .function elts [a1,a2]==U (U names))=aa->(∀(z) x,c3 z c x->zn x names [9,10])->jA c 109 uE a1->jA c 109 rM a2->vj c (.Assign [.Tuple elts k2 p2] (.Tuple [a1,a2] kk p) pos)
noncomputable def t32 c a:ab<|vj c a:=Gr a ab.no λe b pos=>gC e ab.no λtg e=>gN e ab.no (kz tg ab.no λelts k2 p2=>kz b ab.no λvs kk p=>gC vs ab.no λf vs=>gC vs ab.no λg vs=>gN vs ab.no (match pq c.sc .function elts [f,g] with
 |U (U names)=>ba ab.no (pq c.sc .function elts [f,g]==U (U names)) λh=>ab.and (DT c names [9,10]) (ab.and (zN c 109 uE f) (zN c 109 rM g) hq) λq k=>⟨h,q,k.1,k.2⟩
 |_=>ab.no))
theorem UU:Ec (.cons (.x 9)<|.cons (.x 10) .nil) [9,10]:=⟨rfl,λC vs ρ h K hl=>match vs,hl with
 |[_,_],_=>rfl⟩
theorem ap4{ρ A Q}(h:ex I La.CS La.wE ρ A Q):(ao I La.CS (.tu<|.cons (.call 109 uE)<|.cons (.call 109 rM) .nil) ρ).v A λv h=>jp h (λl=>match bE l.length 2 with|aa=>Q .next (j0 [9,10] l ρ) h|ae=>False) v:=by
 have h:(ao I La.CS (.tu<|.cons (.call 109 uE)<|.cons (.call 109 rM) .nil) ρ).v A λv h=>af I La.CS (.aj<|.cons (.x 9)<|.cons (.x 10) .nil) v ρ h λρ h=>Q .next ρ h:=h
 rw[Ol UU] at h
 exact h
theorem aB1(z:jP x Ar)(g:c3 z.uA c x)(b:vj c a):c_ x Ar (hg a x.env)<|ex I La.CS La.wE:=
 vj.casesOn b λhw ha f i ρ σ Q h=>a19 (bx (Wv (z.to ρ) (g.at ρ) f i σ<|ap4 h) (λu s q=>jW.casesOn q λτ v l r k=>by
  have ha:=ha _ _ g
  rw[<-ha.length]
  refine C0 z.rm.hd r k λxs hl k υ ws l2 e r2=> ?_
  rw[<-F1 [9,10] xs ρ dd hl.symm,<-e] at k
  exact bx (NY ha.iK xs.reverse ws.reverse ρ υ (by rw[sU,sU];exact hl) r2.iK k) (λ_ _ p=>PA.up (λa b o z n=>l2 a b o<|l a b o z n) p) λ_ _=>id) λ_ _=>id) rfl (g.swap hw)
end
def Sq(p:cr->Prop)(q:List cr->Prop)(l:List cr):Prop:= ∃a r,l=a::r/\p a/\q r
def qu(t: ∀a,ab<|p a)(u: ∀l,ab<|q l) l:ab<|Sq p q l:=gC l ab.no λa r=>ab.and (t a) (u r) λp q=>⟨a,r,rfl,p,q⟩
def Mv(c:Cc):List cr->Prop:=Sq (SS c La.EZ) (Sq (SS c La.CA)<|Sq (SS c La.B2)<|Sq (SS c La.Eg)<|Sq (SS c La.F6)<|Sq (SS c La.EV)<|Sq (SS c La.Fc)<|Sq (vj c) λr=>Nc c q8 r)
def Qm c: ∀l,ab<|Mv c l:=qu ((pR _ _).1 c) (qu ((pR _ _).1 c)<|qu ((pR _ _).1 c)<|qu ((pR _ _).1 c)<|qu ((pR _ _).1 c)<|qu ((pR _ _).1 c)<|qu ((pR _ _).1 c)<|qu (t32 c)<|zg q8 c)
theorem Ta P:(oW Qm (KP P) GL 110 DZ<|mE 110).b=aa:=by kernel_rfl
section
theorem pW(s:Sq p q l)(h: ∀a,p a->c_ x Ar (hg a x.env) f)(k: ∀r,q r->c_ x Ar (kM r x.env) g):c_ x Ar (kM l x.env)<|La.k3 f g:=by
 obtain⟨a,r,rfl,b,c⟩:=s
 have:=JK (h a b) (k r c)
 delta La.k3 La.Ac
 exact this
theorem au2(z:jP x Ar)(g:c3 z.uA c x)(b:Mv c l):c_ x Ar (kM l x.env) La.Gf:=
 have ss: ∀{s:S} a,SS c s a->c_ x Ar (hg a x.env) (ex I La.CX s):=λa p=>p z.uA x g
 pW b ss λr b=>pW b ss λr b=>pW b ss λr b=>pW b ss λr b=>pW b ss λr b=>pW b ss λr b=>pW b ss λr b=>pW b (λa b=>aB1 z g b) λr b=>b z.uA x g
end
theorem Zx P:lE (o4 P) "BadFont"=U (.ref 76):=by kernel_rfl
noncomputable def Rm.lN(h:ct):Rm:=λa=>(h.get? a).map (.kp .fr)
theorem Rm.ad2(e:(Rm.lN h).kp b a o):h.get? a=U o:=by
 have e:(h.get? a).map (Rl.kp .fr)=U (.kp b o):=e
 cases q:h.get? a with
 |none=>rw[q] at e;exact bH <|e
 |some p=>rw[q] at e;cases e;rfl
theorem Rm.Dp(e:h.get? a=U o):(Rm.lN h).is a o:=aA (uM<|Rl.kp .fr) e
theorem Sx h:c2 (Rm.lN h) La.nH h:=⟨λa b o e=>Rm.ad2 e,λa o e=>(bQ <|e),λa e=>aA (uM<|Rl.kp .fr) e⟩
theorem aB7(r:mI R f a):vN f= .bool aa->a= .ret (.bool aa):=
 mI.casesOn (motive:=λf w _=>vN f= .bool aa->w= .ret (.bool aa)) r (λe=>jK<|aA sK e) (λe=>jK<|aA sK e) (λe=>jK<|aA sK e) λ{v w} r e=>ax.of (P:=λw=>sQ.ret w= .ret (.bool aa)) (pz (motive:=λv=>ax R v w) e r) rfl
theorem am1 P p w(hB: ∀b o,(Hd.H1 P).get? b=U o->s.heap.get? b=U o)(hx:xs.length<=63)(r:ax (Rm.lN s.heap) (.fl<|vi xs) v)
  (k: ∀s',(∀a o,s.heap.get? a=U o->s'.heap.get? a=U o)->s'.gens=s.gens->s'.os=s.os->Q (.ok<|.ret<|.bool aa) s'):n9 (fH p w) callerA (.call (.ref<|bR 110) ⟨[v],[]⟩) Q s:=by
 refine Nonempty.elim ((oW Qm (KP P) GL 110 DZ<|mE 110).2 (Ta P) (sN P p w) rfl rfl) λcb=> ?_
 obtain⟨c,b⟩:=cb
 have rm:d6 410 callerA:=⟨rfl,dd,dd⟩
 refine v5 (Bj P) c dd (Sx s.heap) (λa o e=>Rm.Dp<|hB a o e) rfl rfl rfl (.cons r .nil) λst τ le g own nc=> ?_
 have z:jP (c.fx s.heap.objs.size s.gens s.os st<|La.pJ xs Y Y Y)<|callerA.deeper<|callEnvC c.fd s.heap.objs.size<|bR 110:=
  ⟨(oW QB (KP P) GL 29 wG<|mE 29).2 (x29 P) (sN P p w) rfl rfl|>.elim λzW=>((oW O7 (KP P) GL 30 vu<|mE 30).2 (WX P) (sN P p w) rfl rfl).elim λyn=>((oW Il (KP P) GL 109 wL<|mE 109).2 (Yb P) (sN P p w) rfl rfl).elim λyD=>⟨⟨P,YW P,Bj P,Zx P,BK P p w 2,zW,yn,yD⟩⟩,
   BK P p w 100,(zM<|rm.oZ dd),rfl,xC rfl,nc⟩
 exact bx (au2 z ⟨rfl,rfl,rfl,BK P p w 100⟩ b _ τ La.PT<|g▸La.aN4 hx) (λfl s' q=>PS.casesOn q λh υ f l i j=>aB7 i j▸k υ.s (λa o e=>υ.at<|l _ .fr _ (le _ _ _<|Rm.Dp e) λz=>fU z) υ.gens υ.os) λ_ _ q=>q.elim
noncomputable def Ho(P:cO)(h:ct)(v:au)(d:WData):Prop:=match d with
 |.int i=> ∃t,v= .int i t
 |.list xs=> ∃a vs,v= .ref a/\h.get? a=U (cy vs 0)/\Hf P h vs xs
 |_=>True
theorem K9(x:Well P h v d):Ho P h v d:=Well.casesOn (motive_1:=λv d _=>Ho P h v d) x tI (λ_=>tI) (λ_ t=>⟨t,rfl⟩) (λ_ _=>tI) (λ_ _=>tI) (λ_ _=>tI) (λ_=>tI) (λe w=>⟨_,_,rfl,e,w⟩) (λ_ _=>tI) (λ_ _=>tI) (λ_ _ _ _=>tI) (λ_ _ _ _=>tI) λ_ _ _ _=>tI
theorem O5(x:Hf P h vs []):vs=[]:=by cases x;rfl
theorem au4{xs:List Int}(x:Hf P h vs<|ofPys<|xs.map .int):aV R (vi xs) vs:=by
 induction xs generalizing vs with
 |nil=>exact O5 x▸ .nil
 |cons i r ih=>
  exact(a29 x).elim λv e=>e.elim λws e=>(K9 e.2.1).elim λt q=>e.1▸q▸ .cons (.int _ _) (ih e.2.2)
theorem Vx{xs:List Int}(x:Hf P h vs [ofPy<|.list<|xs.map .int]): ∃v,vs=[v]/\ax (Rm.lN h) (.fl<|vi xs) v:=
 (a29 x).elim λv e=>e.elim λws e=>(K9 e.2.1).elim λa q=>q.elim λus q=>⟨v,O5 e.2.2▸e.1,q.1▸ .fl (Rm.Dp q.2.1) (au4 q.2.2)⟩
theorem aE3 P:(Ci P).mg Hd.dl.name=U (.ref<|bR 110):=by kernel_rfl
set_option tactic.hygienic true in
set_option maxHeartbeats 0 in
theorem ZK{a b:ai}(e:U (q4 a)=U (.ref b)):a=b:=by cases e;rfl
theorem aA8{e f:Array jg}{n m:Nat}(h:Data.dict e n= .dict f m):e=f:=by cases h;rfl
theorem WJ{h h':ct}{m j:Str->Option au}(A:h.Ns a m)(B:h'.Ns a j)(Yqv: ∀b o,h'.get? b=U o->h.get? b=U o)(k):m k=j k:=by
 obtain⟨o1,p,g,i,c,_,a4⟩:=A
 obtain⟨o2,f,l,b1,b2,_,b4⟩:=B
 have e:=bM (i.symm.trans<|Yqv _ _ b1)
 rw[<-a4,<-b4,aA8<|(c.symm.trans<|congrArg _ e).trans b2]
theorem V5{a}(hpre:Hd.jq.row.claim.pre a=aa)(hlay:WData.layableAll a=aa): ∃xs:List Int,a=[ofPy<|.list<|xs.map .int]/\xs.length<=63:=by
 have b:=(pre_splitW hpre).1
 have hcond:=(pre_splitW hpre).2
 clear hpre
 wrow_hasAll b hlay
 refine⟨_,rfl,?_⟩
 w_cond hcond
 rename_i h1 h2
 exact bS.mp (fF.mp h1)
theorem au3:Hd.jq.row.wellSaid=aa->Hd.jq.row.Holds:=λl=>Hd.av l (by
 intro w f s₁ mg mb G Yqv t o pm y doc q u _ _ _ _ b p args vals as hpre hlay _ c _
 have e2:=ZK (b.symm.trans<|(WJ G.T.g (Ci w.params).ng Yqv _).trans<|aE3 w.params)
 have e3:=V5 hpre hlay
 clear b G hpre hlay
 subst e2
 obtain⟨xs,e,hlen⟩:=e3
 subst e
 obtain⟨v,e,r⟩:=Vx c
 subst e
 refine s8 (am1 w.params Hd.jq.row.prog w (s:=s₁) Yqv hlen r λs' g j i=> ?_)
 refine GoodW.toG ⟨.inl ⟨_,_,_,rfl,λ_=>rfl,.bool aa,?_,λh=> ?_⟩,g,i,j.trans p⟩
 ·wrow_post
 ·exact⟨So,λa ha=>by cases ha⟩
 )
theorem WT(h:(a&&b)=aa):a=aa/\b=aa:=fT.mp h
theorem h8(h:(a&&b)=aa):a=aa:=(WT h).1
theorem Z9{l:OpenLaw}(h:l.wellSaid=aa):l.row.wellSaid=aa:=h8 <|h8 <|h8 <|h8 <|h8 <|h8 <|h8 <|h8 <|h8 <|h8 <|h8 <|h8 <|h8 <|h8 <|h8 <|h8 <|h8 <|h8 <|h
end c6
section
open PySem PySem.W
theorem PySem.Challenge.cw_sq0083_01_holds : PySem.Challenge.rw_sq0083_01.Holds :=
 ⟨c6.w2,c6.au3<|c6.Z9 c6.w2⟩
end
end
