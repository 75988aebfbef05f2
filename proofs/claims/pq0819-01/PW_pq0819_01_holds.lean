import PyProof.Rows.All
import KE.KTree
import KE.KTreeN
import Wide.FinOn
import OpenK.AllK
import Wide.RecList
import Wide.All
import PySem.Challenge.RW_pq0819_01
set_option Elab.async false
set_option backward.match.sparseCases false
set_option maxRecDepth 100000
set_option maxHeartbeats 0
set_option linter.all false
set_option genSizeOf false
set_option genInjectivity false
set_option tactic.hygienic false
namespace Mine
noncomputable section
open Option renaming some->xV,none->Nm,map_eq_some_iff->N2,isSome_iff_exists->Qm,ite_none_right_eq_some->Tv,isNone_iff_eq_none->U7,map_some->Wu,elim->Xu
open _root_ renaming List->Ni,if_neg->Nl,if_pos->Np,Option->Nt,Nat->Nu,Bool->NF,absurd->NK,congrArg->NN,decide_eq_true->NP,of_decide_eq_true->N0,decide_eq_false->N5,Int->N6,decide_eq_true_eq->N8,beq_iff_eq->Ob,beq_false_of_ne->OE,False->OH,beq_self_eq_true->OJ,DecidableEq->OY,Array->O8,not_or->Pl,Decidable->Pw,UInt8->RR,beq_eq_false_iff_ne->Sg,True->Sl,eq_comm->Sr,cond->TQ,if_false->Ub,String->Ue,or_congr->Us,or_left_comm->Vq,decide_eq_decide->Vx,if_true->VX,or_false->Wo,ite_self->Wr,true_and->Xy
open Nat renaming le_trans->Nj,lt_of_le_of_lt->Nx,le_refl->NA,sub_add_cancel->NT,le_add_right->NV,lt_of_lt_of_le->NY,lt_succ_self->Oe,zero_add->Og,succ_le_succ->Oi,lt_or_gt_of_ne->Oq,le_max_left->Ox,div_add_mod->OF,zero_le->OL,add_le_add_left->OQ,ne_of_lt->OV,not_lt_zero->O1,add_le_add->O6,le_add_left->O7,le_succ_of_le->O9,lt_succ_of_le->Pd,le_of_lt->Pf,add_right_comm->Ph,not_lt->Pt,pos_of_ne_zero->PD,add_comm->PF,pow_le_pow_right->PK,le_of_succ_le->P2,lt_irrefl->P4,sub_sub_self->P7,le_of_lt_succ->Qa,sub_le_iff_le_add->Qd,min_eq_left->Qh,le_succ->Ql,casesOn->Qn,add_assoc->Qx,zero_lt_succ->QB,succ_pos->QG,add_sub_cancel_left->QJ,lt_of_succ_lt_succ->QL,min_le_left->QO,sub_le->QR,add_le_add_right->QV,le_of_eq->Q1,lt_succ_of_lt->Q7,le_of_add_right_le->Rd,le_of_succ_le_succ->Rx,le_of_not_lt->RD,lt_of_not_le->RE,le_max_right->RF,min_le_right->RG,mod_lt->RM,not_succ_le_zero->RN,add_sub_cancel'->Se,sub_lt_sub_left->Si,ne_of_gt->Sm,le_of_add_le_add_left->Sz,le_of_ble_eq_true->SD,exists_eq_add_of_le->Tj,lt_trans->To,max_le->Tq,mul_comm->Tr,length_toDigits_le_iff->Tw,sub_le_iff_le_add'->TC,add_zero->TH,le_antisymm->TL,mul_le_mul_left->TM,strongRecOn->TP,sub_eq_zero_of_le->TX,add_sub_add_right->T5,sub_le_sub_right->T8,mul_one->Uw,sub_add_eq_max->UW,zero_mul->Vp,le_sub_of_add_le->Vr,mul_succ->Wm,max_assoc->WD,digitChar->WG,lt_or_ge->W6,pow_succ->Xg,zero_sub->Xh,sub_zero->Xi,succ_mul->XA
open Bool renaming true->Nk,false->Nr,and_eq_true_iff->NQ,and_eq_true->Od,noConfusion->Oh,or_eq_true_iff->OK,eq_false_iff->Pu,eq_iff_iff->Pz,or_eq_true->PV,not_eq_true'->Qp,false_eq_true->QN,and_false->Rk,or_true->Rt,false_or->UR,and_true->US,or_false->UU,not_eq_true->Vt,true_or->Xj
open List renaming length_cons->Nn,length_append->Nv,casesOn->Nw,mem_cons_self->Ny,mem_cons_of_mem->NB,mem_cons->NH,length_nil->NL,append_assoc->NM,length_map->NR,map_cons->N3,map_append->N7,append_nil->N9,mem_singleton->Oc,mem_append->Of,length_drop->Ol,map_map->Oo,getElem?_eq_some_iff->Ou,nodup_cons->Ow,length_singleton->OA,getElem?_map->OB,flatMap_cons->OC,eq_nil_of_length_eq_zero->OI,dropLast_concat_getLast->OM,getElem?_eq_getElem->OP,length_take->OR,cons_append->OS,nil_append->OX,length->OZ,replicate->Pc,size_toArray->Pp,range->Pr,lookup_cons->Py,filter_cons_of_pos->PE,pairwise_cons->PI,getElem?_set_ne->PM,filter_cons_of_neg->PN,take_of_length_le->P1,suffix_cons->P6,mem_append_right->Qe,suffix_refl->Qv,mem_append_left->Qw,contains_cons->QA,map_congr_left->QE,filter_eq_self->QF,length_replicate->QK,head?_drop->QP,filter_eq_nil_iff->QU,range'->QY,drop_drop->Q0,foldl_cons->Ra,cons_ne_nil->Ri,getElem?_set->Rr,nodup_nil->Ry,dropLast_eq_take->Rz,mem_iff_getElem?->RA,dropWhile_cons_of_pos->RB,takeWhile_cons_of_pos->RC,all_eq_true->RL,filter_cons->RS,isPrefixOf->Sa,mem_of_mem_take->Sb,mem_of_mem_drop->Sd,replicate_succ->Sj,nodup_append->So,length_eq_zero_iff->Sx,takeWhile_append_dropWhile->Sy,not_mem_nil->SI,getElem?_inj->SM,map_nil->SQ,flatMap_nil->SR,any_eq_true->Tb,mem_map->TA,range_succ_eq_map->TG,flatten_singleton->TJ,getElem?_toArray->TS,take_append_drop->TV,dropWhile_cons_of_neg->TY,getD_eq_getElem?_getD->TZ,any_cons->Ui,contains_eq_mem->Uj,mem_of_getElem?->Un,drop_eq_getElem_cons->Uo,dropWhile_cons->Ur,takeWhile_cons->Ut,getLast?_append->Uu,dropLast_concat->Uv,range_eq_range'->Ux,toList_toArray->UD,filterMap_cons->UM,getElem?_take->U6,filter_append->U8,all_cons->Vh,take_add_one->Vj,sum_cons->Vk,take_sublist->Vn,dropWhile_suffix->VC,takeWhile_prefix->VD,length_filter_le->VE,singleton_append->VF,flatMap_def->VH,mem_filter->VQ,sum_append->VV,forIn_cons->Wc,length_flatten->Wf,map->Wn,length_pos_iff->Wx,take->WK,drop->WL,flatten_cons->WZ,all_map->Xd,reverse_cons->Xe,flatten->Xf,cons->XN,tail->XO
open PySem renaming wpAny_bind->Nq,Value->Nz,wpAny_pure->NC,Shared->NJ,Env->NO,Str->NX,wpAny_mono->N4,Around->Oj,call->Ot,strKind->OD,wpAny->ON,Addr->OO,wpAny_holding->OW,sizeLine_eq->O0,wpAny_loadPart_at->O2,mainGlobals->O3,compareOp->Pb,Builtin->Pq,World->Px,wpAny_standAt->PH,model->PJ,wpAny_specialOf->PT,wpAny_execs_nil->PU,starEach->PW,wpAny_isSubtype_exc->PY,wpAny_of_eq->P5,wpAny_execs_cons->P8,clipAt->Qg,partValue->Qi,wpAny_newObj_type->Qo,foldedSetIterable->Qr,excClassObj->Qu,plainObj_wpAny_Assign_Attribute->QC,treeTable->QH,checkBuiltinCall->QI,OsState->QM,Stmt->QS,wpAny_truthy_bool->QT,sizeLine->QX,wpAny_assign_Name->QZ,KeyKind->Q4,builtinsNs->Q9,call_meets->Rc,cellsFrom->Rg,backTo->Rl,richCompare_meets_room->Rn,wpAny_typeOf->Ro,wpAny_seqItems->Rp,Scope->Ru,sysModules->RI,wpAny_call->RJ,NameKind->RU,nsFind->RY,wpAny_loadPart'->RZ,wpAny_ite_split->R9,methodCallForm->Sw,slot_dict_getitem->SF,wpAny_field->SK,wpAny_Assign_Name->SN,interactive->SO,intKind->SW,behindInMarks->SY,stored->S0,methodCallPos->S3,wpAny_comprehension_free->S4,Comprehension->S5,wpAny_getItem_of->S9,wpAny_lookBehind->Tf,pastItsLine_dict->Tg,FuncData->Th,opaqueClassAbove->Ti,wpAny_noteFrame_againW->Tz,importedModules->TN,pushCells_keeps->TO,codeAny_call_function->TU,GenState->Ua,wpAny_storeName_cell->Uc,bindL->Ud,wpAny_loadName_local->Ug,codeAny_call_builtin->Up,wpAny_newFunctionEnv->Uq,storeName->Uz,InCallC->UA,valueAt->UB,codeAny->UC,wpAny_setItem_pairs->UJ,wpAt_of_wpAny->UK,Walks->UP,ExceptHandler->UQ,typeLookup->U0,typeIs_str->U1,assignEach->U5,wpAny_mkText->Vb,wpAny_truthy_list->Vd,slot_list_getitem->Ve,sliceBounds_plain->Vg,wpAny_nsSet1->Vl,slot_list_setitem->Vm,DictEntry->Vu,noFill_tuple_add->Vv,wpAny_forIn_list->Vw,IsPart->Vy,wpAny_isInstance->VA,wpAny_madeBy_exc->VB,Model->VK,bm_if_false->VM,letOwnedTupleGo->VS,wpAt_bind->VU,Obj->VW,notedBy->VY,BindsTo->VZ,bindC->Wb,binaryOp->We,wpAny_rule->Wg,wpAny_notIn_of->Wh,sliceRange_one->Wi,callWith->Wk,wpAny_loadPart->Wq,callEnvC->Ws,recursionLimit->Wt,FuncBody->Wv,seq_tuple_add->Wz,wpAny_onRaise->WB,arm_eval_Call->WC,noteFrame->WM,getMethod->WO,Program->WR,name_of_addr->WU,spliced->WV,concat_meets->WW,standAt->WX,typeOf->WY,wpAny_landsW->W7,codeAny_func->W9,bootBuiltins->Xl,IntMulOk->Xr,Meets->Xs,keeperOf->Xw,compPost->Xx,truthy->XB,pyNext->XC,newList->XH,cLine->XI,Keyword->XJ,Pos->XM,Sem->XQ,Flow->XR
open Or renaming elim->ND
open Decidable renaming em->NG,of_not_not->T7
open PySem.Heap renaming get?_push_of_some->NI,get?_push_size->Oy,lt_size->Oz,get?_update_self->Pa,size_push->Pe,SameBut->Po,get?_update_other->Rq,get?_update_ne->UL,HeldW->UX
open Eq renaming symm->NU,trans->V8,mpr->XD
open Array renaming length_toList->NW,getElem?_toList->Ov,getElem?_eq_some_iff->Qc,isEmpty_iff_size_eq_zero->Qz,toArray_toList->RT,eq_empty_of_size_eq_zero->S2,toList_append->UO,find?_toList->U2,toList->Vc,map->Vz,size_append->VL
open PySem.Expr renaming casesOn->NZ
open Option.some renaming inj->N1,injEq->Rm
open PySem.W renaming typeIs_bytes->Oa,Frag->PS,findIn->P0,behindTheImports->Q2,boot_heap->RH,emptyDict->RK,looks_findIn->Sq,callWith_of->SG,instObj->SP,kia_one->Tx,typeIn->TB,topFrame->T9,plainGet_of->Uk,openSeen->Va,staticsOk->Vs,namesBound->V9,boot_drawn->Wa,lookIn->Wj,boot_toks->WJ,Looks->WN,keepIn->Xa,findCls->Xb,hideAll->Xc,gensDone->Xo,laidKept->Xp,piecesOf->Xq,topStub->XE,topFrom->XF,segRunT->XG,makesIn->XK
open UInt8 renaming toNat->Om
open Ne renaming symm->OG
open Int renaming ofNat_lt->OT,toNat_le->OU,le_trans->O5,ofNat_inj->Pg,ofNat_le->Pk,natAbs->Pn,natCast_nonneg->P9,add_zero->Qj,toNat_of_nonneg->QD,self_le_toNat->QQ,sub_le_sub_right->QW,toNat_natCast->Q6,toNat->Rf,zero_mul->Rj,fmod_eq_emod_of_nonneg->Rv,fdiv_eq_ediv_of_nonneg->Rw,eq_ofNat_of_zero_le->Sh,zero_add->Sk,ne_of_gt->Sp,not_lt->Ss,le_refl->SA,not_le->Tn,neg_one_mul->TK,add_le_add_right->T6,add_assoc->UN,lt_irrefl->UT,lt_of_le_of_lt->UZ,le_of_eq->U9,le_of_lt->Vf,natAbs_of_nonneg->VG,one_mul->VI,add_mul->VJ,min_eq_left->VN,negSucc_lt_zero->VO,fmod->Ww,mul_assoc->Wy,le_natAbs->WH,ofNat->WI,mul_comm->WQ,natCast_succ->W8,sub_zero->Xk,mul_add->Xm,mul_one->Xn,fdiv->Xz
open PySem.Stmt renaming casesOn->O4
open PySem.Obj renaming putNameByArray->Pj,putName_eq->Qb,data_mapFields->U4,mapSeq->Wl
open PySem.NameKind renaming free->Pm,cell->SU
open PySem.F renaming excBase_Exception->PA,slot_list_append->Su,slot_list_extend->Sv,plainAttrs_list->SJ,args_tuple_add_2->SX,entry_tuple_add->S7,args_tuple_eq_2->S8,slot_str_split->Tc,plainAttrs_str->Te,slot_tuple_add->Ts,entry_tuple_eq->Tt,slot_tuple_eq->TR,args_list_append_2->Ul,args_list_extend_2->Um,entry_list_append->UG,entry_list_extend->UH,args_str_split_2->U3,entry_str_split->Vi,slot_list_pop->VP,bm_sub->Xv
open PySem.Heap.SameBut renaming refl->PO,update->Sf
open PySem.Value renaming ref->PQ,type->Qy,bytes->SH,int->S6,none->Tu,isStrOf_shape->UE,isStrOf->WA
open PySem.Builtin.Range renaming rangeSize->PR
open PySem.Builtin.Str renaming strSliceIndices->PZ,occurrences->Rh,strKind->UI
open PySem.Builtin.Bytes renaming joined->Qq,joinLetGo->Td
open Nat.succ renaming inj->Q3
open Function renaming comp->Q5
open ForInStep renaming yield->Q8
open False renaming elim->Rb
open Prod.mk renaming injEq->RO
open PySem.W.Looks renaming of_pure->RP
open PySem.Calls renaming Name_function_global->RQ,spliced_cons->Sn,spliced_nil->Uh,loadGlobal_builtin->UY,callWith_function->Vo
open PySem.Challenge renaming rw_pq0819_01->RW,pw_pq0819_01->RX
open List.cons renaming injEq->R8
open Max renaming max->Tp
open Min renaming min->Uy
open List Nat Int Option Array
section
open PySem PySem.W PySem.Calls PyProof.Rows
def said1:OpenLaw.wellSaid RW=Nk:=by kernel_rfl
end
section
set_option genSizeOf false
set_option genInjectivity false
inductive T where
 |zc (n:Nu)|zv (i:Nu)|zp (a b:T)|zs (a b:T)|zm (k:Nu) (a:T)|zw (k:Nu) (a:T)|zn (a:T)|zu (a:T)|zr (k:Nu) (a b:T)
open T
noncomputable def dN(N:Ni Nu):T->Nu
 |.zc n=>n
 |.zv i=>N.getD i 0
 |.zp a b=>dN N a+dN N b
 |.zm k a=>k * dN N a
 |.zw k a=>dN N a * k
 | _=>0
noncomputable def dI(N:Ni Nu)(I:Ni N6):T->N6
 |.zc n=>n
 |.zv i=>I.getD i 0
 |.zp a b=>dI N I a+dI N I b
 |.zs a b=>dI N I a - dI N I b
 |.zm k a=>k * dI N I a
 |.zw k a=>dI N I a * k
 |.zn a=>- dI N I a
 |.zu a=>(dN N a:Nu)
 | _=>0
noncomputable abbrev Fm:=Ni (N6×N6)
noncomputable def ev:Fm->Ni Nu->Ni N6->N6
 |[],_,_=>0
 |x::r,N,I=>x.1 * (N.headD 0:Nu)+x.2 * I.headD 0+ev r N.tail I.tail
noncomputable def ad:Fm->Fm->Fm
 |[],b=>b
 |x::a,b=>match b with|[]=>x::a|y::b=>(x.1+y.1,x.2+y.2)::ad a b
noncomputable def sm(k:N6)(a:Fm):Fm:=a.map λx=>(k * x.1,k * x.2)
noncomputable def un(x:N6×N6):Nu->Fm
 | 0=>[x]
 |i+1=>(0,0)::un x i
noncomputable def lN:T->Fm
 |.zc n=>[(n,0)]
 |.zv i=>un (1,0) (i+1)
 |.zp a b=>ad (lN a) (lN b)
 |.zm k a=>sm k (lN a)
 |.zw k a=>sm k (lN a)
 | _=>[]
noncomputable def lI:T->Fm
 |.zc n=>[(n,0)]
 |.zv i=>un (0,1) (i+1)
 |.zp a b=>ad (lI a) (lI b)
 |.zs a b=>ad (lI a) (sm (-1) (lI b))
 |.zm k a=>sm k (lI a)
 |.zw k a=>sm k (lI a)
 |.zn a=>sm (-1) (lI a)
 |.zu a=>lN a
 | _=>[]
def aac(a b c d:N6):a+b+(c+d)=a+c+(b+d):=by rw[UN,N6.add_left_comm b,<- UN]
def u10(a b:N6):1 * a+0 * b=a:=by rw[Rj,Qj,VI]
def u01(a b:N6):0 * a+1 * b=b:=by rw[Rj,Sk,VI]
def pF:∀(a b:Fm)(N:Ni Nu)(I:Ni N6),ev (ad a b) N I=ev a N I+ev b N I:=by
 intro a;induction a with
 |nil=>intro b N I;exact(Sk _).symm
 |cons x a c=>
  intro b N I;induction b using Nw with
  |nil=>exact(Qj _).symm
  |cons y b=>show(x.1+y.1) * _+(x.2+y.2) * _+ev (ad a b) _ _=(x.1 * _+x.2 * _+ev a _ _)+(y.1 * _+y.2 * _+ev b _ _);rw[c,VJ,VJ,aac (x.1 * _),aac]
def mv(k):∀(a:Fm)(N:Ni Nu)(I:Ni N6),ev (sm k a) N I=k * ev a N I:=by
 intro a;induction a with
 |nil=>intro N I;exact(N6.mul_zero _).symm
 |cons x a b=>intro N I;show(k * x.1) * _+(k * x.2) * _+ev (sm k a) _ _=k * (x.1 * _+x.2 * _+ev a _ _);rw[b,Xm,Xm,Wy,Wy]
def JY(x):∀i N I,ev (un x i) N I=x.1 * (N.getD i 0:Nu)+x.2 * I.getD i 0:=by
 intro i;induction i with
 |zero=>intro N I;exact(Qj _).trans (congr (NN HAdd.hAdd (by induction N<;>rfl)) (by induction I<;>rfl))
 |succ i a=>intro N I;show 0 * _+0 * _+ev (un x i) N.tail I.tail=_;rw[a,Rj,Rj,Sk,Sk];exact congr (NN HAdd.hAdd (by induction N<;>rfl)) (by induction I<;>rfl)
def kA(N)(I)(t:T):ev (lN t) (1::N) (0::I)=(dN N t:Nu):=by
 induction t with
 |zc n=>exact(Qj _).trans ((Qj _).trans (Xn _))
 |zv i=>exact(JY ..).trans (u10 _ _)
 |zp a b e c=>exact(pF ..).trans (by rw[e,c];rfl)
 |zm k a d=>exact(mv ..).trans (by rw[d];rfl)
 |zw k a d=>exact(mv ..).trans (by rw[d,WQ];rfl)
 | _=>rfl
def mD(N)(I)(t:T):ev (lI t) (1::N) (0::I)=dI N I t:=by
 induction t with
 |zc n=>exact(Qj _).trans ((Qj _).trans (Xn _))
 |zv i=>exact(JY ..).trans (u01 _ _)
 |zp a b d c=>exact(pF ..).trans (by rw[d,c];rfl)
 |zs a b d c=>exact(pF ..).trans (by rw[mv,d,c,TK];rfl)
 |zm k a e=>exact(mv ..).trans (by rw[e];rfl)
 |zw k a e=>exact(mv ..).trans (by rw[e,WQ];rfl)
 |zn a e=>exact(mv ..).trans (by rw[e,TK];rfl)
 |zu a=>exact kA N I a
 |zr=>rfl
def den(N:Ni Nu)(I:Ni N6):T->Prop
 |.zr k a b=>match k with
  | 0=>dN N a<=dN N b
  | 1=>¬ dN N a<=dN N b
  | 2=>dN N a=dN N b
  | 3=>dN N a=dN N b
  | 4=>dI N I a<=dI N I b
  | 5=>¬ dI N I a<=dI N I b
  | 6=>dI N I a=dI N I b
  | _=>dI N I a=dI N I b
 | _=>Sl
def le(a b:Fm):Fm:=ad b (sm (-1) a)
def fm:T->Fm
 |.zr k a b=>match k with
  | 0=>le (lN a) (lN b)
  | 1=>le (ad (lN b) [(1,0)]) (lN a)
  | 2=>le (lN a) (lN b)
  | 3=>le (lN b) (lN a)
  | 4=>le (lI a) (lI b)
  | 5=>le (ad (lI b) [(1,0)]) (lI a)
  | 6=>le (lI a) (lI b)
  | _=>le (lI b) (lI a)
 | _=>[]
def mG(d:ev a N I=x)(c:ev b N I=y)(h:x<=y):0<=ev (le a b) N I:=by exact(pF ..).symm▸mv ..▸d▸c▸(TK x).symm▸N6.sub_nonneg_of_le h
def abg:∀t:T,den N I t->0<=ev (fm t) (1::N) (0::I):=by
 intro t h;induction t with
 |zr k a b=>
  have o:∀f,ev (ad f [(1,0)]) (1::N) (0::I)=ev f (1::N) (0::I)+1:=λf=>pF _ _ _ _
  match k,h with
  | 0,h=>exact mG (kA ..) (kA ..) (Pk.mpr h)
  | 1,h=>exact mG ((o _).trans (NN (·+1) (kA ..))) (kA ..) (Pk.mpr (gt_of_not_le h))
  | 2,h=>exact mG (kA ..) (kA ..) (Pk.mpr (Q1 h))
  | 3,h=>exact mG (kA ..) (kA ..) (Pk.mpr (Q1 (NU h)))
  | 4,h=>exact mG (mD ..) (mD ..) h
  | 5,h=>exact mG ((o _).trans (NN (·+1) (mD ..))) (mD ..) (Tn.mp h)
  | 6,h=>exact mG (mD ..) (mD ..) (U9 h)
  |k+7,h=>exact mG (mD ..) (mD ..) (U9 (NU h))
 | _=>exact SA _
noncomputable def ng:Fm->NF
 |[]=>Nk
 |x::r=>N6.ble' x.1 0&&N6.beq' x.2 0&&ng r
def ab8:∀(f:Fm)(N:Ni Nu)(I:Ni N6),ng f=Nk->ev f N I<=0:=by
 intro f;induction f with
 |nil=>intro _ _ _;exact SA _
 |cons x r g=>
  intro N I h;have e:=NQ.mp h;have d:=NQ.mp e.1;have a:=N6.mul_nonpos_of_nonpos_of_nonneg (N6.ble'_eq_true ..▸d.1) (P9 (N.headD 0));have b:x.2 * I.headD 0=0:=by rw[show x.2=0 from N6.beq'_eq ..▸d.2,Rj]
  have c:=g N.tail I.tail e.2;show x.1 * _+x.2 * _+ev r _ _<=0;rw[b,Qj];exact N6.add_nonpos a c
noncomputable def cb:Ni T->Ni Nu->Fm
 |t::ts,k::ks=>ad (sm k (fm t)) (cb ts ks)
 | _,_=>[]
noncomputable def imp(N:Ni Nu)(I:Ni N6)(G:Prop):Ni T->Prop
 |[]=>G
 |t::ts=>den N I t->imp N I G ts
def ck(ts:Ni T)(ks:Ni Nu):NF:=ng (ad (cb ts ks) [(1,0)])
def Lc:∀ts ks,(0<=ev (cb ts ks) (1::N) (0::I)->G)->imp N I G ts:=by
 intro ts;induction ts with
 |nil=>intro ks h;exact h (by clear h;induction ks<;>exact SA _)
 |cons t ts a=>
  intro ks h d;induction ks using Nw with
  |nil=>exact a [] λ_=>h (SA _)
  |cons k ks=>exact a ks λq=>h (by show 0<=ev (ad _ _) _ _;rw[pF,mv];exact N6.add_nonneg (N6.mul_nonneg (P9 k) (abg t d)) q)
def zF(N)(I)(ts)(ks)(o:ck ts ks=Nk):imp N I OH ts:=
 Lc ts ks λh=>by have:=ab8 _ (1::N) (0::I) o;rw[pF] at this;exact NK (O5 (T6 h 1) this) (by decide)
def nV(f:G->G'):∀ts,imp N I G ts->imp N I G' ts:=by
 intro ts;induction ts with
 |nil=>exact f
 |cons t ts a=>exact λh d=>a (h d)
def Aq:∀ts,imp N I G ts->imp N I G' ts->imp N I (G/\G') ts:=by
 intro ts;induction ts with
 |nil=>exact And.intro
 |cons t ts a=>exact λh b d=>a (h d) (b d)
def uc:∀ts,(P->imp N I OH ts)->imp N I (¬ P) ts:=by
 intro ts;induction ts with
 |nil=>exact id
 |cons t ts a=>exact λh d=>a λq=>h q d
def zL(N)(I)(ts)(a b:T)(ks)(o:ck (.zr 1 a b::ts) ks=Nk):imp N I (dN N a<=dN N b) ts:=
 nV T7 ts (uc ts (zF N I (.zr 1 a b::ts) ks o))
def zI(N)(I)(ts)(a b:T)(ks)(o:ck (.zr 5 a b::ts) ks=Nk):imp N I (dI N I a<=dI N I b) ts:=
 nV T7 ts (uc ts (zF N I (.zr 5 a b::ts) ks o))
def zE(N)(I)(ts)(a b:T)(ks c)(o:ck (.zr 1 a b::ts) ks=Nk)(d:ck (.zr 1 b a::ts) c=Nk):imp N I (dN N a=dN N b) ts:=
 nV (λh=>TL h.1 h.2) ts (Aq ts (zL N I ts a b ks o) (zL N I ts b a c d))
def zJ(N)(I)(ts)(a b:T)(ks c)(o:ck (.zr 5 a b::ts) ks=Nk)(d:ck (.zr 5 b a::ts) c=Nk):imp N I (dI N I a=dI N I b) ts:=
 nV (λh=>N6.le_antisymm h.1 h.2) ts (Aq ts (zI N I ts a b ks o) (zI N I ts b a c d))
def zN(N)(I)(ts)(t:T)(ks)(o:ck (t::ts) ks=Nk):imp N I (¬ den N I t) ts:=
 uc ts (zF N I (t::ts) ks o)
noncomputable def wn(ts:Ni T):Ni Nu:=Pc (ts.length+1) 1
def jj(N)(ts)(a b:T)(o:ck (.zr 1 a b::ts) (wn ts)=Nk):imp N [] (dN N a<=dN N b) ts:=zL N [] ts a b _ o
def cZ{p}(ts)(a b:T)(o:ck (.zr 1 a b::ts) (wn ts)=Nk):imp [p] [] (dN [p] a<=dN [p] b) ts:=zL _ [] ts a b _ o
def cj{p q}(ts)(a b:T)(o:ck (.zr 1 a b::ts) (wn ts)=Nk):imp [p,q] [] (dN [p,q] a<=dN [p,q] b) ts:=zL _ [] ts a b _ o
def cR{p q r}(ts)(a b:T)(o:ck (.zr 1 a b::ts) (wn ts)=Nk):imp [p,q,r] [] (dN [p,q,r] a<=dN [p,q,r] b) ts:=zL _ [] ts a b _ o
def gb{p q r s}(ts)(a b:T)(o:ck (.zr 1 a b::ts) (wn ts)=Nk):imp [p,q,r,s] [] (dN [p,q,r,s] a<=dN [p,q,r,s] b) ts:=zL _ [] ts a b _ o
def f9{p}(ts)(a b:T)(o:ck (.zr 5 a b::ts) (wn ts)=Nk):imp [] [p] (dI [] [p] a<=dI [] [p] b) ts:=zI [] _ ts a b _ o
def ll{p}(ts)(t:T)(o:ck (t::ts) (wn ts)=Nk):imp [p] [] (¬ den [p] [] t) ts:=zN _ [] ts t _ o
def nG{p q}(ts)(t:T)(o:ck (t::ts) (wn ts)=Nk):imp [p,q] [] (¬ den [p,q] [] t) ts:=zN _ [] ts t _ o
noncomputable abbrev V0:=zv 0
noncomputable abbrev V1:=zv 1
noncomputable abbrev V2:=zv 2
noncomputable abbrev V3:=zv 3
noncomputable abbrev V4:=zv 4
noncomputable abbrev V5:=zv 5
noncomputable abbrev V6:=zv 6
noncomputable abbrev V7:=zv 7
noncomputable abbrev R0:=zr 0
noncomputable abbrev R1:=zr 1
noncomputable abbrev R2:=zr 2
noncomputable abbrev R3:=zr 3
noncomputable abbrev R4:=zr 4
noncomputable abbrev R5:=zr 5
noncomputable abbrev R6:=zr 6
noncomputable abbrev R7:=zr 7
noncomputable abbrev K1:=zc 1
noncomputable abbrev K0:=zc 0
abbrev S1(a:T):=zp a K1
end
section
def mV(a b:Nu):a<=a - b+b:=Qd.mp (NA _)
theorem zpl:∀n:Nu,n<=n - 1+1
 | 0=>OL _
 | _+1=>NA _
def zdA(a c:Nu):a - c+(c - a)<=(a+1 - c)+(c - (a+1)+1):=O6 (T8 (Ql a) c) (zpl (c - a))
def zdB(a c:Nu):(a+1 - c)+(c - (a+1))<=a - c+(c - a)+1:=by rw[Ph];exact O6 (Qd.mpr (by rw[Ph];exact Oi (mV a c))) (Nu.sub_le_sub_left (Ql a) c)
def zr1(a x:Nu):1+a+(x+1)=2+a+x:=by omega
def zr2{b c d e f x:Nu}(h:b+c+1+d<=e+f+x):1+b+c+1+d<=e+1+f+x:=by omega
def zq1{x a:Nu}(h:a<=x):min (x - a) x+(x - (x - a)+1)=x+1:=by rw[Qh (QR _ _),P7 h,<- Qx,NT h]
def acR{a:N6}{k:Nu}(b:-(k:N6)<=a)(c:a<=k):a.natAbs<=k:=by omega
def M4{a:N6}{k:Nu}(h:a.natAbs<k):-(k:N6)<=a/\a<=k:=by omega
def znn(a:N6):-a<=(Pn a:N6):=by have h:=@WH (-a);rwa [natAbs_neg] at h
def iP{a:N6}{k:Nu}(h:-a<=(k:N6)/\a<=(k:N6)):Pn a<=k:=by omega
def L1{a b:Nu}(h:a<=b):a<b+1:=Pd h
def L2{a:Nu}:a<=a+1+1:=by simp +arith at *
def L3{a:Nu}(h:a % 2=0):(a+1+1) % 2=0:=by lia
def L4{a b c:Nu}(h:a<b)(d:b<c):a<c:=To h d
def L9{a:Nu}(h:a % 2=0):(a+1) % 2=1:=by lia
def L10{a:Nu}(h:a % 2=1):(a+1) % 2=0:=by lia
def L17{a:Nu}:0+a<1+a:=by simp +arith at *
def L26{a:Nu}{b:Prop}(h:¬(a<33\/126<a\/a=35\/b)):33<=a/\a<=126:=⟨RD λq=>h (.inl q),RD λq=>h (.inr (.inl q))⟩
def L42{a:Nu}{b:Prop}(h:a % 2=0)(c:(a+(0+1)) % 2=0):b:=by lia
def L43{a:Nu}{b:Prop}(h:a<0):b:=NK h (O1 _)
def L44{a b c:Nu}(h:a+1<b+1)(d:c<=a):c<b:=Nx d (QL h)
def L45{a b:Nu}(h:a+1<b+1):a<b:=Qa h
def L46{a:Nu}:1+a<=a+1:=by simp +arith at *
def L47{a b c:Nu}:1+(a+1)+b<=1+c+(1+a+b)+1:=by simp +arith at *
def L48{a b:Nu}:1+(a+1)+b<=1+a+b+1:=by simp +arith at *
def L50{a b:Nu}:a+1+b=a+(b+1):=Ph _ _ _
def L58{a b c:Nu}(h:a<=b)(d:b<=c):a<=c:=Nj h d
def L63{a b c:Nu}:0+a+(b+c)=a+b+c:=by simp +arith at *
def L82{a b c:Nu}(h:a+b+1<=40)(d:c<=a):Tp (c+1) 0<=40 - b:=Tq.mpr ⟨Vr (Nj (QV (Oi d) b) (Ph a b 1▸h)),OL _⟩
def L85{a b c:Nu}(h:a+b+1<=40)(d:c<=40 - (b+1)):Tp a c+b+1<=40:=show max a c+(b+1)<=40 from add_le_of_le_sub (Nj (O7 (b+1) a) h) (Tq.mpr ⟨Vr (show a+(b+1)<=40 from h),d⟩)
def L89{a b c:Nu}(h:a<b)(d:48<=c/\c<=57):10 * a+(c - 48)<b * 10:=NY (Nu.add_lt_add_left (Pd (T8 d.2 48)) _) (by rw[Tr b];exact TM 10 h)
def L90{a b:Nu}(h:a<=b):a+1<=b+1:=Pd h
def L91{a b c:Nu}:a+1+b+c=a+b+(c+1):=by simp +arith at *
def L92{a:Prop}(h:0<=-1):a:=by simp +arith at *
def L93{a:Nu}:a+1=1+a:=PF _ _
def L94{a:Nu}:a=0+a:=by simp +arith at *
def L99{a b:N6}(h:a % 10=0)(d:b<0->a / 10<0)(c:b<0):a<0:=by lia
def adj(h:¬WI 0 % 10=0):OH:=by simp +arith at *
def aae{a:Nu}(h:¬a=0):0<a:=PD h
def adk{a c:Nu}{b:N6}(h:a≠0->b≠0)(f:¬a=0)(d:c<=Pn b\/b=0)(e:Pn b<c):OH:=by lia
def adl{a b c d:Nu}(h:a<=b)(e:c<=b)(g:¬a=0)(f:¬c<=a):d+(Uy (a+1 - c+c - a) (a+1 - c+c)+(a+1 - c+c - (a+1 - c+c - a)+1))<=d+b+1:=by rw[zq1 (P2 (mV (a+1) c)),UW];exact OQ (Oi (Tq.mpr ⟨Nj (RE f) e,e⟩)) d
def adm{a b c d:Nu}(h:a<=b)(f:c<=b)(e:¬a=0):d+(0+(a+1 - c+c - (a+1 - c+c - a)+1))<=d+b+1:=by rw[P7 (P2 (mV (a+1) c)),Og];exact OQ (Oi h) d
def adn{a b:Nu}:0+(a+b)<=2 * 0+a+b:=by simp +arith at *
def ado{a b c:Nu}:1+a+(b+1 - c+(c - (b+1)))<=2+a+(b - c+(c - b)):=Nj (OQ (zdB b c) (1+a)) (Q1 (zr1 a _))
def adp{a b c:Nu}(h:¬a=0):1+b+(a - 1 - c+(c - (a - 1)))<=2+b+(a - c+(c - a)):=match a,h with|a+1,_=>Nj (OQ (zdA a c) (1+b)) (Q1 (zr1 b _))
def aaf{a b c:Nu}(h:a<0):b=c:=NK h (O1 _)
def adq{a:Nu}:16 * a≠40/\16 * a≠41:=by lia
def ads{a:Nu}:¬(16 * a=13\/16 * a=92):=by lia
def aag{a b:Nu}(h:Tp (a+1) 0<b+1):a<b:=Qa h
def aah{a b:Nu}:a+b+1=a+1+b:=Ph _ _ _
def adt{a:Nu}:¬(41=41/\1+(a+1)=1):=by simp +arith at *
def adu{a:Nu}(h:0<a/\a<256):Rf (16 * (↑(a / 16):N6)+(↑(a % 16):N6))=a:=by grind
def Kz{a:Nu}{b:N6}:0 * a+Pn b=Pn b:=by simp +arith at *
def adv{a b c:Nu}(h:¬a=0)(d:b=Tp (a+1) c):b - (b - a)=a:=by subst d;exact P7 (P2 (Ox _ _))
def adw{a b c:Nu}(h:a<40)(e:b<=40)(f:¬a=0)(d:c=Tp (a+1) b):Uy (c - a) c+a<=40:=by subst d;rw[Qh (QR _ _),NT (P2 (Ox _ _))];exact Tq.mpr ⟨h,e⟩
def aai{a b:Nu}(h:a+1<=b):a<=b:=Pf h
def adx{a:N6}(h:a<0):-(↑(Pn a):N6)=a:=by grind
def ady{a b c d:Nu}:a+b+(c+d)=b+c+(d+a):=by simp +arith at *
def adz{a b c d:Nu}:a+(b+c)<=a+b+(c+d):=by simp +arith at *
def aaj{a:Nu}:0<a+1:=QG _
def aak{a b:Nu}:a+b - a=b:=by simp +arith at *
def aal{a b:Nu}:a<=a+b:=NV _ _
def afN{a:Nu}(h:a<29):a<30:=O9 h
def adA{a b:Nu}:a=b+a - b:=by simp +arith at *
def adB{a b c:N6}{d:Nu}(h:0<a)(e:Rf (b - c)<=d+1):Rf (b - (c+a))<=d:=OU.mpr (by have:=OU.mp e;omega)
def adC{a b c:N6}:a - (b+c) - 1+1 * c=a - b - 1:=by simp +arith at *
def adD{a:N6}:a<=a+1:=by simp +arith at *
def adE{a b c:N6}(h:a<b)(d:c<=b - a - 1):c+1<=Tp 0 (b - a):=by lia
def adG{a b c d:Nu}(h:a+(b - (b - (c - a)))=c)(e:d=a):c<=d+b:=by rw[e,<- h];exact OQ (QR _ _) a
def adH{a:Nu}:a+1<=a+8:=by simp +arith at *
def C7{a:Nu}(h:a<=16000000):a<=16777216:=Nj h (by decide)
def GP{a:Nu}(h:a<=16000000):a<=1073741824:=Nj h (by decide)
def GQ{a:Nu}(h:a<=1000):a<=16000000:=Nj h (by decide)
def adI{a:Nu}:a≠a+2:=by simp +arith at *
def adJ{a:Nu}:a+1≠a+2:=by simp +arith at *
def GR{a:Nu}:a<=a+1:=NV _ _
def GS{a:Nu}:a<=a+2:=NV _ _
def adK{a:N6}(h:1<=a):¬(↑1:N6)>a:=Ss.mpr h
def adM{a:N6}(h:Pn a<1000):¬1 * Rf a>16777216:=by grind
def adN{a:N6}(h:Pn a<1000):Rf a * 1<=1073741824:=by grind
def aam{a b:Nu}(h:a=0)(c:b=0):b=a:=V8 c h.symm
def aan{a:N6}(h:¬0<=a):a<0:=Tn.mp h
def aao{a:N6}(h:0<=a):¬a<0:=Ss.mpr h
def adO{a b c:Nu}(h:a=b - c)(e:b<=a)(d:c=0):b=a:=by subst d;exact h.symm
def aap{a b:Nu}:(↑a:N6)=(↑b:N6)↔b=a:=by lia
def afP{a b:Nu}(h:a<=1000)(c:b<=a):Pn (↑b:N6)<2 ^ 60:=Nx c (Nx h (by decide))
def C8{a:Nu}:0<=(↑a:N6):=ofNat_zero_le _
def aaq{a b c:Nu}(h:a+b<=1000)(d:c<=a):c<=1000:=Nj d (Nj (Nj (NV _ _) h) (by decide))
def aar{a b c:Nu}(h:a<b+1)(d:c<a):c<b:=NY d (Qa h)
def adP{a:Nu}(h:a≠40):¬(↑a:N6)=40:=λe=>h (Pg.mp e)
def adQ{a b:Nu}:a<=1+a+b:=by simp +arith at *
def aas{a b:Nu}:a+1<=Tp (a+1) b:=Ox _ _
def aat{a b:Nu}:a<=Tp (b+1) a:=RF _ _
def aau{a b c:Nu}(h:a<=b)(d:c<=a):c<=b:=Nj d h
def adR{a b c d:Nu}(h:0<a)(i:a<=18)(e:a+1<=b/\b<=a+1+c)(g:c<=20)(f:d<=1):d+Uy (b - a) b+(b - (b - a)+1)<=1000:=by rw[Qx,zq1 (P2 e.1)];exact Nj (O6 f (Oi (Nj e.2 (O6 (Oi i) g)))) (by decide)
def adS: 48<=48/\48<=57:=by simp +arith at *
def adT{a b:Nu}(h:a<=18)(c:b<=20):a+1 - b+b<=20:=by omega
def adU{a b c d:Nu}(h:a+1<=b/\b<=a+1+c)(f:d<=1)(g:0<a)(e:b<=20):d+(Uy (b - a) b+(b - (b - a)+1))<=22:=by rw[zq1 (P2 h.1)];exact Nj (O6 f (Oi e)) (by decide)
def adV{a b c d:Nu}(h:a<=18)(f:a+1<=b/\b<=a+1+c)(e:d<=1)(g:0<a):d+(0+(b - (b - a)+1))<=22:=by rw[P7 (P2 f.1),Og];exact Nj (O6 e (Oi h)) (by decide)
def adW{a b:Nu}:Rf ((↑a:N6)+1 - (↑b:N6))=a+1 - b:=toNat_sub (a+1) b
def adX{a b c:Nu}(h:a<=18)(f:b<=20)(e:a+1<=c/\c<=a+1+b):Uy (c - a) c+(0+1)+(c - (c - a))<=16000000:=have d:c<=39:=Nj e.2 (O6 (Oi h) f);Nj (O6 (QV (Nj (RG _ _) d) _) (Nj (QR _ _) d)) (by decide)
def adY{a b c:Nu}(h:a<=20)(d:b+1<=c/\c<=b+1+a):Uy (c - b) c+(0+1)<=16000000:=Nj (Oi (Nj (QO _ _) (Qd.mpr (Nj d.2 (Q1 (by rw[PF b,Ph,PF 1,Ph])))))) (Nj (Oi (Oi h)) (by decide))
def adZ{a b c d:Nu}(h:0<a)(i:a<=18)(g:b<=20)(e:a+1<=c/\c<=a+1+b)(f:d<=1):d+(Uy (c - a) c+(c - (c - a)+1))<=16000000:=by rw[zq1 (P2 e.1)];exact Nj (O6 f (Oi (Nj e.2 (O6 (Oi i) g)))) (by decide)
def aav{a:Nu}(h:a<=1000):Pn (↑a:N6)<2 ^ 60:=Nx h (by decide)
def ad0{a b:Nu}:a+2 * (b+1)+6=a+1+2 * b+6+1:=by simp +arith at *
def aaw{a b:Nu}(h:a+(b+(0+1)+1)<=1000):a<16000000:=Nx (Nj (NV _ _) h) (by decide)
def ad1{a:Nu}:Rf (-1+(↑(a+(0+1)):N6))=a:=by simp +arith at *
def aax{a:Nu}:(↑(a+1):N6) - 1=(↑a:N6):=by simp +arith at *
def ad2{a b:Nu}(h:a<=b):Rf ((↑b:N6) - (↑a:N6))=b - a:=toNat_sub b a
def aay{a b c:Nu}{d e:Prop}(h:a - b=c+1)(f:d\/e):a - (b+1)=c:=NN Nu.pred h
def aaz{a b:Nu}:a+b=b+a:=PF _ _
def KA{a:Nu}(h:a<=900):a<=1000:=Nj h (by decide)
def ad3{a:Nu}:a+1<=a+6:=by simp +arith at *
def Bg{a:Nu}:a+1<=a+9:=by simp +arith at *
def aaA{a:Nu}:a+1+1<=a+6:=by simp +arith at *
def ad4{a:N6}(h:0<=a)(b:a<2001):Pn (a - 1000)<=1000:=acR (k:=1000) (QW h 1000) (show a - 1000<=2000 - 1000 from QW (le_of_lt_add_one b) 1000)
def aaB{a:Nu}:a+1+1<=a+9:=by simp +arith at *
def ad5{a b:N6}(h:0<=a)(d:a<4001)(c:Pn b<=Pn (a - 2000)):Pn b<=2000:=Nj c (acR (k:=2000) (QW h 2000) (show a - 2000<=4000 - 2000 from QW (le_of_lt_add_one d) 2000))
def aaC{a:Nu}:a+1+1+1<=a+6:=by simp +arith at *
def ad6: ∀(i:N6),0<=i->i<7->i=0\/i=1\/i=2\/i=3\/i=4\/i=5\/i=6:=by lia
def aaD{a b:Nu}(h:a<=18 * b):a<=18 * (b+1):=Nj h (NV _ _)
def aaE{a:Nu}(h:a<=3):a<=60:=Nj h (by decide)
def ad7: ∀(i:N6),0<=i->i<5->i=0\/i=1\/i=2\/i=3\/i=4:=by lia
def ad8{a:N6}(h:0<=a)(b:a<4):a=0\/a=1\/a=2\/a=3:=by lia
def afU{a:Nu}(h:a<=3):a<=16000000:=Nj h (by decide)
def KC{a:Nu}(h:a<=110):a<=1000:=Nj h (by decide)
def aaF{a b:Nu}(h:a<=b)(c:b<=110):a<=900:=Nj h (Nj c (by decide))
def ad9{a:Nu}(h:-1=(↑a:N6)):OH:=by simp +arith at *
def aaG{a b:Nu}(h:a+b<=1000):a<16000000:=Nx (Nj (NV _ _) h) (by decide)
def aea{a:Nu}:(↑(a+1):N6)+1 - 1=(↑a:N6)+1:=by simp +arith at *
def aeb{a b c:Nu}:a+(b+c)=a+c+b:=by simp +arith at *
def aec{a:Nu}:a<=2 * a:=by simp +arith at *
def aed{a:Nu}{b:Prop}(h:1=2 * (a+1)):b:=by simp +arith at *
def aee{a:Nu}(h:(↑a:N6)+1+1<(↑(a+1+0):N6)):OH:=by simp +arith at *
def aef{a:Nu}(h:(↑a:N6)+1+1<(↑(a+1+(0+1)):N6)):OH:=by simp +arith at *
end
section
@[elab_as_elim] def bB{motive:α->Prop}(h:a=b)(q:motive b):motive a:=by induction h;exact q
variable {G:Prop}
def A2(h:p0/\p1)(k:p0->p1->G):G:=k h.1 h.2
def A3(h:p0/\p1/\p2)(k:p0->p1->p2->G):G:=k h.1 h.2.1 h.2.2
def A4(h:p0/\p1/\p2/\p3)(k:p0->p1->p2->p3->G):G:=k h.1 h.2.1 h.2.2.1 h.2.2.2
def A5(h:p0/\p1/\p2/\p3/\p4)(k:p0->p1->p2->p3->p4->G):G:=k h.1 h.2.1 h.2.2.1 h.2.2.2.1 h.2.2.2.2
def A6(h:p0/\p1/\p2/\p3/\p4/\p5)(k:p0->p1->p2->p3->p4->p5->G):G:=k h.1 h.2.1 h.2.2.1 h.2.2.2.1 h.2.2.2.2.1 h.2.2.2.2.2
def X1{b:α0->Prop}(h:∃a,b a)(k:∀a,b a->G):G:=h.elim λa h=>k a h
def ah{b c:α0->Prop}(h:∃a,b a/\c a)(k:∀a,b a->c a->G):G:=h.elim λa h=>k a h.1 h.2
def a9{c d b:α0->Prop}(h:∃a,c a/\d a/\b a)(k:∀a,c a->d a->b a->G):G:=h.elim λa h=>k a h.1 h.2.1 h.2.2
def iu{d e c b:α0->Prop}(h:∃a,d a/\e a/\c a/\b a)(k:∀a,d a->e a->c a->b a->G):G:=h.elim λa h=>k a h.1 h.2.1 h.2.2.1 h.2.2.2
def af5{e f d b c:α0->Prop}(h:∃a,e a/\f a/\d a/\b a/\c a)(k:∀a,e a->f a->d a->b a->c a->G):G:=h.elim λa h=>k a h.1 h.2.1 h.2.2.1 h.2.2.2.1 h.2.2.2.2
def af6{e f d b c g:α0->Prop}(h:∃a,e a/\f a/\d a/\b a/\c a/\g a)(k:∀a,e a->f a->d a->b a->c a->g a->G):G:=h.elim λa h=>k a h.1 h.2.1 h.2.2.1 h.2.2.2.1 h.2.2.2.2.1 h.2.2.2.2.2
def X2{c:α0->α1->Prop}(h:∃b a,c b a)(k:∀b a,c b a->G):G:=h.elim λb h=>h.elim λa h=>k b a h
def bo{c d:α0->α1->Prop}(h:∃b a,c b a/\d b a)(k:∀b a,c b a->d b a->G):G:=h.elim λb h=>h.elim λa h=>k b a h.1 h.2
def aO{d e c:α0->α1->Prop}(h:∃b a,d b a/\e b a/\c b a)(k:∀b a,d b a->e b a->c b a->G):G:=h.elim λb h=>h.elim λa h=>k b a h.1 h.2.1 h.2.2
def e9{e f d c:α0->α1->Prop}(h:∃b a,e b a/\f b a/\d b a/\c b a)(k:∀b a,e b a->f b a->d b a->c b a->G):G:=h.elim λb h=>h.elim λa h=>k b a h.1 h.2.1 h.2.2.1 h.2.2.2
def af7{f g e c d:α0->α1->Prop}(h:∃b a,f b a/\g b a/\e b a/\c b a/\d b a)(k:∀b a,f b a->g b a->e b a->c b a->d b a->G):G:=h.elim λb h=>h.elim λa h=>k b a h.1 h.2.1 h.2.2.1 h.2.2.2.1 h.2.2.2.2
def X3{d:α0->α1->α2->Prop}(h:∃c a b,d c a b)(k:∀c a b,d c a b->G):G:=h.elim λc h=>h.elim λa h=>h.elim λb h=>k c a b h
def gC{d e:α0->α1->α2->Prop}(h:∃c a b,d c a b/\e c a b)(k:∀c a b,d c a b->e c a b->G):G:=h.elim λc h=>h.elim λa h=>h.elim λb h=>k c a b h.1 h.2
def jc{e f d:α0->α1->α2->Prop}(h:∃c a b,e c a b/\f c a b/\d c a b)(k:∀c a b,e c a b->f c a b->d c a b->G):G:=h.elim λc h=>h.elim λa h=>h.elim λb h=>k c a b h.1 h.2.1 h.2.2
def bO{d:Sort _}{e:Sort _}{f:Sort _}{j l i g:d->e->f->Prop}(h:∃c a b,j c a b/\l c a b/\i c a b/\g c a b)(k:∀c a b,j c a b->l c a b->i c a b->g c a b->G):G:=h.elim λc h=>h.elim λa h=>h.elim λb h=>k c a b h.1 h.2.1 h.2.2.1 h.2.2.2
def X4{f:Sort _}{g:Sort _}{i:Sort _}{e:Sort _}{j:f->g->i->e->Prop}(h:∃d a c b,j d a c b)(k:∀d a c b,j d a c b->G):G:=h.elim λd h=>h.elim λa h=>h.elim λc h=>h.elim λb h=>k d a c b h
def af8{f:Sort _}{g:Sort _}{i:Sort _}{e:Sort _}{j l:f->g->i->e->Prop}(h:∃d a c b,j d a c b/\l d a c b)(k:∀d a c b,j d a c b->l d a c b->G):G:=h.elim λd h=>h.elim λa h=>h.elim λc h=>h.elim λb h=>k d a c b h.1 h.2
def af9{f:Sort _}{g:Sort _}{i:Sort _}{e:Sort _}{l m j:f->g->i->e->Prop}(h:∃d a c b,l d a c b/\m d a c b/\j d a c b)(k:∀d a c b,l d a c b->m d a c b->j d a c b->G):G:=h.elim λd h=>h.elim λa h=>h.elim λc h=>h.elim λb h=>k d a c b h.1 h.2.1 h.2.2
end
section
local macro_rules
  | `(tactic| rw [$h:term]) => `(tactic| first | refine bB $h ?_ | rewrite [$h:term])

section
open PySem PySem.W PySem.Calls PyProof.Rows
def LeftO.Fg{H₀:Params->Heap}{m₀}{ann}{M}(a:∀w,(fencedOpening QH p w N).map (λs=>(s.heap,s.gens,s.drawn,s.toks))=xV (H₀ w.params,gs₀,d₀,k₀))(size:∀w:Px,((H₀ w.params).isNs O3&&gs₀.size==0,(H₀ w.params).objs.size,(H₀ w.params).nsMap O3 "__annotations__")=(Nk,m₀,ann))(run:∀(w:Px)(os:QM),∃s₁:NJ,topRun QH p w m₀ ann M ⟨H₀ w.params,gs₀,d₀,k₀,os⟩ (XE p)=xV s₁ /\
   (Vs (TN p.main.body) (H₀ w.params) s₁.heap&&V9 p s₁.heap&&Xo s₁&&Xp (H₀ w.params) s₁.heap)=Nk/\Va q loose (TN p.main.body) Xt g0 s₁=openGood q loose/\Yf s₁=Ya w)(le:Nu.ble M N=Nk):LeftO p q loose Xt Yf Ya N g0:=λw=>by
 obtain⟨⟨h,gs,d,k,os⟩,e,i⟩:=N2.mp (a w);obtain⟨rfl,rfl,rfl,rfl⟩ : h=H₀ w.params/\gs=gs₀/\d=d₀/\k=k₀:=by simpa using i
 obtain⟨b,g,f⟩ : _/\_/\_:=by simpa only [RO] using size w
 refine iu (run w os) λs₁ r l1 c j=>?_;have r:=topRun_mono (N - M) _ _ _ _ r;rw[show M+(N - M)=N by have:=SD le;exact Se this] at r;have t:XF QH p w N ⟨H₀ w.params,gs,d,k,os⟩=xV s₁:=by unfold XF;dsimp only;rw[b];rw[g];rw[f];rw[r];show(match Vs (TN p.main.body) (H₀ w.params) s₁.heap&&V9 p s₁.heap&&Xo s₁&&Xp (H₀ w.params) s₁.heap with|true=>_|false=>_)=_;rw[l1];rfl
 unfold openEnds;rw[e];show(XF QH p w N _).map _=_;rw[t];exact NN xV (Prod.ext c j)
noncomputable abbrev pw:WR:=RX
noncomputable def o11:VW:={ cls:=.type "tuple",data:=.seq #[] }
noncomputable def o12:VW:={ cls:=.none,data:=.fields #[] }
noncomputable def o13:VW:={ cls:=.type "code",data:=.fields #[.str "<module>" 182,.str "<module>" 183,.str "/claim/cut.py" 184,.int 1 0,.int 0 0,.int 0 0,.int 0 0,.int 0 0,.ref 11,.bool Nr,.int 181 0,.ref 12,.none,.none,.none,.none,.int 185 0,.int 1 0,.str "/claim/cut.py" 186] }
noncomputable def o14:VW:={ cls:=.type "frame",slots:=#[xV (.ref 13),xV (.ref 3),xV (.ref 3),Nm,xV (.str "__main__" 164),Nm,xV (.ref 0)] }
noncomputable def DI:NO:={ scope:=pw.main.scope,locals:=mainNs,globals:=mainNs,cells:=[],code:=.ref 13,frame:=xV 14 }
def t0x(P:Params):BT:=
 .node (boot_o_0 P)
  (.node (boot_o_1 P)
   (.node (boot_o_3 P) (.node (boot_o_7 P) .nil .nil) (.node o11 .nil .nil))
   (.node (boot_o_5 P) (.node (boot_o_9 P) .nil .nil) (.node o13 .nil .nil)))
  (.node (boot_o_2 P)
   (.node (boot_o_4 P) (.node (boot_o_8 P) .nil .nil) (.node o12 .nil .nil))
   (.node (boot_o_6 P) (.node (boot_o_10 P) .nil .nil) (.node o14 .nil .nil)))
noncomputable abbrev C6:XM:=⟨0,0,0,0⟩
abbrev cE:Code:=.body (Q2 pw) DI
abbrev Nc(w:Px)(os:QM):SharedT:=⟨t0x w.params,15,{},#[],{},187,os⟩
def pre(w)(os:QM):topGo QH pw w 11 (xV (.ref 6)) 12 ⟨RH w.params,#[],Wa,WJ,os⟩ (XE pw)=xV ((Nc w os).abs,⟨denote QH cE,cE,C6,[T9 C6]⟩):=by kernel_rfl
def aaU(w)(os:QM):segRun QH pw w 11 (xV (.ref 6)) 1 1 (Nc w os).abs (blockOf (Q2 pw) DI cE C6 [T9 C6])=xV (.next,(Nc w os).abs,cE,C6):=by kernel_rfl
def opens:opening pw=plainProg pw.main.scope.names:=by kernel_rfl
def abf(s):fenceModules? pw s=xV s:=by kernel_rfl
def size(w:Px):((RH w.params).isNs O3&&(#[]:O8 Ua).size==0,(RH w.params).objs.size,(RH w.params).nsMap O3 "__annotations__")=(Nk,11,xV (.ref 6)):=by kernel_rfl
def fin(w)(s)(c:Code)(p):topRun QH pw w 11 (xV (.ref 6)) 2 s ⟨doneF .next,c,p,[T9 C6]⟩=xV s:=by kernel_rfl
def Mr{os:QM}(h:XG QH pw w 11 (xV (.ref 6)) 1 N (Nc w os) (Xq (Q2 pw) DI cE C6 [T9 C6])=xV (.next,sT,cE,p)):
  topRun QH pw w 11 (xV (.ref 6)) (12+(1+(N+2))) ⟨RH w.params,#[],Wa,WJ,os⟩ (XE pw)=xV sT.abs:=by
 refine go_top (pre w os) (piece_block (aaU w os) ?_);have:=piece_app (segRun_of h) (piece_nil (fin w sT.abs cE p))
 rwa [N9] at this
end
section
inductive eX|cursor|decimal|name|string|reference|frame|bench|shelf|stream
 deriving OY
inductive jx|data|at|stop|top|places|text|octets|isHex|number|generation|mark|items|base|shelf|table|trailer
 deriving OY
set_option genCtorIdx false in
inductive Ty|bool|int|list|dict|own (c:eX)
inductive V where
 |none|bool (b:NF)|int (i:N6)|str (s:Ni Nu)|bytes (b:Ni Nu)
 |tup (vs:Ni V)|lst (vs:Ni V)|ec (ks:Ni (Ni Nu)) (vs:Ni V)|obj (c:eX) (fs:Ni V)|mN (lo hi st:N6)|ref (a:Nu)
inductive dQ where
 |list (vs:Ni V)|dict (ks:Ni V) (vs:Ni V)|inst (c:eX) (fs:Ni (jx×V))
noncomputable abbrev ae:=Nu->Nt dQ
noncomputable def ae.set(H:ae)(a:Nu)(o:dQ):ae:=λb=>if b=a then xV o else H b
noncomputable def ae.erase(H:ae)(a:Nu):ae:=λb=>if b=a then Nm else H b
def ae.le(H H':ae):Prop:=∀a o,H a=xV o->H' a=xV o
noncomputable abbrev Env:=Ni (Nt V)
abbrev av:=V->ae->Prop
inductive M5|add|sub|mul|fdiv|mod|pow
inductive CY|eq|ne|lt|le|gt|ge|Lg|vZ|ud|C4
inductive tb|len|abs|str|int|chr|ord|bytes|tuple|list|sorted|max|min|range|bA (t:Ty)
inductive ip|append|extend|pop|join|split|index
set_option genCtorIdx false in
mutual
inductive aF where
 |lit (v:V)
 |loc (i:Nu)
 |glob (g:Nu)
 |absent
 |tup (es:cS)
 |eN (es:cS)
 |iH (es:cS)
 |rF
 |ye (ks:Ni (Ni Nu)) (es:cS)
 |DD (k:N6) (e:aF)
 |attr (e:aF) (f:jx)
 |idx (e i:aF)
 |xn (e lo hi:aF)
 |bin (op:M5) (a b:aF)
 |neg (e:aF)
 |not (e:aF)
 |cmp (op:CY) (a b:aF)
 |ig (o1 o2:CY) (a b c:aF)
 |and (es:cS)
 |or (es:cS)
 |ite (c:dk) (a b:aF)
 |call (f:Nu) (es:cS)
 |new (c:eX) (es:cS)
 |bM (m:Nu) (e:aF) (es:cS)
 |ao (f:tb) (es:cS)
 |aH (m:ip) (e:aF) (es:cS)
 |comp (j:Nu) (it:aF) (TQ:dk) (body:aF)
 |sr (j:Nu) (it:aF) (TQ:dk) (k v:aF)
 |fail
inductive cS where
 |nil
 |cons (e:aF) (es:cS)
inductive dk where
 |always
 |tv (e:aF)
 |not (t:dk)
 |cmp (op:CY) (a b:aF)
 |ig (o1 o2:CY) (a b c:aF)
 |and (ts:iq)
 |or (ts:iq)
inductive iq where
 |nil
 |cons (t:dk) (ts:iq)
end
set_option genCtorIdx false in
inductive aq where
 |skip
 |seq (a b:aq)
 |asg (i:Nu) (e:aF)
 |c9 (o:aF) (f:jx) (e:aF)
 |qW (o k e:aF)
 |uY (is:Ni Nu) (e:aF)
 |exp (e:aF)
 |ret (e:aF)
 |ite (c:dk) (a b:aq)
 |loop (c:dk) (b:aq)
 |each (is:Ni Nu) (e:aF) (b:aq)
 |cont
 |fault (e:aF)
 |Gv (i:Nu) (e h:aF)
 |freeze (i:Nu)
 |km (i:Nu) (f:jx)
 |fail
def jq[Pw c]{G:Prop}(h:(if c then a else b)=u)(k:c->a=u->G)(l:¬c->b=u->G):G:=
 (NG c).elim (λq=>k q ((Np q).symm.trans h)) λq=>l q ((Nl q).symm.trans h)
noncomputable def lim:Nu:=16000000
noncomputable def dG(i:N6):NF:=decide (i.natAbs<2 ^ 60)
noncomputable def iN(i:N6):NF:=decide (i.natAbs<2 ^ 28)
noncomputable def aG:eX->Ni jx
 |.cursor=>[.data,.at,.stop]
 |.decimal=>[.top,.places]
 |.name=>[.text]
 |.string=>[.octets,.isHex]
 |.reference=>[.number,.generation]
 |.frame=>[.mark,.items]
 |.bench=>[.data,.base,.shelf]
 |.shelf=>[.table,.trailer]
 |.stream=>[]
noncomputable def bq:eX->NF
 |.cursor|.frame=>Nr
 | _=>Nk
noncomputable def AI(f:jx):Ni jx->Ni V->Nt V
 |g::gs,v::vs=>if f=g then xV v else AI f gs vs
 | _,_=>Nm
noncomputable def ji(f:jx):Ni (jx×V)->Nt V
 |(g,v)::r=>if f=g then xV v else ji f r
 |[]=>Nm
def iX(f):∀g v r,ji f ((g,v)::r)=(if f=g then xV v else ji f r):=by intros;rfl
def iY(f):ji f ([])=(Nm):=by intros;rfl
noncomputable def eT(f:jx)(x:V):Ni (jx×V)->Ni (jx×V)
 |(g,v)::r=>if f=g then(g,x)::r else(g,v)::eT f x r
 |[]=>[(f,x)]
def Jx(f)(x):∀g v r,eT f x ((g,v)::r)=(if f=g then(g,x)::r else(g,v)::eT f x r):=by intros;rfl
def Jy(f)(x):eT f x ([])=([(f,x)]):=by intros;rfl
section
variable {α:Type}
noncomputable def kI(v:V)(k:N6->Nt α):Nt α:=match v with|.int i=>k i| _=>Nm
noncomputable def kS(v:V)(k:Ni Nu->Nt α):Nt α:=match v with|.str s=>k s| _=>Nm
noncomputable def kB(v:V)(k:Ni Nu->Nt α):Nt α:=match v with|.bytes s=>k s| _=>Nm
noncomputable def kT(v:V)(k:Ni V->Nt α):Nt α:=match v with|.tup s=>k s| _=>Nm
noncomputable def kL(v:V)(k:Ni V->Nt α):Nt α:=match v with|.lst s=>k s| _=>Nm
noncomputable def kD(v:V)(k:Ni (Ni Nu)->Ni V->Nt α):Nt α:=match v with|.ec a b=>k a b| _=>Nm
noncomputable def kR(v:V)(k:Nu->Nt α):Nt α:=match v with|.ref a=>k a| _=>Nm
noncomputable def hL(o:Nt dQ)(k:Ni V->Nt α):Nt α:=match o with|some (.list l)=>k l| _=>Nm
noncomputable def k1(vs:Ni V)(k:V->Nt α):Nt α:=match vs with|[v]=>k v| _=>Nm
noncomputable def k2(vs:Ni V)(k:V->V->Nt α):Nt α:=match vs with|[v,v']=>k v v'| _=>Nm
noncomputable def ifS(c:Prop)[Pw c](v:α):Nt α:=if c then xV v else Nm
end
noncomputable def bb(x y:V):NF:=match x with
 |.int a=>(match y with|.int b=>a==b| _=>Nr)
 |.str a=>(match y with|.str b=>a==b| _=>Nr)
 | _=>Nr
noncomputable def iF(x y:V):NF:=match x with
 |.int _=>(match y with|.int _=>Nk| _=>Nr)
 |.str _=>(match y with|.str _=>Nk| _=>Nr)
 | _=>Nr
def abF(a b):bb (.int a) (.int b)=(a==b):=rfl
def H3(a b):bb (.str a) (.str b)=(a==b):=rfl
noncomputable def sA(o:Nt dQ)(f:jx):Nt V:=match o with
 |some (.inst c fs)=>if(aG c).contains f then ji f fs else Nm
 | _=>Nm
def pJ(v:V)(f:jx)(H:ae):Nt V:=
 match v with
 |.obj c fs=>AI f (aG c) fs
 |.ref a=>sA (H a) f
 | _=>Nm
def jZ(v:V)(H:ae):Nt NF:=
 match v with
 |.bool b=>xV b
 |.int i=>xV (i !=0)
 |.none=>xV Nr
 |.lst vs=>xV (!vs.isEmpty)
 |.ref a=>hL (H a) λvs=>xV (!vs.isEmpty)
 | _=>Nm
noncomputable def eS(n:Nu)(s:Ni Nu):Ni Nu:=(Pc n s).flatten
def aaO(x y:V):Nt V:=match x with
 |.int a=>kI y λb=>xV (.int (a+b))
 |.str a=>kS y λb=>if a.length+b.length<=lim then xV (.str (a++b)) else Nm
 |.bytes a=>kB y λb=>if a.length+b.length<=lim then xV (.bytes (a++b)) else Nm
 |.tup a=>kT y λb=>if a.length+b.length<=lim then xV (.tup (a++b)) else Nm
 | _=>Nm
def aeV(x y:V):Nt V:=kI y λb=>match x with
 |.int a=>if dG a||dG b then xV (.int (a * b)) else Nm
 |.str a=>if a.length=1/\b.natAbs<1000 then xV (.str (eS b.toNat a)) else Nm
 | _=>Nm
def m8(op:M5)(x y:V):Nt V:=
 match op with
 |.add=>aaO x y
 |.sub=>kI x λa=>kI y λb=>xV (.int (a - b))
 |.mul=>aeV x y
 |.fdiv=>kI x λa=>kI y λb=>if b=0\/1000000000<=b.natAbs then Nm else xV (.int (a.fdiv b))
 |.mod=>kI x λa=>kI y λb=>if b=0 then Nm else xV (.int (a.fmod b))
 |.pow=>kI x λa=>kI y λb=>if 0<=b/\b<=1000/\dG a then xV (.int (a ^ b.toNat)) else Nm
noncomputable def du(f:V->V->Nt NF):Ni V->Ni V->Nt NF
 |[],[]=>xV Nk
 |[],_::_=>xV Nr
 | _::_,[]=>xV Nr
 |x::xs,y::ys=>match f x y with
  |some Nk=>du f xs ys
  |some Nr=>xV Nr
  |none=>Nm
def z8(f):du f ([]) ([])=(xV Nk):=by intros;rfl
def z9(f):∀a b,du f ([]) (a::b)=(xV Nr):=by intros;rfl
def Aa(f):∀a b,du f (a::b) ([])=(xV Nr):=by intros;rfl
def Ab(f):∀x xs y ys,du f (x::xs) (y::ys)=(match f x y with
  |some Nk=>du f xs ys
  |some Nr=>xV Nr
  |none=>Nm):=by intros;rfl
noncomputable def eq0(x y:V):Nt NF:=match x with
 |.int a=>kI y λb=>xV (a==b)
 |.str a=>kS y λb=>xV (a==b)
 |.bytes a=>kB y λb=>xV (a==b)
 | _=>Nm
noncomputable def acL(x:V)(k:Ni V->Nt α)(d:Nt α):Nt α:=match x with|.tup a=>k a| _=>d
noncomputable def eD:Nu->V->V->Nt NF
 | 0,x,y=>eq0 x y
 |n+1,x,y=>acL x (λa=>kT y λb=>du (eD n) a b) (eq0 x y)
def bj(v:V)(H:ae):Nt (Ni V):=
 match v with
 |.lst vs=>xV vs
 |.ref a=>hL (H a) xV
 | _=>Nm
def pY(h:H a=xV (.list l)):bj (.ref a) H=xV l:=by show hL (H a) xV=_;rw[h];rfl
def eqV(x y:V)(H:ae):Nt NF:=
 match y with
 |.lst l=>(match l with|[]=>(bj x H).map (·.isEmpty)| _::_=>Nm)
 |y=>eD 64 x y
noncomputable def orB(a b:Nt NF):Nt NF:=match a with
 |some p=>(match b with|some q=>xV (p||q)|none=>Nm)
 |none=>Nm
def acg{G:Prop}(e:orB a b=xV u)(K:∀p q,a=xV p->b=xV q->(p||q)=u->G):G:=by
 induction a with
 |none=>contradiction
 |some p=>
  induction b with
  |none=>contradiction
  |some q=>exact K p q rfl rfl (N1 e)
noncomputable def p9(x:V):Ni V->Nt NF
 |[]=>xV Nr
 |y::ys=>orB (eD 0 y x) (p9 x ys)
def Ir(x):p9 x ([])=(xV Nr):=by intros;rfl
noncomputable def yu(x:V):Ni V->Ni V->Nt V
 |k::ks,v::vs=>if bb k x then xV v else yu x ks vs
 | _,_=>Nm
noncomputable def b7(x:Ni Nu):Ni (Ni Nu)->Ni V->Nt V
 |k::ks,v::vs=>if k=x then xV v else b7 x ks vs
 | _,_=>Nm
def Aj(x):∀k ks v vs,b7 x (k::ks) (v::vs)=(if k=x then xV v else b7 x ks vs):=by intros;rfl
noncomputable def one(l:Ni Nu)(k:Nu->Nt α):Nt α:=match l with|[]=>Nm|c::r=>(match r with|[]=>k c| _::_=>Nm)
def It(x:V)(o:Nt dQ):Nt NF:=match o with
 |some (.dict ks _)=>if iF x x&&ks.all (iF x) then xV (ks.any (bb · x)) else Nm
 | _=>Nm
def EZ(x y:V)(H:ae):Nt NF:=
 match y with
 |.tup ys=>p9 x ys
 |.str s=>kS x λl=>one l λc=>xV (s.contains c)
 |.ref a=>It x (H a)
 | _=>Nm
noncomputable def aJ(v:V):NF:=match v with|.none=>Nr| _=>Nk
noncomputable def nnV(y:V)(o:Nt NF):Nt NF:=match y with|.none=>o| _=>Nm
def jg(op:CY)(x y:V)(H:ae):Nt NF:=
 match op with
 |.eq=>eqV x y H
 |.ne=>(eqV x y H).map (!·)
 |.lt=>kI x λa=>kI y λb=>xV (decide (a<b))
 |.le=>kI x λa=>kI y λb=>xV (decide (a<=b))
 |.gt=>kI x λa=>kI y λb=>xV (decide (b<a))
 |.ge=>kI x λa=>kI y λb=>xV (decide (b<=a))
 |.Lg=>nnV y (xV (!aJ x))
 |.vZ=>nnV y (xV (aJ x))
 |.ud=>EZ x y H
 |.C4=>(EZ x y H).map (!·)
noncomputable def ft(i:N6)(n:Nu):Nu:=if 0<=i then i.toNat else(i+n).toNat
noncomputable def ik(i:N6)(n:Nu):NF:=decide (-(n:N6)<=i/\i<n)
def uZ(vs:Ni V)(i:N6):Nt V:=if ik i vs.length then vs[ft i vs.length]? else Nm
def Ee(o:Nt dQ)(i:V):Nt V:=match o with
 |some (.list vs)=>kI i λk=>uZ vs k
 |some (.dict ks vs)=>if iF i i&&ks.all (iF i) then yu i ks vs else Nm
 | _=>Nm
def gQ(x i:V)(H:ae):Nt V:=
 match x with
 |.bytes b=>kI i λk=>if ik k b.length then(b[ft k b.length]?).map (λ(c:Nu)=>V.int (c:N6)) else Nm
 |.tup vs=>kI i λk=>uZ vs k
 |.lst vs=>kI i λk=>uZ vs k
 |.ec ks vs=>kS i λk=>b7 k ks vs
 |.ref a=>Ee (H a) i
 | _=>Nm
noncomputable def oS(i:N6)(n:Nu):Nu:=if 0<=i then min i.toNat n else(i+n).toNat
noncomputable def dS(l:Ni α)(lo hi:Nu):Ni α:=(l.take hi).drop lo
def dM(v:V)(d:Nu)(n:Nu):Nt Nu:=
 match v with
 |.none=>xV d
 |.int i=>if decide (i.natAbs<2 ^ 60) then xV (oS i n) else Nm
 | _=>Nm
noncomputable def o2(a b:Nt Nu)(k:Nu->Nu->Nt α):Nt α:=match a with
 |some l=>(match b with|some h=>k l h|none=>Nm)
 |none=>Nm
def E8(e:a=xV l)(f:b=xV h):o2 a b k=k l h:=by subst e;subst f;rfl
def aeZ{G:Prop}(e:o2 a b k=xV u)(K:∀l h,a=xV l->b=xV h->k l h=xV u->G):G:=by
 induction a with
 |none=>contradiction
 |some l=>
  induction b with
  |none=>contradiction
  |some h=>exact K l h rfl rfl e
def jY(x lo hi:V):Nt V:=
 match x with
 |.bytes b=>o2 (dM lo 0 b.length) (dM hi b.length b.length) λl h=>if b.length<=lim then xV (.bytes (dS b l h)) else Nm
 |.str b=>o2 (dM lo 0 b.length) (dM hi b.length b.length) λl h=>if b.length<=lim then xV (.str (dS b l h)) else Nm
 |.lst b=>o2 (dM lo 0 b.length) (dM hi b.length b.length) λl h=>if b.length<=lim then xV (.lst (dS b l h)) else Nm
 | _=>Nm
noncomputable def aA(n:Nu):Ni Nu:=(Nu.toDigits 10 n).map Char.toNat
def au(i:N6):Ni Nu:=if i<0 then 45::aA i.natAbs else aA i.natAbs
noncomputable def cF(s:Ni Nu):Nu:=s.foldl (λa c=>a * 10+(c - 48)) 0
noncomputable def mF:Ni Nu->Ni Nu->NF
 |[],_=>Nk
 | _::_,[]=>Nr
 |a::as,b::bs=>if a<b then Nk else if b<a then Nr else mF as bs
def pT:∀a,mF  ([]) (a)=(Nk):=by intros;rfl
def um:∀a b,mF  (a::b) ([])=(Nr):=by intros;rfl
def lY:∀a c b bs,mF  (a::c) (b::bs)=(if a<b then Nk else if b<a then Nr else mF c bs):=by intros;rfl
noncomputable def nk(x:Ni Nu):Ni (Ni Nu)->Ni (Ni Nu)
 |[]=>[x]
 |y::ys=>if mF x y then x::y::ys else y::nk x ys
def ue(x):nk x ([])=([x]):=by intros;rfl
def d7(x):∀y ys,nk x (y::ys)=(if mF x y then x::y::ys else y::nk x ys):=by intros;rfl
noncomputable def bK:Ni (Ni Nu)->Ni (Ni Nu)
 |[]=>[]
 |x::xs=>nk x (bK xs)
def Gf:bK  ([])=([]):=by intros;rfl
def xd:∀x xs,bK  (x::xs)=(nk x (bK xs)):=by intros;rfl
noncomputable def dD:Ni V->Nt (Ni Nu)
 |[]=>xV []
 |v::r=>kI v λi=>if 0<=i/\i<256 then(dD r).map (i.toNat::·) else Nm
noncomputable def bX:Ni V->Nt (Ni (Ni Nu))
 |[]=>xV []
 |v::r=>kS v λs=>(bX r).map (s::·)
noncomputable def dy:Ni V->Nt (Ni (Ni Nu))
 |[]=>xV []
 |v::r=>kB v λs=>(dy r).map (s::·)
set_option genCtorIdx false in
inductive VT|none|bool|int|list|dict|own (c:eX)
noncomputable def lV(v:VT)(t:Ty):NF:=match v with
 |.bool=>(match t with|.bool=>Nk|.int=>Nk| _=>Nr)
 |.int=>(match t with|.int=>Nk| _=>Nr)
 |.list=>(match t with|.list=>Nk| _=>Nr)
 |.dict=>(match t with|.dict=>Nk| _=>Nr)
 |.own c=>(match t with|.own d=>decide (c=d)| _=>Nr)
 |.none=>Nr
noncomputable def abm(o:Nt dQ)(t:Ty):Nt NF:=match o with
 |some (.list _)=>xV (lV .list t)
 |some (.dict ..)=>xV (lV .dict t)
 |some (.inst c _)=>xV (lV (.own c) t)
 |none=>Nm
noncomputable def isA(t:Ty)(v:V)(H:ae):Nt NF:=
 match v with
 |.none=>xV (lV .none t)
 |.bool _=>xV (lV .bool t)
 |.int _=>xV (lV .int t)
 |.lst _=>xV (lV .list t)
 |.ec ..=>xV (lV .dict t)
 |.obj c _=>xV (lV (.own c) t)
 |.ref a=>abm (H a) t
 | _=>Nm
def abZ(v:V)(H:ae):Nt V:=match v with
 |.bytes b=>xV (.int b.length)
 |.str b=>xV (.int b.length)
 |.tup b=>xV (.int b.length)
 |v=>(bj v H).map λl=>.int l.length
def Dn(v:V)(H:ae):Nt V:=match v with
 |.bytes b=>xV (.bytes b)
 |v=>match bj v H with
  |some l=>if l.length<=lim then(dD l).map V.bytes else Nm
  |none=>Nm
noncomputable def ach(s:Ni Nu):Nt V:=match s with
 |[c]=>xV (.int c)
 | _=>Nm
def FN(vs:Ni V):Nt V:=match vs with
 |[v]=>kI v λn=>if dG n then xV (.mN 0 n 1) else Nm
 |[u,v]=>kI u λa=>kI v λn=>if dG a&&dG n then xV (.mN a n 1) else Nm
 |[u,v,w]=>kI u λa=>kI v λn=>kI w λk=>if iN a&&iN n&&iN k&&decide (0<k) then xV (.mN a n k) else Nm
 | _=>Nm
def cp(f:tb)(vs:Ni V)(H:ae):Nt V:=
 match f with
 |.len=>k1 vs λv=>abZ v H
 |.abs=>k1 vs λv=>kI v λi=>xV (.int i.natAbs)
 |.str=>k1 vs λv=>kI v λi=>if i.natAbs<10 ^ 200 then xV (.str (au i)) else Nm
 |.int=>k1 vs λv=>kS v λs=>if s≠[]/\s.length<=20/\s.all (λc=>48<=c&&c<=57) then xV (.int (cF s)) else Nm
 |.chr=>k1 vs λv=>kI v λi=>if 0<=i/\i<256 then xV (.str [i.toNat]) else Nm
 |.ord=>k1 vs λv=>kS v ach
 |.bytes=>k1 vs λv=>Dn v H
 |.tuple=>k1 vs λv=>kL v λl=>if l.length<=lim then xV (.tup l) else Nm
 |.list=>k1 vs λv=>kL v λl=>if l.length<=lim then xV (.lst l) else Nm
 |.sorted=>k1 vs λv=>kD v λks _=>if ks.length<64 then xV (.lst ((bK ks).map V.str)) else Nm
 |.max=>k2 vs λu v=>kI u λa=>kI v λb=>xV (.int (if a<b then b else a))
 |.min=>k2 vs λu v=>kI u λa=>kI v λb=>xV (.int (if b<a then b else a))
 |.range=>FN vs
 |.bA t=>k1 vs λv=>(isA t v H).map V.bool
noncomputable def ef(sep:Ni Nu):Ni (Ni Nu)->Ni Nu
 |[]=>[]
 |[x]=>x
 |x::y::r=>x++sep++ef sep (y::r)
def Eu(a):ef a ([])=([]):=by intros;rfl
def Ew(a):∀x,ef a ([x])=(x):=by intros;rfl
def kz(a):∀x y r,ef a (x::y::r)=(x++a++ef a (y::r)):=by intros;rfl
noncomputable def jm(c:Nu):Ni Nu->Nu->Nt Nu
 |[],_=>Nm
 |x::r,k=>if x=c then xV k else jm c r (k+1)
def DT(c):∀a,jm c ([]) (a)=(Nm):=by intros;rfl
def DU(c):∀x r k,jm c (x::r) (k)=(if x=c then xV k else jm c r (k+1)):=by intros;rfl
noncomputable def dj(l:Ni (Ni Nu)):Nu:=(l.map OZ).sum
noncomputable def LW(s:Ni Nu)(k:Nu->Nt (V×ae)):Nt (V×ae):=match s with|[c]=>k c| _=>Nm
noncomputable def ext(v:V)(k:Ni V->Nt (V×ae)):Nt (V×ae):=match v with
 |.lst l=>k l
 |.bytes b=>k (b.map λ(c:Nu)=>V.int c)
 | _=>Nm
def oM{G:Prop}(h:o.bind k=xV u)(K:∀b,o=xV b->k b=xV u->G):G:=by
 induction o with
 |none=>contradiction
 |some b=>exact K b rfl h
noncomputable def aeW(vs:Ni V)(r:Nt α):Nt α:=match vs with|[]=>r| _::_=>Nm
def J6(o:V)(l:Ni V)(H:ae):Nt (V×ae):=match o with
 |.str sep=>(bX l).bind λss=>if dj ss+sep.length * ss.length<=lim then xV (.str (ef sep ss),H) else Nm
 |.bytes sep=>(dy l).bind λss=>if dj ss+sep.length * ss.length<=lim then xV (.bytes (ef sep ss),H) else Nm
 | _=>Nm
def cT(m:ip)(o:V)(vs:Ni V)(H:ae):Nt (V×ae):=
 match m with
 |.append=>kR o λa=>k1 vs λv=>hL (H a) λl=>if l.length<lim then xV (.none,H.set a (.list (l++[v]))) else Nm
 |.extend=>kR o λa=>k1 vs λv=>hL (H a) λl=>ext v λl'=>if l.length+l'.length<lim then xV (.none,H.set a (.list (l++l'))) else Nm
 |.pop=>kR o λa=>hL (H a) λl=>aeW vs (l.getLast?.bind λv=>if l.length<=lim then xV (v,H.set a (.list l.dropLast)) else Nm)
 |.join=>k1 vs λv=>(bj v H).bind λl=>J6 o l H
 |.split=>kS o λs=>k1 vs λv=>kS v λcs=>LW cs λc=>if c=32/\s.contains 32=Nr then xV (.lst [.str s],H) else Nm
 |.index=>kS o λs=>k1 vs λv=>kS v λcs=>LW cs λc=>if(s.filter (·==c)).length=1 then(jm c s 0).map λk:Nu=>(V.int (k:N6),H) else Nm
noncomputable def yF(o:Nt dQ):NF:=match o with|some (.list _)=>Nk| _=>Nr
noncomputable def isR(v:V)(k:Nu->NF):NF:=match v with|.ref a=>k a| _=>Nr
noncomputable def isT(v:V):NF:=match v with|.str _=>Nk| _=>Nr
def js(m:ip)(o:V)(H:ae):NF:=
 match m with
 |.append=>isR o λa=>yF (H a)
 |.extend=>isR o λa=>yF (H a)
 |.pop=>isR o λa=>yF (H a)
 |.join=>match o with|.str _=>Nk|.bytes _=>Nk| _=>Nr
 |.split=>isT o
 |.index=>isT o
noncomputable def f5:Nu->N6->N6->N6->Ni V
 | 0,_,_,_=>[]
 |n+1,lo,hi,st=>if lo<hi then .int lo::f5 n (lo+st) hi st else[]
def ada:∀a c b,f5  (0) (a) (c) (b)=([]):=by intros;rfl
def i8:∀n lo hi st,f5  (n+1) (lo) (hi) (st)=(if lo<hi then .int lo::f5 n (lo+st) hi st else[]):=by intros;rfl
def d9(v:V):Nt (Ni V):=
 match v with
 |.lst vs=>xV vs
 |.tup vs=>xV vs
 |.bytes b=>xV (b.map λ(c:Nu)=>V.int c)
 |.str s=>xV (s.map λc=>V.str [c])
 |.ec ks _=>xV (ks.map V.str)
 |.mN lo hi st=>xV (f5 (hi - lo).toNat lo hi st)
 | _=>Nm
noncomputable def l8(x v:V):Ni V->Ni V->Ni V
 |k::ks,u::us=>if bb k x then v::us else u::l8 x v ks us
 | _,us=>us
def y5:l8 x v (k::ks) (u::us)=if bb k x then v::us else u::l8 x v ks us:=rfl
def CG(o:Nt dQ)(a:Nu)(k v:V)(H:ae):Nt ae:=match o with
 |some (.list vs)=>kI k λi=>if 0<=i/\i<vs.length then xV (H.set a (.list (vs.set i.toNat v))) else Nm
 |some (.dict ks vs)=>if iF k k&&ks.all (iF k)&&decide (ks.length<1000) then
    xV (H.set a (if ks.any (bb · k) then .dict ks (l8 k v ks vs) else .dict (ks++[k]) (vs++[v]))) else Nm
 | _=>Nm
def cX(o k v:V)(H:ae):Nt ae:=kR o λa=>CG (H a) a k v H
def AV(o:Nt dQ)(a:Nu)(f:jx)(v:V)(H:ae):Nt ae:=match o with
 |some (.inst c fs)=>if(aG c).contains f then xV (H.set a (.inst c (eT f v fs))) else Nm
 | _=>Nm
def gr(o:V)(f:jx)(v:V)(H:ae):Nt ae:=
 match o with
 |.ref a=>AV (H a) a f v H
 | _=>Nm
def A8(v:V)(H:ae):Nt (Ni V):=
 match v with
 |.tup vs=>xV vs
 |.ref a=>hL (H a) xV
 | _=>Nm
noncomputable def eU:Ni Nu->Ni V->Env->Nt Env
 |[],[],ρ=>xV ρ
 |i::is,v::vs,ρ=>eU is vs (ρ.set i (xV v))
 | _,_,_=>Nm
def BU(o:Nt dQ)(a:Nu)(H:ae):Nt (V×ae):=match o with
 |some (.list vs)=>xV (.lst vs,H.erase a)
 |some (.dict ks vs)=>(bX ks).map λss=>(.ec ss vs,H.erase a)
 | _=>Nm
def J1{G:Prop}(e:BU o a H=xV u)(k:∀vs,o=xV (.list vs)->(.lst vs,H.erase a)=u->G)(l:∀ks vs b,o=xV (.dict ks vs)->bX ks=xV b->(.ec b vs,H.erase a)=u->G):G:=by
 induction o with
 |none=>contradiction
 |some o=>
  induction o with
  |list vs=>exact k vs rfl (N1 e)
  |dict ks vs=>
   haveI e:(bX ks).map _=xV u:=e;induction q:bX ks with
   |none=>rw[q] at e;contradiction
   |some b=>rw[q] at e;exact l ks vs b rfl q (N1 e)
  | _=>contradiction
def eJ(v:V)(H:ae):Nt (V×ae):=kR v λa=>BU (H a) a H
def Fn(o:Nt dQ):Nt eX:=match o with
 |some (.inst c _)=>if bq c then Nm else xV c
 | _=>Nm
def Mc{G:Prop}(e:Fn o=xV cl)(k:∀fs,o=xV (.inst cl fs)->bq cl=Nr->G):G:=by
 induction o with
 |none=>contradiction
 |some o=>
  induction o with
  |inst c fs=>exact jq (e:(if bq c=Nk then Nm else xV c)=_) (λ_ h=>by contradiction) λq h=>by injection h with h;clear e;subst h;exact k fs rfl (Vt _▸q)
  | _=>contradiction
def IK(o:V)(H:ae):Nt eX:=
 match o with
 |.obj c _=>xV c
 |.ref a=>Fn (H a)
 | _=>Nm
structure aD where
 arity:Nu
 dflt:Ni V
 size:Nu
 body:aq
abbrev rZ:=Nu->Ni V->ae->av->Prop->Prop
noncomputable def abk:Ni V:=[(.tup [.int 0,.int 9,.int 10,.int 12,.int 13,.int 32]),(.tup [.int 40,.int 41,.int 60,.int 62,.int 91,.int 93,.int 123,.int 125,.int 47,.int 37]),(.int 10),(.int 13),(.int 37),(.int 20),(.int 40),(.int 43),(.int 45),(.int 46),(.int 48),(.int 30),(.int 40),(.int 40),(.int 92),(.int 40),(.int 41),(.int 13),(.int 35),(.bytes [48,49,50,51,52,53,54,55,56,57,65,66,67,68,69,70]),(.int 9),(.int 40),(.int 41),(.int 60),(.int 62),(.int 47),(.int 92),(.int 35),(.tup [.int 91,.int 93,.int 123,.int 125]),(.int 40)]
noncomputable def vM(i:Nu):V:=abk.getD i .none
noncomputable def jG:eX->Nu
 |.cursor=>2
 |.decimal=>11
 |.name=>16
 |.string=>17
 |.reference=>18
 |.frame=>58
 |.bench=>41
 |.shelf=>24
 |.stream=>999
noncomputable def E4:eX->Ni (Nt Nu)
 |.cursor=>[xV 3,xV 4,xV 5,xV 6,xV 7,xV 8,xV 9,xV 10]
 |.decimal=>[Nm,Nm,Nm,Nm,Nm,Nm,Nm,Nm,xV 12,xV 13]
 |.frame=>[Nm,Nm,Nm,Nm,Nm,Nm,Nm,Nm,Nm,Nm,xV 59]
 | _=>[]
noncomputable def fT(c:eX)(m:Nu):Nt Nu:=(E4 c)[m]?.join
section
variable (C:rZ)
def eY(x:Nt α)(k:α->Prop):Prop:=match x with|some a=>k a|none=>OH
noncomputable def Hm(k:Ni Nu)(v:V)(o:Nt (Ni (Ni Nu)×Ni V)):Nt (Ni (Ni Nu)×Ni V):=match o with
 |some p=>if p.1.contains k then Nm else xV (k::p.1,v::p.2)
 |none=>Nm
noncomputable def pA:Ni V->Nt (Ni (Ni Nu)×Ni V)
 |[]=>xV ([],[])
 |p::r=>kT p λl=>k2 l λk v=>kS k λk=>Hm k v (pA r)
noncomputable def fc(T:V->ae->(NF->ae->Prop)->Prop)(B:V->ae->av->Prop):Ni V->ae->(Ni V->ae->Prop)->Prop
 |[],H,Q=>Q [] H
 |x::xs,H,Q=>T x H λt H=>if t then B x H λv H=>fc T B xs H λvs H=>Q (v::vs) H else fc T B xs H Q
abbrev WE:=ae->av->Prop->Prop
abbrev WT:=ae->(NF->ae->Prop)->Prop->Prop
def kQ(Q:av)(H:ae)(x:V):Prop:=Q x H
def kM(Q:av)(r:V×ae):Prop:=Q r.1 r.2
def aeQ(Q:av)(vs:Ni V)(H:ae):Prop:=Q (.tup vs) H
def Lx(Q:av)(vs:Ni V)(H:ae):Prop:=Q (.lst vs) H
def aeE(ks:Ni (Ni Nu))(Q:av)(vs:Ni V)(H:ae):Prop:=Q (.ec ks vs) H
def LB(o:dQ)(Q:av)(H:ae):Prop:=∀a,H a=Nm->Q (.ref a) (H.set a o)
def abN(Q:av)(vs:Ni V)(H:ae):Prop:=LB (.list vs) Q H
def abE(k:N6)(Q:av)(v:V)(H:ae):Prop:=LB (.dict [.int k] [v]) Q H
def abz(f:jx)(Q:av)(v:V)(H:ae):Prop:=eY (pJ v f H) (kQ Q H)
def abH(v:V)(Q:av)(k:V)(H:ae):Prop:=eY (gQ v k H) (kQ Q H)
def aeI(W:WE)(Q:av)(X:Prop)(v:V)(H:ae):Prop:=W H (abH v Q) X
def abU(v l:V)(Q:av)(h:V)(H:ae):Prop:=eY (jY v l h) (kQ Q H)
def abT(W:WE)(v:V)(Q:av)(X:Prop)(l:V)(H:ae):Prop:=W H (abU v l Q) X
def aeN(W W':WE)(Q:av)(X:Prop)(v:V)(H:ae):Prop:=W H (abT W' v Q X) X
def abA(op:M5)(x:V)(Q:av)(y:V)(H:ae):Prop:=eY (m8 op x y) (kQ Q H)
def aez(op:M5)(W:WE)(Q:av)(X:Prop)(x:V)(H:ae):Prop:=W H (abA op x Q) X
def abP(Q:av)(v:V)(H:ae):Prop:=match v with|.int i=>Q (.int (-i)) H| _=>OH
def abQ(Q:av)(H:ae)(b:NF):Prop:=Q (.bool (!b)) H
def aeJ(Q:av)(v:V)(H:ae):Prop:=eY (jZ v H) (abQ Q H)
def kBl(Q:av)(b:NF)(H:ae):Prop:=Q (.bool b) H
def kTB(Q:NF->ae->Prop)(H:ae)(b:NF):Prop:=Q b H
def J7(op:CY)(x:V)(Q:NF->ae->Prop)(y:V)(H:ae):Prop:=eY (jg op x y H) (kTB Q H)
def abC(op:CY)(W:WE)(Q:NF->ae->Prop)(X:Prop)(x:V)(H:ae):Prop:=W H (J7 op x Q) X
def kIf(A B:ae->Prop)(t:NF)(H:ae):Prop:=if t then A H else B H
def aeB(o2:CY)(W:WE)(y:V)(Q:NF->ae->Prop)(X:Prop)(t:NF)(H:ae):Prop:=if t then W H (J7 o2 y Q) X else Q Nr H
def HY(o1 o2:CY)(x:V)(W:WE)(Q:NF->ae->Prop)(X:Prop)(y:V)(H:ae):Prop:=eY (jg o1 x y H) (kTB (aeB o2 W y Q X) H)
def kCC(o1 o2:CY)(W W':WE)(Q:NF->ae->Prop)(X:Prop)(x:V)(H:ae):Prop:=W H (HY o1 o2 x W' Q X) X
def aeL(W W':WE)(Q:av)(X:Prop)(t:NF)(H:ae):Prop:=if t then W H Q X else W' H Q X
def abB(f:Nu)(Q:av)(X:Prop)(vs:Ni V)(H:ae):Prop:=C f vs H Q X
def sI(a:Nu)(c:eX)(Q:av)(v:V)(H:ae):Prop:=v=.none/\match H a with
 |some (.inst c' fs)=>c'=c/\if bq c then fs.map (·.1)=aG c/\Q (.obj c (fs.map (·.2))) (H.erase a) else Q (.ref a) H
 | _=>OH
def abI(c:eX)(Q:av)(X:Prop)(vs:Ni V)(H:ae):Prop:=∀a,H a=Nm->C (jG c) (.ref a::vs) (H.set a (.inst c [])) (sI a c Q) X
def LA(o:V)(Q:av)(X:Prop)(f:Nu)(vs:Ni V)(H:ae):Prop:=C f (o::vs) H Q X
def Lz(W:ae->(Ni V->ae->Prop)->Prop->Prop)(o:V)(Q:av)(X:Prop)(H:ae)(f:Nu):Prop:=W H (LA C o Q X f) X
def Ly(W:ae->(Ni V->ae->Prop)->Prop->Prop)(m:Nu)(o:V)(Q:av)(X:Prop)(H:ae)(c:eX):Prop:=eY (fT c m) (Lz C W o Q X H)
def abO(W:ae->(Ni V->ae->Prop)->Prop->Prop)(m:Nu)(Q:av)(X:Prop)(o:V)(H:ae):Prop:=eY (IK o H) (Ly C W m o Q X H)
def aeG(f:tb)(Q:av)(vs:Ni V)(H:ae):Prop:=eY (cp f vs H) (kQ Q H)
def aeA(m:ip)(o:V)(Q:av)(vs:Ni V)(H:ae):Prop:=eY (cT m o vs H) (kM Q)
def kBm(m:ip)(W:ae->(Ni V->ae->Prop)->Prop->Prop)(Q:av)(X:Prop)(o:V)(H:ae):Prop:=js m o H=Nk/\W H (aeA m o Q) X
def tIn(W:Env->WT)(j:Nu)(ρ:Env)(x:V)(H:ae)(k:NF->ae->Prop):Prop:=W (ρ.set j (xV x)) H k OH
def eIn(W:Env->WE)(j:Nu)(ρ:Env)(x:V)(H:ae)(k:av):Prop:=W (ρ.set j (xV x)) H k OH
def ae3(q:av)(kv vv:V)(H:ae):Prop:=q (.tup [kv,vv]) H
def ae2(W:WE)(q:av)(kv:V)(H:ae):Prop:=match kv with|.str _=>W H (ae3 q kv) OH| _=>OH
def pIn(W W':Env->WE)(j:Nu)(ρ:Env)(x:V)(H:ae)(q:av):Prop:=W (ρ.set j (xV x)) H (ae2 (W' (ρ.set j (xV x))) q) OH
def Lr(T:V->ae->(NF->ae->Prop)->Prop)(B:V->ae->av->Prop)(Q:av)(H:ae)(xs:Ni V):Prop:=xs.length<=lim/\fc T B xs H (Lx Q)
def J8(T:V->ae->(NF->ae->Prop)->Prop)(B:V->ae->av->Prop)(Q:av)(v:V)(H:ae):Prop:=eY (d9 v) (Lr T B Q H)
def kDu(Q:av)(H:ae)(z:Ni (Ni Nu)×Ni V):Prop:=Q (.ec z.1 z.2) H
def HZ(Q:av)(vs:Ni V)(H:ae):Prop:=eY (pA vs) (kDu Q H)
def aeC(T:V->ae->(NF->ae->Prop)->Prop)(B:V->ae->av->Prop)(Q:av)(H:ae)(xs:Ni V):Prop:=xs.length<=1000/\fc T B xs H (HZ Q)
def kDC(T:V->ae->(NF->ae->Prop)->Prop)(B:V->ae->av->Prop)(Q:av)(v:V)(H:ae):Prop:=eY (d9 v) (aeC T B Q H)
def Ls(v:V)(Q:Ni V->ae->Prop)(vs:Ni V)(H:ae):Prop:=Q (v::vs) H
def abD(W:ae->(Ni V->ae->Prop)->Prop->Prop)(Q:Ni V->ae->Prop)(X:Prop)(v:V)(H:ae):Prop:=W H (Ls v Q) X
def Ll(W:WE)(v:V)(Q:av)(X:Prop)(H:ae)(t:NF):Prop:=if t then W H Q X else Q v H
def abu(W:WE)(Q:av)(X:Prop)(v:V)(H:ae):Prop:=eY (jZ v H) (Ll W v Q X H)
def abR(W:WE)(v:V)(Q:av)(X:Prop)(H:ae)(t:NF):Prop:=if t then Q v H else W H Q X
def aeK(W:WE)(Q:av)(X:Prop)(v:V)(H:ae):Prop:=eY (jZ v H) (abR W v Q X H)
def kTv(Q:NF->ae->Prop)(v:V)(H:ae):Prop:=eY (jZ v H) (kTB Q H)
def kTn(Q:NF->ae->Prop)(t:NF)(H:ae):Prop:=Q (!t) H
def kTA(W:WT)(Q:NF->ae->Prop)(X:Prop)(t:NF)(H:ae):Prop:=if t then W H Q X else Q Nr H
def kTO(W:WT)(Q:NF->ae->Prop)(X:Prop)(t:NF)(H:ae):Prop:=if t then Q Nk H else W H Q X
mutual
noncomputable def cL:aF->Env->ae->av->Prop->Prop
 |.lit v,_,H,Q,_=>Q v H
 |.loc i,ρ,H,Q,_=>match ρ[i]? with|some (xV v)=>Q v H| _=>OH
 |.glob g,_,H,Q,_=>Q (vM g) H
 |.absent,_,H,Q,_=>Q .none H
 |.tup es,ρ,H,Q,X=>mn es ρ H (aeQ Q) X
 |.eN es,ρ,H,Q,X=>mn es ρ H (Lx Q) X
 |.iH es,ρ,H,Q,X=>mn es ρ H (abN Q) X
 |.rF,_,H,Q,_=>LB (.dict [] []) Q H
 |.ye ks es,ρ,H,Q,X=>mn es ρ H (aeE ks Q) X
 |.DD k e,ρ,H,Q,X=>cL e ρ H (abE k Q) X
 |.attr e f,ρ,H,Q,X=>cL e ρ H (abz f Q) X
 |.idx e i,ρ,H,Q,X=>cL e ρ H (aeI (cL i ρ) Q X) X
 |.xn e lo hi,ρ,H,Q,X=>cL e ρ H (aeN (cL lo ρ) (cL hi ρ) Q X) X
 |.bin op a b,ρ,H,Q,X=>cL a ρ H (aez op (cL b ρ) Q X) X
 |.neg e,ρ,H,Q,X=>cL e ρ H (abP Q) X
 |.not e,ρ,H,Q,X=>cL e ρ H (aeJ Q) X
 |.cmp op a b,ρ,H,Q,X=>cL a ρ H (abC op (cL b ρ) (kBl Q) X) X
 |.ig o1 o2 a b c,ρ,H,Q,X=>cL a ρ H (kCC o1 o2 (cL b ρ) (cL c ρ) (kBl Q) X) X
 |.and es,ρ,H,Q,X=>Ku es ρ H Q X
 |.or es,ρ,H,Q,X=>acP es ρ H Q X
 |.ite c a b,ρ,H,Q,X=>rY c ρ H (aeL (cL a ρ) (cL b ρ) Q X) X
 |.call f es,ρ,H,Q,X=>mn es ρ H (abB C f Q X) X
 |.new c es,ρ,H,Q,X=>mn es ρ H (abI C c Q X) X
 |.bM m e es,ρ,H,Q,X=>cL e ρ H (abO C (mn es ρ) m Q X) X
 |.ao f es,ρ,H,Q,X=>mn es ρ H (aeG f Q) X
 |.aH m e es,ρ,H,Q,X=>cL e ρ H (kBm m (mn es ρ) Q X) X
 |.comp j it TQ body,ρ,H,Q,X=>cL it ρ H (J8 (tIn (rY TQ) j ρ) (eIn (cL body) j ρ) Q) X
 |.sr j it TQ k v,ρ,H,Q,X=>cL it ρ H (kDC (tIn (rY TQ) j ρ) (pIn (cL k) (cL v) j ρ) Q) X
 |.fail,_,_,_,_=>OH
noncomputable def mn:cS->Env->ae->(Ni V->ae->Prop)->Prop->Prop
 |.nil,_,H,Q,_=>Q [] H
 |.cons e es,ρ,H,Q,X=>cL e ρ H (abD (mn es ρ) Q X) X
noncomputable def Ku:cS->Env->ae->av->Prop->Prop
 |.nil,_,_,_,_=>OH
 |.cons e .nil,ρ,H,Q,X=>cL e ρ H Q X
 |.cons e (.cons e' es),ρ,H,Q,X=>cL e ρ H (abu (Ku (.cons e' es) ρ) Q X) X
noncomputable def acP:cS->Env->ae->av->Prop->Prop
 |.nil,_,_,_,_=>OH
 |.cons e .nil,ρ,H,Q,X=>cL e ρ H Q X
 |.cons e (.cons e' es),ρ,H,Q,X=>cL e ρ H (aeK (acP (.cons e' es) ρ) Q X) X
noncomputable def rY:dk->Env->ae->(NF->ae->Prop)->Prop->Prop
 |.always,_,H,Q,_=>Q Nk H
 |.tv e,ρ,H,Q,X=>cL e ρ H (kTv Q) X
 |.not e,ρ,H,Q,X=>rY e ρ H (kTn Q) X
 |.cmp op a b,ρ,H,Q,X=>cL a ρ H (abC op (cL b ρ) Q X) X
 |.ig o1 o2 a b c,ρ,H,Q,X=>cL a ρ H (kCC o1 o2 (cL b ρ) (cL c ρ) Q X) X
 |.and ts,ρ,H,Q,X=>GH ts ρ H Q X
 |.or ts,ρ,H,Q,X=>Kv ts ρ H Q X
noncomputable def GH:iq->Env->ae->(NF->ae->Prop)->Prop->Prop
 |.nil,_,H,Q,_=>Q Nk H
 |.cons t ts,ρ,H,Q,X=>rY t ρ H (kTA (GH ts ρ) Q X) X
noncomputable def Kv:iq->Env->ae->(NF->ae->Prop)->Prop->Prop
 |.nil,_,H,Q,_=>Q Nr H
 |.cons t ts,ρ,H,Q,X=>rY t ρ H (kTO (Kv ts ρ) Q X) X
end
abbrev dw:=Env->ae->Prop
noncomputable def gz(T:Env->ae->(NF->ae->Prop)->Prop)(B:Env->ae->(Env->ae->Prop)->Prop):Nu->Env->ae->(Env->ae->Prop)->Prop
 | 0,_,_,_=>OH
 |n+1,ρ,H,N=>T ρ H λt H=>if t then B ρ H (fun ρ H=>gz T B n ρ H N) else N ρ H
noncomputable def tg(is:Ni Nu)(x:V)(ρ:Env):Nt Env:=
 match is with
 |[i]=>xV (ρ.set i (xV x))
 |is=>kT x λvs=>eU is vs ρ
noncomputable def bc(is:Ni Nu)(B:Env->ae->(Env->ae->Prop)->Prop):Ni V->Env->ae->(Env->ae->Prop)->Prop
 |[],ρ,H,N=>N ρ H
 |x::xs,ρ,H,N=>eY (tg is x ρ) fun ρ=>B ρ H fun ρ H=>bc is B xs ρ H N
abbrev WS:=Env->ae->dw->av->dw->Prop->Prop
def aeM(W:WS)(N:dw)(R:av)(K:dw)(X:Prop)(ρ:Env)(H:ae):Prop:=W ρ H N R K X
def abv(i:Nu)(ρ:Env)(N:dw)(v:V)(H:ae):Prop:=N (ρ.set i (xV v)) H
def kH(ρ:Env)(N:dw)(H:ae):Prop:=N ρ H
def Lm(f:jx)(v:V)(ρ:Env)(N:dw)(o:V)(H:ae):Prop:=eY (gr o f v H) (kH ρ N)
def abw(W:WE)(f:jx)(ρ:Env)(N:dw)(X:Prop)(v:V)(H:ae):Prop:=W H (Lm f v ρ N) X
def Lo(v o:V)(ρ:Env)(N:dw)(k:V)(H:ae):Prop:=eY (cX o k v H) (kH ρ N)
def Ln(W:WE)(v:V)(ρ:Env)(N:dw)(X:Prop)(o:V)(H:ae):Prop:=W H (Lo v o ρ N) X
def abx(W W':WE)(ρ:Env)(N:dw)(X:Prop)(v:V)(H:ae):Prop:=W H (Ln W' v ρ N X) X
def kρ(N:dw)(H:ae)(ρ:Env):Prop:=N ρ H
def Lp(is:Ni Nu)(ρ:Env)(N:dw)(H:ae)(vs:Ni V):Prop:=eY (eU is vs ρ) (kρ N H)
def aby(is:Ni Nu)(ρ:Env)(N:dw)(v:V)(H:ae):Prop:=eY (A8 v H) (Lp is ρ N H)
def abS(ρ:Env)(N:dw)(_:V)(H:ae):Prop:=N ρ H
def abJ(W W':WS)(ρ:Env)(N:dw)(R:av)(K:dw)(X:Prop)(t:NF)(H:ae):Prop:=if t then W ρ H N R K X else W' ρ H N R K X
def acH(T:Env->WT)(X:Prop)(ρ:Env)(H:ae)(k:NF->ae->Prop):Prop:=T ρ H k X
def zM(W:WS)(R:av)(X:Prop)(ρ:Env)(H:ae)(k:dw):Prop:=W ρ H k R k X
def abM(T:Env->WT)(W:WS)(ρ:Env)(H:ae)(N:dw)(R:av)(X:Prop):Prop:=∃n,gz (acH T X) (zM W R X) n ρ H N
def Lu(is:Ni Nu)(W:WS)(ρ:Env)(N:dw)(R:av)(X:Prop)(H:ae)(xs:Ni V):Prop:=bc is (zM W R X) xs ρ H N
def J9(is:Ni Nu)(W:WS)(ρ:Env)(N:dw)(R:av)(X:Prop)(v:V)(H:ae):Prop:=eY (d9 v) (Lu is W ρ N R X H)
def kX(X:Prop)(_:V)(_:ae):Prop:=X
def aeP(i:Nu)(ρ:Env)(H:ae)(N:dw)(v:V)(_:ae):Prop:=N (ρ.set i (xV v)) H
def kFz(i:Nu)(ρ:Env)(N:dw)(r:V×ae):Prop:=N (ρ.set i (xV r.1)) r.2
noncomputable def yD:Nt dQ->Nt (eX×Ni (jx×V))|some (.inst c fs)=>xV (c,fs)| _=>Nm
def Ek(h:yD o=xV (c,fs)):o=xV (.inst c fs):=by
 induction o with
 |none=>contradiction
 |some o=>
  induction o with
  |inst d gs=>injection h with h;injection h with b a;subst b a;rfl
  | _=>contradiction
def kFA(f:jx)(p:Nu)(ρ:Env)(H:ae)(N:dw):Prop:=eY (yD (H p)) λz=>eY (ji f z.2) λv=>eY (eJ v H) λr=>eY (r.2 p) λ_=>N ρ (r.2.set p (.inst z.1 (eT f r.1 z.2)))
def aeF(f:jx)(ρ:Env)(H:ae)(N:dw)(v:V):Prop:=eY (kR v xV) λp=>kFA f p ρ H N
def aeH(i:Nu)(ρ:Env)(H:ae)(N:dw)(v:V):Prop:=eY (eJ v H) (kFz i ρ N)
noncomputable def eW:aq->Env->ae->(Env->ae->Prop)->av->(Env->ae->Prop)->Prop->Prop
 |.skip,ρ,H,N,_,_,_=>N ρ H
 |.seq a b,ρ,H,N,R,K,X=>eW a ρ H (aeM (eW b) N R K X) R K X
 |.asg i e,ρ,H,N,_,_,X=>cL C e ρ H (abv i ρ N) X
 |.c9 o f e,ρ,H,N,_,_,X=>cL C e ρ H (abw (cL C o ρ) f ρ N X) X
 |.qW o k e,ρ,H,N,_,_,X=>cL C e ρ H (abx (cL C o ρ) (cL C k ρ) ρ N X) X
 |.uY is e,ρ,H,N,_,_,X=>cL C e ρ H (aby is ρ N) X
 |.exp e,ρ,H,N,_,_,X=>cL C e ρ H (abS ρ N) X
 |.ret e,ρ,H,_,R,_,X=>cL C e ρ H R X
 |.ite c a b,ρ,H,N,R,K,X=>rY C c ρ H (abJ (eW a) (eW b) ρ N R K X) X
 |.loop c b,ρ,H,N,R,_,X=>abM (rY C c) (eW b) ρ H N R X
 |.each is e b,ρ,H,N,R,_,X=>cL C e ρ H (J9 is (eW b) ρ N R X) X
 |.cont,ρ,H,_,_,K,_=>K ρ H
 |.fault e,ρ,H,_,_,_,X=>cL C e ρ H (kX X) X
 |.Gv i e h,ρ,H,N,_,_,_=>cL C e ρ (λ_=>Nm) (aeP i ρ H N) (cL C h ρ H (abv i ρ N) OH)
 |.freeze i,ρ,H,N,_,_,_=>eY (ρ[i]?.join) (aeH i ρ H N)
 |.km i f,ρ,H,N,_,_,_=>eY (ρ[i]?.join) (aeF f ρ H N)
 |.fail,_,_,_,_,_,_=>OH
end
section
variable (gO:Nu->Nt aD)
noncomputable def j6(d:aD)(vs:Ni V):Nt Env:=
 let all:=vs++d.dflt.drop (d.dflt.length - (d.arity - vs.length))
 if vs.length<=d.arity/\all.length=d.arity then xV (all.map xV++Pc (d.size - d.arity) Nm) else Nm
def less(Q:ae->Prop)(H:ae):Prop:=∃H',ae.le H' H/\Q H'
def EN(Q:av):Env->ae->Prop:=λ_ H=>less (Q .none) H
def gk(Q:av):av:=λv H=>less (Q v) H
def noK:Env->ae->Prop:=λ_ _=>OH
noncomputable def sh:Nu->rZ
 | 0=>λ_ _ _ _ _=>OH
 |n+1=>λf vs H Q X=>eY (gO f) λd=>eY (j6 d vs) fun ρ=>eW (sh n) d.body ρ H (EN Q) (gk Q) noK X
end
end
section
noncomputable def xF:aq:=
  (.ret (.cmp .ud (.loc 0) (.glob 0)))
def xY:aD:=⟨1,[],1,xF⟩
noncomputable def tu:aq:=
  (.ret (.and (.cons (.cmp .ge (.loc 0) (.lit (.int 0))) (.cons (.cmp .C4 (.loc 0) (.glob 0)) (.cons (.cmp .C4 (.loc 0) (.glob 1)) .nil)))))
def tO:aD:=⟨1,[],1,tu⟩
noncomputable def qY:aq:=
  (.seq (.c9 (.loc 0) .data (.loc 1))
  (.seq (.c9 (.loc 0) .at (.loc 2))
  (.c9 (.loc 0) .stop (.ite (.cmp .lt (.loc 3) (.lit (.int 0))) (.ao .len (.cons (.loc 1) .nil)) (.ao .min (.cons (.loc 3) (.cons (.ao .len (.cons (.loc 1) .nil)) .nil)))))))
def rq:aD:=⟨4,[(.int 0),(.int (-1))],4,qY⟩
noncomputable def lu:aq:=
  (.ret (.cmp .ge (.attr (.loc 0) .at) (.attr (.loc 0) .stop)))
def lC:aD:=⟨1,[],1,lu⟩
noncomputable def qZ:aq:=
  (.seq (.asg 2 (.bin .add (.attr (.loc 0) .at) (.loc 1)))
  (.ret (.ite (.cmp .lt (.loc 2) (.attr (.loc 0) .stop)) (.idx (.attr (.loc 0) .data) (.loc 2)) (.neg (.lit (.int 1))))))
noncomputable def rr:aD:=⟨2,[(.int 0)],3,qZ⟩
noncomputable def rd:aq:=
  (.seq (.ite (.cmp .ge (.attr (.loc 0) .at) (.attr (.loc 0) .stop)) (.ret (.neg (.lit (.int 1)))) .skip)
  (.seq (.asg 1 (.idx (.attr (.loc 0) .data) (.attr (.loc 0) .at)))
  (.seq (.c9 (.loc 0) .at (.bin .add (.attr (.loc 0) .at) (.lit (.int 1))))
  (.ret (.loc 1)))))
noncomputable def rv:aD:=⟨1,[],2,rd⟩
noncomputable def mX:aq:=
  (.ret (.and (.cons (.cmp .le (.bin .add (.attr (.loc 0) .at) (.ao .len (.cons (.loc 1) .nil))) (.attr (.loc 0) .stop)) (.cons (.cmp .eq (.xn (.attr (.loc 0) .data) (.attr (.loc 0) .at) (.bin .add (.attr (.loc 0) .at) (.ao .len (.cons (.loc 1) .nil)))) (.loc 1)) .nil))))
noncomputable def nc:aD:=⟨2,[],2,mX⟩
noncomputable def rb:aq:=
  (.seq (.ite (.not (.tv (.bM 3 (.loc 0) (.cons (.loc 1) .nil)))) (.ret (.lit (.bool Nr))) .skip)
  (.seq (.c9 (.loc 0) .at (.bin .add (.attr (.loc 0) .at) (.ao .len (.cons (.loc 1) .nil))))
  (.ret (.lit (.bool Nk)))))
noncomputable def ru:aD:=⟨2,[],2,rb⟩
noncomputable def je:aq:=
  (.loop (.cmp .lt (.attr (.loc 0) .at) (.attr (.loc 0) .stop)) (.seq (.asg 1 (.idx (.attr (.loc 0) .data) (.attr (.loc 0) .at)))
  (.ite (.cmp .eq (.loc 1) (.glob 4)) (.loop (.and (.cons (.cmp .lt (.attr (.loc 0) .at) (.attr (.loc 0) .stop)) (.cons (.cmp .C4 (.idx (.attr (.loc 0) .data) (.attr (.loc 0) .at)) (.tup (.cons (.glob 2) (.cons (.glob 3) .nil)))) .nil))) (.c9 (.loc 0) .at (.bin .add (.attr (.loc 0) .at) (.lit (.int 1))))) (.ite (.cmp .ud (.loc 1) (.glob 0)) (.c9 (.loc 0) .at (.bin .add (.attr (.loc 0) .at) (.lit (.int 1)))) (.ret .absent)))))
noncomputable def jh:aD:=⟨1,[],2,je⟩
noncomputable def ie:aq:=
  (.seq (.asg 1 (.attr (.loc 0) .at))
  (.seq (.loop (.and (.cons (.cmp .lt (.attr (.loc 0) .at) (.attr (.loc 0) .stop)) (.cons (.tv (.call 1 (.cons (.idx (.attr (.loc 0) .data) (.attr (.loc 0) .at)) .nil))) .nil))) (.c9 (.loc 0) .at (.bin .add (.attr (.loc 0) .at) (.lit (.int 1)))))
  (.ret (.xn (.attr (.loc 0) .data) (.loc 1) (.attr (.loc 0) .at)))))
noncomputable def ij:aD:=⟨1,[],2,ie⟩
noncomputable def gD:aq:=
  (.seq (.ite (.cmp .eq (.bM 1 (.loc 0) .nil) (.glob 3)) (.seq (.c9 (.loc 0) .at (.bin .add (.attr (.loc 0) .at) (.lit (.int 1))))
  (.seq (.ite (.cmp .eq (.bM 1 (.loc 0) .nil) (.glob 2)) (.c9 (.loc 0) .at (.bin .add (.attr (.loc 0) .at) (.lit (.int 1)))) .skip)
  (.ret (.lit (.bool Nk))))) .skip)
  (.seq (.ite (.cmp .eq (.bM 1 (.loc 0) .nil) (.glob 2)) (.seq (.c9 (.loc 0) .at (.bin .add (.attr (.loc 0) .at) (.lit (.int 1))))
  (.ret (.lit (.bool Nk)))) .skip)
  (.ret (.lit (.bool Nr)))))
noncomputable def gM:aD:=⟨1,[],1,gD⟩
noncomputable def ow:aq:=
  (.seq (.loop (.and (.cons (.cmp .gt (.loc 2) (.lit (.int 0))) (.cons (.cmp .eq (.bin .mod (.loc 1) (.lit (.int 10))) (.lit (.int 0))) .nil))) (.seq (.asg 1 (.bin .fdiv (.loc 1) (.lit (.int 10))))
  (.asg 2 (.bin .sub (.loc 2) (.lit (.int 1))))))
  (.seq (.c9 (.loc 0) .top (.loc 1))
  (.c9 (.loc 0) .places (.loc 2))))
def pa:aD:=⟨3,[],3,ow⟩
noncomputable def oy:aq:=
  (.seq (.asg 1 (.ao .str (.cons (.ao .abs (.cons (.attr (.loc 0) .top) .nil)) .nil)))
  (.seq (.ite (.cmp .gt (.attr (.loc 0) .places) (.lit (.int 0))) (.seq (.asg 1 (.bin .add (.bin .mul (.lit (.str [48])) (.bin .sub (.bin .add (.attr (.loc 0) .places) (.lit (.int 1))) (.ao .len (.cons (.loc 1) .nil)))) (.loc 1)))
  (.asg 1 (.bin .add (.bin .add (.xn (.loc 1) .absent (.neg (.attr (.loc 0) .places))) (.lit (.str [46]))) (.xn (.loc 1) (.neg (.attr (.loc 0) .places)) .absent)))) .skip)
  (.ret (.bin .add (.call 14 (.cons (.attr (.loc 0) .top) .nil)) (.loc 1)))))
noncomputable def pd:aD:=⟨1,[],2,oy⟩
noncomputable def iv:aq:=
  (.seq (.asg 1 (.bM 8 (.loc 0) .nil))
  (.seq (.ite (.or (.cons (.cmp .ge (.ao .abs (.cons (.attr (.loc 0) .top) .nil)) (.bin .pow (.lit (.int 10)) (.attr (.loc 0) .places))) (.cons (.cmp .eq (.attr (.loc 0) .top) (.lit (.int 0))) .nil))) (.ret (.loc 1)) .skip)
  (.ret (.bin .add (.call 14 (.cons (.attr (.loc 0) .top) .nil)) (.xn (.loc 1) (.aH .index (.loc 1) (.cons (.lit (.str [46])) .nil)) .absent)))))
noncomputable def iy:aD:=⟨1,[],2,iv⟩
noncomputable def u7:aq:=
  (.ret (.ite (.cmp .lt (.loc 0) (.lit (.int 0))) (.lit (.str [45])) (.lit (.str []))))
def vB:aD:=⟨1,[],1,u7⟩
noncomputable def oF:aq:=
  (.seq (.asg 1 (.lit (.int 0)))
  (.seq (.ite (.and (.cons (.cmp .gt (.ao .len (.cons (.loc 0) .nil)) (.lit (.int 0))) (.cons (.or (.cons (.cmp .eq (.idx (.loc 0) (.lit (.int 0))) (.glob 7)) (.cons (.cmp .eq (.idx (.loc 0) (.lit (.int 0))) (.glob 8)) .nil))) .nil))) (.asg 1 (.lit (.int 1))) .skip)
  (.seq (.asg 2 (.lit (.int 0)))
  (.seq (.asg 3 (.lit (.int 0)))
  (.seq (.asg 4 (.neg (.lit (.int 1))))
  (.seq (.each [5] (.xn (.loc 0) (.loc 1) .absent) (.ite (.and (.cons (.cmp .eq (.loc 5) (.glob 9)) (.cons (.cmp .lt (.loc 4) (.lit (.int 0))) .nil))) (.asg 4 (.lit (.int 0))) (.ite (.ig .le .le (.glob 10) (.loc 5) (.bin .add (.glob 10) (.lit (.int 9)))) (.seq (.asg 2 (.bin .sub (.bin .add (.bin .mul (.lit (.int 10)) (.loc 2)) (.loc 5)) (.glob 10)))
  (.seq (.asg 3 (.bin .add (.loc 3) (.lit (.int 1))))
  (.ite (.cmp .ge (.loc 4) (.lit (.int 0))) (.asg 4 (.bin .add (.loc 4) (.lit (.int 1)))) .skip))) (.ret (.lit .none)))))
  (.seq (.ite (.or (.cons (.cmp .eq (.loc 3) (.lit (.int 0))) (.cons (.cmp .gt (.loc 3) (.glob 6)) .nil))) (.ret (.lit .none)) .skip)
  (.seq (.ite (.cmp .eq (.idx (.loc 0) (.lit (.int 0))) (.glob 8)) (.asg 2 (.neg (.loc 2))) .skip)
  (.ret (.ite (.cmp .lt (.loc 4) (.lit (.int 0))) (.loc 2) (.new .decimal (.cons (.loc 2) (.cons (.loc 4) .nil)))))))))))))
noncomputable def pn:aD:=⟨1,[],6,oF⟩
noncomputable def u0:aq:=
  (.c9 (.loc 0) .text (.loc 1))
def vo:aD:=⟨2,[],2,u0⟩
noncomputable def rf:aq:=
  (.seq (.c9 (.loc 0) .octets (.loc 1))
  (.c9 (.loc 0) .isHex (.loc 2)))
def rx:aD:=⟨3,[(.bool Nr)],3,rf⟩
noncomputable def lx:aq:=
  (.seq (.c9 (.loc 0) .number (.loc 1))
  (.c9 (.loc 0) .generation (.loc 2)))
def lD:aD:=⟨3,[],3,lx⟩
noncomputable def Bp:aq:=
  (.seq (.ite (.cmp .Lg (.loc 0) (.lit .none)) (.ret (.lit (.str [110,117,108,108]))) .skip)
  (.seq (.ite (.tv (.ao (.bA .bool) (.cons (.loc 0) .nil))) (.ret (.lit (.str [116,114,117,116,104]))) .skip)
  (.seq (.ite (.tv (.ao (.bA .int) (.cons (.loc 0) .nil))) (.ret (.lit (.str [105,110,116]))) .skip)
  (.seq (.ite (.tv (.ao (.bA (.own .decimal)) (.cons (.loc 0) .nil))) (.ret (.lit (.str [114,101,97,108]))) .skip)
  (.seq (.ite (.tv (.ao (.bA (.own .name)) (.cons (.loc 0) .nil))) (.ret (.lit (.str [110,97,109,101]))) .skip)
  (.seq (.ite (.tv (.ao (.bA (.own .string)) (.cons (.loc 0) .nil))) (.ret (.lit (.str [115,116,114,105,110,103]))) .skip)
  (.seq (.ite (.tv (.ao (.bA .list) (.cons (.loc 0) .nil))) (.ret (.lit (.str [97,114,114,97,121]))) .skip)
  (.seq (.ite (.tv (.ao (.bA .dict) (.cons (.loc 0) .nil))) (.ret (.lit (.str [100,105,99,116]))) .skip)
  (.seq (.ite (.tv (.ao (.bA (.own .stream)) (.cons (.loc 0) .nil))) (.ret (.lit (.str [115,116,114,101,97,109]))) .skip)
  (.seq (.ite (.tv (.ao (.bA (.own .reference)) (.cons (.loc 0) .nil))) (.ret (.lit (.str [114,101,102]))) .skip)
  .fail))))))))))
noncomputable def BH:aD:=⟨1,[],1,Bp⟩
noncomputable def tD:aq:=
  (.seq (.ite (.cmp .eq (.loc 0) (.lit (.str [110,117,108,108]))) (.ret (.tup (.cons (.lit (.str [110,117,108,108])) .nil))) .skip)
  (.seq (.ite (.cmp .eq (.loc 0) (.lit (.str [116,114,117,116,104]))) (.ret (.tup (.cons (.lit (.str [116,114,117,116,104])) (.cons (.ite (.tv (.loc 1)) (.lit (.int 1)) (.lit (.int 0))) .nil)))) .skip)
  (.seq (.ite (.cmp .eq (.loc 0) (.lit (.str [105,110,116]))) (.ret (.tup (.cons (.lit (.str [105,110,116])) (.cons (.loc 1) .nil)))) .skip)
  (.seq (.ite (.cmp .eq (.loc 0) (.lit (.str [114,101,97,108]))) (.ret (.tup (.cons (.lit (.str [114,101,97,108])) (.cons (.attr (.loc 1) .top) (.cons (.attr (.loc 1) .places) .nil))))) .skip)
  (.seq (.ite (.cmp .eq (.loc 0) (.lit (.str [110,97,109,101]))) (.ret (.tup (.cons (.lit (.str [110,97,109,101])) (.cons (.attr (.loc 1) .text) .nil)))) .skip)
  (.seq (.ite (.cmp .eq (.loc 0) (.lit (.str [115,116,114,105,110,103]))) (.ret (.tup (.cons (.lit (.str [115,116,114,105,110,103])) (.cons (.ao .bytes (.cons (.attr (.loc 1) .octets) .nil)) .nil)))) .skip)
  (.ret (.tup (.cons (.lit (.str [114,101,102])) (.cons (.attr (.loc 1) .number) (.cons (.attr (.loc 1) .generation) .nil)))))))))))
noncomputable def tU:aD:=⟨2,[],2,tD⟩
noncomputable def KP:aq:=
  (.seq (.asg 1 (.call 19 (.cons (.loc 0) .nil)))
  (.seq (.ite (.cmp .eq (.loc 1) (.lit (.str [97,114,114,97,121]))) (.ret (.bin .add (.tup (.cons (.lit (.str [97,114,114,97,121])) .nil)) (.ao .tuple (.cons (.comp 2 (.loc 0) .always (.call 21 (.cons (.loc 2) .nil))) .nil)))) .skip)
  (.seq (.ite (.cmp .eq (.loc 1) (.lit (.str [100,105,99,116]))) (.ret (.bin .add (.tup (.cons (.lit (.str [100,105,99,116])) .nil)) (.ao .tuple (.cons (.comp 3 (.ao .sorted (.cons (.loc 0) .nil)) (.cmp .vZ (.idx (.loc 0) (.loc 3)) (.lit .none)) (.tup (.cons (.loc 3) (.cons (.call 21 (.cons (.idx (.loc 0) (.loc 3)) .nil)) .nil)))) .nil)))) .skip)
  (.seq (.ite (.cmp .eq (.loc 1) (.lit (.str [115,116,114,101,97,109]))) .fail .skip)
  (.ret (.call 20 (.cons (.loc 1) (.cons (.loc 0) .nil))))))))
noncomputable def KZ:aD:=⟨1,[],4,KP⟩
noncomputable def xI:aq:=
  (.seq (.asg 1 (.call 19 (.cons (.loc 0) .nil)))
  (.seq (.ite (.cmp .eq (.loc 1) (.lit (.str [97,114,114,97,121]))) (.ret (.ao .list (.cons (.loc 0) .nil))) .skip)
  (.seq (.ite (.cmp .eq (.loc 1) (.lit (.str [100,105,99,116]))) (.ret (.comp 2 (.ao .sorted (.cons (.loc 0) .nil)) .always (.idx (.loc 0) (.loc 2)))) .skip)
  (.seq (.ite (.cmp .eq (.loc 1) (.lit (.str [115,116,114,101,97,109]))) .fail .skip)
  (.ret (.eN .nil))))))
noncomputable def yc:aD:=⟨1,[],3,xI⟩
noncomputable def xD:aq:=
  (.seq (.asg 1 (.lit (.int 0)))
  (.seq (.asg 2 (.iH (.cons (.tup (.cons (.loc 0) (.cons (.lit (.int 0)) .nil))) .nil)))
  (.seq (.loop (.tv (.loc 2)) (.seq (.uY [3,4] (.aH .pop (.loc 2) .nil))
  (.ite (.cmp .ud (.call 19 (.cons (.loc 3) .nil)) (.tup (.cons (.lit (.str [97,114,114,97,121])) (.cons (.lit (.str [100,105,99,116])) (.cons (.lit (.str [115,116,114,101,97,109])) .nil))))) (.seq (.asg 1 (.ao .max (.cons (.loc 1) (.cons (.bin .add (.loc 4) (.lit (.int 1))) .nil))))
  (.each [5] (.call 22 (.cons (.loc 3) .nil)) (.exp (.aH .append (.loc 2) (.cons (.tup (.cons (.loc 5) (.cons (.bin .add (.loc 4) (.lit (.int 1))) .nil))) .nil))))) .skip)))
  (.ret (.loc 1)))))
noncomputable def xW:aD:=⟨1,[],6,xD⟩
noncomputable def tm:aq:=
  (.seq (.c9 (.loc 0) .table (.ite (.cmp .Lg (.loc 1) (.lit .none)) .rF (.loc 1)))
  (.c9 (.loc 0) .trailer (.ite (.cmp .Lg (.loc 2) (.lit .none)) .rF (.loc 2))))
def tL:aD:=⟨3,[.none,.none],3,tm⟩
noncomputable def rm:aq:=
  (.ret (.ao .bytes (.cons (.comp 1 (.loc 0) .always (.ao .ord (.cons (.loc 1) .nil))) .nil)))
def rE:aD:=⟨1,[],2,rm⟩
noncomputable def xE:aq:=
  (.ret (.eN (.cons (.idx (.glob 19) (.bin .fdiv (.loc 0) (.lit (.int 16)))) (.cons (.idx (.glob 19) (.bin .mod (.loc 0) (.lit (.int 16)))) .nil))))
def xX:aD:=⟨1,[],1,xE⟩
noncomputable def rh:aq:=
  (.seq (.asg 1 (.iH (.cons (.lit (.int 47)) .nil)))
  (.seq (.each [2] (.loc 0) (.seq (.asg 3 (.ao .ord (.cons (.loc 2) .nil)))
  (.seq (.ite (.or (.cons (.cmp .eq (.loc 3) (.lit (.int 0))) (.cons (.cmp .gt (.loc 3) (.lit (.int 255))) .nil))) .fail .skip)
  (.ite (.or (.cons (.cmp .lt (.loc 3) (.lit (.int 33))) (.cons (.cmp .gt (.loc 3) (.lit (.int 126))) (.cons (.cmp .eq (.loc 3) (.glob 18)) (.cons (.not (.tv (.call 1 (.cons (.loc 3) .nil)))) .nil))))) (.seq (.exp (.aH .append (.loc 1) (.cons (.glob 18) .nil)))
  (.exp (.aH .extend (.loc 1) (.cons (.call 26 (.cons (.loc 3) .nil)) .nil)))) (.exp (.aH .append (.loc 1) (.cons (.loc 3) .nil)))))))
  (.ret (.ao .bytes (.cons (.loc 1) .nil)))))
noncomputable def rz:aD:=⟨1,[],4,rh⟩
noncomputable def oH:aq:=
  (.seq (.ite (.cmp .ge (.ao .abs (.cons (.loc 0) .nil)) (.bin .pow (.lit (.int 10)) (.glob 13))) .fail .skip)
  (.ret (.call 25 (.cons (.ao .str (.cons (.loc 0) .nil)) .nil))))
noncomputable def pv:aD:=⟨1,[],1,oH⟩
noncomputable def ly:aq:=
  (.seq (.ite (.or (.cons (.cmp .ge (.ao .abs (.cons (.attr (.loc 0) .top) .nil)) (.bin .pow (.lit (.int 10)) (.glob 13))) (.cons (.cmp .gt (.attr (.loc 0) .places) (.glob 13)) .nil))) .fail .skip)
  (.seq (.ite (.cmp .eq (.attr (.loc 0) .places) (.lit (.int 0))) (.asg 2 (.bin .add (.ao .str (.cons (.attr (.loc 0) .top) .nil)) (.ite (.tv (.loc 1)) (.lit (.str [46])) (.lit (.str [46,48]))))) (.asg 2 (.ite (.tv (.loc 1)) (.bM 9 (.loc 0) .nil) (.bM 8 (.loc 0) .nil))))
  (.seq (.ite (.cmp .gt (.ao .len (.cons (.comp 3 (.loc 2) (.cmp .C4 (.loc 3) (.lit (.str [45,46]))) (.loc 3)) .nil)) (.glob 13)) .fail .skip)
  (.ret (.call 25 (.cons (.loc 2) .nil))))))
noncomputable def lE:aD:=⟨2,[],4,ly⟩
noncomputable def m4:aq:=
  (.seq (.asg 1 (.iH .nil))
  (.seq (.asg 2 .rF)
  (.seq (.each [3] (.ao .range (.cons (.ao .len (.cons (.loc 0) .nil)) .nil)) (.ite (.cmp .eq (.idx (.loc 0) (.loc 3)) (.glob 15)) (.exp (.aH .append (.loc 1) (.cons (.loc 3) .nil))) (.ite (.cmp .eq (.idx (.loc 0) (.loc 3)) (.glob 16)) (.ite (.tv (.loc 1)) (.exp (.aH .pop (.loc 1) .nil)) (.qW (.loc 2) (.loc 3) (.lit (.bool Nk)))) .skip)))
  (.seq (.freeze 1)
  (.seq (.each [3] (.loc 1) (.qW (.loc 2) (.loc 3) (.lit (.bool Nk))))
  (.ret (.loc 2)))))))
noncomputable def ni:aD:=⟨1,[],4,m4⟩
noncomputable def lz:aq:=
  (.seq (.asg 1 (.call 30 (.cons (.loc 0) .nil)))
  (.seq (.asg 2 (.iH (.cons (.glob 15) .nil)))
  (.seq (.each [3] (.ao .range (.cons (.ao .len (.cons (.loc 0) .nil)) .nil)) (.seq (.asg 4 (.idx (.loc 0) (.loc 3)))
  (.ite (.cmp .eq (.loc 4) (.glob 17)) (.exp (.aH .extend (.loc 2) (.cons (.lit (.bytes [92,114])) .nil))) (.ite (.or (.cons (.cmp .eq (.loc 4) (.glob 14)) (.cons (.cmp .ud (.loc 3) (.loc 1)) .nil))) (.exp (.aH .extend (.loc 2) (.cons (.eN (.cons (.glob 14) (.cons (.loc 4) .nil))) .nil))) (.exp (.aH .append (.loc 2) (.cons (.loc 4) .nil)))))))
  (.seq (.exp (.aH .append (.loc 2) (.cons (.glob 16) .nil)))
  (.ret (.ao .bytes (.cons (.loc 2) .nil)))))))
noncomputable def lF:aD:=⟨1,[],5,lz⟩
noncomputable def tn:aq:=
  (.seq (.asg 1 (.iH (.cons (.lit (.int 60)) .nil)))
  (.seq (.each [2] (.loc 0) (.exp (.aH .extend (.loc 1) (.cons (.call 26 (.cons (.loc 2) .nil)) .nil))))
  (.seq (.exp (.aH .append (.loc 1) (.cons (.lit (.int 62)) .nil)))
  (.ret (.ao .bytes (.cons (.loc 1) .nil))))))
noncomputable def tM:aD:=⟨1,[],3,tn⟩
noncomputable def m7:aq:=
  (.seq (.ite (.tv (.loc 1)) (.seq (.asg 2 (.call 31 (.cons (.attr (.loc 0) .octets) .nil)))
  (.seq (.asg 3 (.call 32 (.cons (.attr (.loc 0) .octets) .nil)))
  (.ret (.ite (.cmp .le (.ao .len (.cons (.loc 2) .nil)) (.ao .len (.cons (.loc 3) .nil))) (.loc 2) (.loc 3))))) .skip)
  (.ret (.ite (.tv (.attr (.loc 0) .isHex)) (.call 32 (.cons (.attr (.loc 0) .octets) .nil)) (.call 31 (.cons (.attr (.loc 0) .octets) .nil)))))
noncomputable def nj:aD:=⟨2,[],4,m7⟩
noncomputable def tB:aq:=
  (.seq (.ite (.cmp .eq (.loc 0) (.lit (.str [110,117,108,108]))) (.ret (.lit (.bytes [110,117,108,108]))) .skip)
  (.seq (.ite (.cmp .eq (.loc 0) (.lit (.str [116,114,117,116,104]))) (.ret (.ite (.tv (.loc 1)) (.lit (.bytes [116,114,117,101])) (.lit (.bytes [102,97,108,115,101])))) .skip)
  (.seq (.ite (.cmp .eq (.loc 0) (.lit (.str [105,110,116]))) (.ret (.call 28 (.cons (.loc 1) .nil))) .skip)
  (.seq (.ite (.cmp .eq (.loc 0) (.lit (.str [114,101,97,108]))) (.ret (.call 29 (.cons (.loc 1) (.cons (.loc 2) .nil)))) .skip)
  (.seq (.ite (.cmp .eq (.loc 0) (.lit (.str [110,97,109,101]))) (.ret (.call 27 (.cons (.attr (.loc 1) .text) .nil))) .skip)
  (.seq (.ite (.cmp .eq (.loc 0) (.lit (.str [115,116,114,105,110,103]))) (.ret (.call 33 (.cons (.loc 1) (.cons (.loc 2) .nil)))) .skip)
  .fail))))))
noncomputable def tS:aD:=⟨3,[],3,tB⟩
noncomputable def mZ:aq:=
  (.seq (.ite (.or (.cons (.cmp .lt (.attr (.loc 1) .number) (.lit (.int 0))) (.cons (.cmp .lt (.attr (.loc 1) .generation) (.lit (.int 0))) .nil))) .fail .skip)
  (.seq (.exp (.aH .append (.loc 0) (.cons (.call 28 (.cons (.attr (.loc 1) .number) .nil)) .nil)))
  (.seq (.exp (.aH .append (.loc 0) (.cons (.call 28 (.cons (.attr (.loc 1) .generation) .nil)) .nil)))
  (.exp (.aH .append (.loc 0) (.cons (.lit (.bytes [82])) .nil))))))
noncomputable def nh:aD:=⟨2,[],2,mZ⟩
noncomputable def oC:aq:=
  (.seq (.exp (.aH .append (.loc 0) (.cons (.lit (.bytes [60,60])) .nil)))
  (.seq (.each [3] (.ite (.tv (.loc 2)) (.ao .sorted (.cons (.loc 1) .nil)) (.loc 1)) (.ite (.cmp .vZ (.idx (.loc 1) (.loc 3)) (.lit .none)) (.seq (.exp (.aH .append (.loc 0) (.cons (.call 27 (.cons (.loc 3) .nil)) .nil)))
  (.exp (.call 37 (.cons (.loc 0) (.cons (.idx (.loc 1) (.loc 3)) (.cons (.loc 2) .nil)))))) .skip))
  (.exp (.aH .append (.loc 0) (.cons (.lit (.bytes [62,62])) .nil)))))
noncomputable def yb:aD:=⟨3,[],4,oC⟩
noncomputable def u3:aq:=
  (.seq (.asg 3 (.call 19 (.cons (.loc 1) .nil)))
  (.ite (.cmp .eq (.loc 3) (.lit (.str [97,114,114,97,121]))) (.seq (.exp (.aH .append (.loc 0) (.cons (.lit (.bytes [91])) .nil)))
  (.seq (.each [4] (.loc 1) (.exp (.call 37 (.cons (.loc 0) (.cons (.loc 4) (.cons (.loc 2) .nil))))))
  (.exp (.aH .append (.loc 0) (.cons (.lit (.bytes [93])) .nil))))) (.ite (.cmp .eq (.loc 3) (.lit (.str [100,105,99,116]))) (.exp (.call 36 (.cons (.loc 0) (.cons (.loc 1) (.cons (.loc 2) .nil))))) (.ite (.cmp .eq (.loc 3) (.lit (.str [114,101,102]))) (.exp (.call 35 (.cons (.loc 0) (.cons (.loc 1) .nil)))) (.exp (.aH .append (.loc 0) (.cons (.call 34 (.cons (.loc 3) (.cons (.loc 1) (.cons (.loc 2) .nil)))) .nil)))))))
noncomputable def vr:aD:=⟨3,[],5,u3⟩
noncomputable def oG:aq:=
  (.ret (.and (.cons (.call 1 (.cons (.idx (.loc 1) (.lit (.int 0))) .nil)) (.cons (.or (.cons (.call 1 (.cons (.idx (.loc 0) (.neg (.lit (.int 1)))) .nil)) (.cons (.cmp .eq (.loc 0) (.lit (.bytes [47]))) .nil))) .nil))))
noncomputable def pq:aD:=⟨2,[],2,oG⟩
noncomputable def oz:aq:=
  (.seq (.ite (.not (.tv (.loc 1))) .fail .skip)
  (.seq (.asg 2 (.iH (.cons (.idx (.loc 0) (.lit (.int 0))) .nil)))
  (.seq (.each [3] (.ao .range (.cons (.lit (.int 1)) (.cons (.ao .len (.cons (.loc 0) .nil)) .nil))) (.seq (.ite (.tv (.call 38 (.cons (.idx (.loc 0) (.bin .sub (.loc 3) (.lit (.int 1)))) (.cons (.idx (.loc 0) (.loc 3)) .nil)))) (.exp (.aH .append (.loc 2) (.cons (.lit (.bytes [32])) .nil))) .skip)
  (.exp (.aH .append (.loc 2) (.cons (.idx (.loc 0) (.loc 3)) .nil)))))
  (.ret (.aH .join (.lit (.bytes [])) (.cons (.loc 2) .nil))))))
noncomputable def pf:aD:=⟨2,[],4,oz⟩
noncomputable def oJ:aq:=
  (.seq (.ite (.cmp .gt (.call 23 (.cons (.loc 0) .nil)) (.glob 12)) .fail .skip)
  (.seq (.asg 2 (.iH .nil))
  (.seq (.ite (.cmp .ne (.call 19 (.cons (.loc 0) .nil)) (.lit (.str [115,116,114,101,97,109]))) (.seq (.exp (.call 37 (.cons (.loc 2) (.cons (.loc 0) (.cons (.loc 1) .nil)))))
  (.ret (.call 39 (.cons (.loc 2) (.cons (.loc 1) .nil))))) .skip)
  (.seq .fail
  (.seq .fail
  .fail)))))
noncomputable def pz:aD:=⟨2,[],4,oJ⟩
noncomputable def ti:aq:=
  (.seq (.c9 (.loc 0) .data (.loc 1))
  (.seq (.c9 (.loc 0) .base (.loc 2))
  (.c9 (.loc 0) .shelf (.loc 3))))
def tJ:aD:=⟨4,[],4,ti⟩
noncomputable def u5:aq:=
  (.seq (.ite (.cmp .C4 (.loc 1) (.attr (.attr (.loc 0) .shelf) .table)) .fail .skip)
  (.ret (.idx (.idx (.attr (.attr (.loc 0) .shelf) .table) (.loc 1)) (.lit (.int 1)))))
def vw:aD:=⟨2,[],2,u5⟩
noncomputable def rj:aq:=
  (.ret (.aH .join (.lit (.str [])) (.cons (.comp 1 (.loc 0) .always (.ao .chr (.cons (.loc 1) .nil))) .nil)))
def rB:aD:=⟨1,[],2,rj⟩
noncomputable def xJ:aq:=
  (.seq (.ite (.or (.cons (.not (.ig .lt .le (.lit (.int 0)) (.ao .len (.cons (.loc 0) .nil)) (.glob 20))) (.cons (.cmp .ne (.comp 1 (.loc 0) (.cmp .C4 (.loc 1) (.lit (.str [48,49,50,51,52,53,54,55,56,57]))) (.loc 1)) (.eN .nil)) .nil))) .fail .skip)
  (.ret (.ao .int (.cons (.loc 0) .nil))))
noncomputable def yd:aD:=⟨1,[],2,xJ⟩
noncomputable def tA:aq:=
  (.seq (.asg 2 (.comp 3 (.aH .split (.loc 0) (.cons (.lit (.str [32])) .nil)) (.cmp .ne (.loc 3) (.lit (.str []))) (.call 44 (.cons (.loc 3) .nil))))
  (.seq (.ite (.and (.cons (.cmp .vZ (.loc 1) (.lit .none)) (.cons (.cmp .ne (.ao .len (.cons (.loc 2) .nil)) (.loc 1)) .nil))) .fail .skip)
  (.ret (.loc 2))))
noncomputable def tR:aD:=⟨2,[],4,tA⟩
noncomputable def oD:aq:=
  (.seq (.ite (.cmp .eq (.loc 1) (.lit (.str [103,101,116]))) (.ret (.call 43 (.cons (.call 40 (.cons (.call 42 (.cons (.loc 0) (.cons (.idx (.call 45 (.cons (.loc 2) (.cons (.lit (.int 1)) .nil))) (.lit (.int 0))) .nil))) (.cons (.lit (.bool Nk)) .nil))) .nil))) .skip)
  (.seq (.exp (.call 45 (.cons (.loc 2) (.cons (.lit (.int 0)) .nil))))
  (.seq (.ite (.cmp .eq (.loc 1) (.lit (.str [110,117,109,98,101,114,115]))) .fail .skip)
  (.ret (.call 43 (.cons (.call 40 (.cons (.attr (.attr (.loc 0) .shelf) .trailer) (.cons (.lit (.bool Nk)) .nil))) .nil))))))
noncomputable def pj:aD:=⟨3,[],3,oD⟩
noncomputable def u1:aq:=
  (.seq (.ite (.ig .le .le (.lit (.int 48)) (.loc 0) (.lit (.int 57))) (.ret (.bin .sub (.loc 0) (.lit (.int 48)))) .skip)
  (.seq (.ite (.ig .le .le (.lit (.int 65)) (.loc 0) (.lit (.int 70))) (.ret (.bin .sub (.loc 0) (.lit (.int 55)))) .skip)
  (.seq (.ite (.ig .le .le (.lit (.int 97)) (.loc 0) (.lit (.int 102))) (.ret (.bin .sub (.loc 0) (.lit (.int 87)))) .skip)
  (.ret (.neg (.lit (.int 1)))))))
noncomputable def vp:aD:=⟨1,[],1,u1⟩
noncomputable def oE:aq:=
  (.seq (.ite (.cmp .eq (.loc 0) (.lit (.int 110))) (.ret (.lit (.int 10))) .skip)
  (.seq (.ite (.cmp .eq (.loc 0) (.lit (.int 114))) (.ret (.lit (.int 13))) .skip)
  (.seq (.ite (.cmp .eq (.loc 0) (.lit (.int 116))) (.ret (.lit (.int 9))) .skip)
  (.seq (.ite (.cmp .eq (.loc 0) (.lit (.int 98))) (.ret (.lit (.int 8))) .skip)
  (.seq (.ite (.cmp .eq (.loc 0) (.lit (.int 102))) (.ret (.lit (.int 12))) .skip)
  (.ret (.loc 0)))))))
def pk:aD:=⟨1,[],1,oE⟩
noncomputable def u4:aq:=
  (.seq (.asg 2 (.iH .nil))
  (.seq (.asg 3 (.lit (.int 0)))
  (.seq (.loop (.cmp .lt (.loc 3) (.ao .len (.cons (.loc 0) .nil))) (.seq (.asg 4 (.idx (.loc 0) (.loc 3)))
  (.seq (.asg 3 (.bin .add (.loc 3) (.lit (.int 1))))
  (.seq (.ite (.and (.cons (.cmp .eq (.loc 4) (.glob 27)) (.cons (.cmp .lt (.bin .add (.loc 3) (.lit (.int 1))) (.ao .len (.cons (.loc 0) .nil))) .nil))) (.seq (.asg 5 (.call 47 (.cons (.idx (.loc 0) (.loc 3)) .nil)))
  (.seq (.asg 6 (.call 47 (.cons (.idx (.loc 0) (.bin .add (.loc 3) (.lit (.int 1)))) .nil)))
  (.ite (.and (.cons (.cmp .ge (.loc 5) (.lit (.int 0))) (.cons (.cmp .ge (.loc 6) (.lit (.int 0))) .nil))) (.seq (.asg 4 (.bin .add (.bin .mul (.lit (.int 16)) (.loc 5)) (.loc 6)))
  (.asg 3 (.bin .add (.loc 3) (.lit (.int 2))))) .skip))) .skip)
  (.seq (.ite (.cmp .eq (.loc 4) (.lit (.int 0))) (.fault (.loc 1)) .skip)
  (.exp (.aH .append (.loc 2) (.cons (.ao .chr (.cons (.loc 4) .nil)) .nil))))))))
  (.ret (.aH .join (.lit (.str [])) (.cons (.loc 2) .nil))))))
noncomputable def vu:aD:=⟨2,[(.int (-1))],7,u4⟩
noncomputable def G1:aq:=
  (.seq (.asg 2 (.bin .sub (.loc 1) (.lit (.int 48))))
  (.seq (.asg 3 (.lit (.int 1)))
  (.seq (.loop (.and (.cons (.cmp .lt (.loc 3) (.lit (.int 3))) (.cons (.ig .le .le (.lit (.int 48)) (.bM 1 (.loc 0) .nil) (.lit (.int 55))) .nil))) (.seq (.asg 2 (.bin .sub (.bin .add (.bin .mul (.lit (.int 8)) (.loc 2)) (.bM 2 (.loc 0) .nil)) (.lit (.int 48))))
  (.asg 3 (.bin .add (.loc 3) (.lit (.int 1))))))
  (.ret (.bin .mod (.loc 2) (.lit (.int 256)))))))
noncomputable def Hk:aD:=⟨2,[],4,G1⟩
noncomputable def mY:aq:=
  (.seq (.ite (.tv (.bM 0 (.loc 0) .nil)) (.ret (.eN .nil)) .skip)
  (.seq (.ite (.tv (.bM 7 (.loc 0) .nil)) (.ret (.eN .nil)) .skip)
  (.seq (.asg 1 (.bM 2 (.loc 0) .nil))
  (.seq (.ite (.ig .le .le (.lit (.int 48)) (.loc 1) (.lit (.int 55))) (.ret (.eN (.cons (.call 50 (.cons (.loc 0) (.cons (.loc 1) .nil))) .nil))) .skip)
  (.ret (.eN (.cons (.call 48 (.cons (.loc 1) .nil)) .nil)))))))
noncomputable def nf:aD:=⟨1,[],2,mY⟩
noncomputable def Bq:aq:=
  (.seq (.asg 1 (.bin .sub (.attr (.loc 0) .at) (.lit (.int 1))))
  (.seq (.asg 2 (.iH .nil))
  (.seq (.asg 3 (.lit (.int 1)))
  (.seq (.loop (.not (.tv (.bM 0 (.loc 0) .nil))) (.seq (.ite (.tv (.bM 7 (.loc 0) .nil)) (.seq (.exp (.aH .append (.loc 2) (.cons (.lit (.int 10)) .nil)))
  .cont) .skip)
  (.seq (.asg 4 (.bM 2 (.loc 0) .nil))
  (.seq (.ite (.cmp .eq (.loc 4) (.glob 26)) (.seq (.exp (.aH .extend (.loc 2) (.cons (.call 51 (.cons (.loc 0) .nil)) .nil)))
  .cont) .skip)
  (.seq (.ite (.cmp .eq (.loc 4) (.glob 21)) (.asg 3 (.bin .add (.loc 3) (.lit (.int 1)))) .skip)
  (.seq (.ite (.cmp .eq (.loc 4) (.glob 22)) (.seq (.asg 3 (.bin .sub (.loc 3) (.lit (.int 1))))
  (.ite (.cmp .eq (.loc 3) (.lit (.int 0))) (.ret (.ao .bytes (.cons (.loc 2) .nil))) .skip)) .skip)
  (.exp (.aH .append (.loc 2) (.cons (.loc 4) .nil)))))))))
  (.fault (.loc 1))))))
noncomputable def BI:aD:=⟨1,[],5,Bq⟩
noncomputable def tq:aq:=
  (.seq (.asg 1 (.bin .sub (.attr (.loc 0) .at) (.lit (.int 1))))
  (.seq (.asg 2 (.iH .nil))
  (.seq (.loop (.not (.tv (.bM 0 (.loc 0) .nil))) (.seq (.asg 3 (.bM 2 (.loc 0) .nil))
  (.seq (.ite (.cmp .eq (.loc 3) (.glob 24)) (.seq (.ite (.cmp .eq (.bin .mod (.ao .len (.cons (.loc 2) .nil)) (.lit (.int 2))) (.lit (.int 1))) (.exp (.aH .append (.loc 2) (.cons (.lit (.int 0)) .nil))) .skip)
  (.ret (.ao .bytes (.cons (.comp 5 (.ao .range (.cons (.lit (.int 0)) (.cons (.ao .len (.cons (.loc 2) .nil)) (.cons (.lit (.int 2)) .nil)))) .always (.bin .add (.bin .mul (.lit (.int 16)) (.idx (.loc 2) (.loc 5))) (.idx (.loc 2) (.bin .add (.loc 5) (.lit (.int 1)))))) .nil)))) .skip)
  (.seq (.asg 4 (.call 47 (.cons (.loc 3) .nil)))
  (.ite (.cmp .ge (.loc 4) (.lit (.int 0))) (.exp (.aH .append (.loc 2) (.cons (.loc 4) .nil))) (.ite (.not (.tv (.call 0 (.cons (.loc 3) .nil)))) (.fault (.bin .sub (.attr (.loc 0) .at) (.lit (.int 1)))) .skip))))))
  (.fault (.loc 1)))))
noncomputable def tN:aD:=⟨1,[],6,tq⟩
noncomputable def u6:aq:=
  (.seq (.asg 2 (.bM 6 (.loc 0) .nil))
  (.seq (.asg 3 (.call 15 (.cons (.loc 2) .nil)))
  (.seq (.ite (.cmp .Lg (.loc 3) (.lit .none)) (.ret (.tup (.cons (.lit (.str [119,111,114,100])) (.cons (.loc 2) (.cons (.loc 1) .nil))))) .skip)
  (.seq (.ite (.tv (.ao (.bA .int) (.cons (.loc 3) .nil))) (.ret (.tup (.cons (.lit (.str [105,110,116])) (.cons (.loc 3) (.cons (.loc 1) .nil))))) .skip)
  (.ret (.tup (.cons (.lit (.str [114,101,97,108])) (.cons (.loc 3) (.cons (.loc 1) .nil)))))))))
noncomputable def vA:aD:=⟨2,[],4,u6⟩
noncomputable def j5:aq:=
  (.seq (.ite (.cmp .eq (.loc 1) (.glob 25)) (.seq (.exp (.bM 2 (.loc 0) .nil))
  (.ret (.tup (.cons (.lit (.str [110,97,109,101])) (.cons (.call 49 (.cons (.bM 6 (.loc 0) .nil) (.cons (.loc 2) .nil))) (.cons (.loc 2) .nil)))))) .skip)
  (.seq (.ite (.cmp .eq (.loc 1) (.glob 21)) (.seq (.exp (.bM 2 (.loc 0) .nil))
  (.ret (.tup (.cons (.lit (.str [115,116,114,105,110,103])) (.cons (.call 52 (.cons (.loc 0) .nil)) (.cons (.loc 2) .nil)))))) .skip)
  (.seq (.ite (.tv (.bM 4 (.loc 0) (.cons (.lit (.bytes [60,60])) .nil))) (.ret (.tup (.cons (.lit (.str [115,105,103,110])) (.cons (.lit (.bytes [60,60])) (.cons (.loc 2) .nil))))) .skip)
  (.seq (.ite (.tv (.bM 4 (.loc 0) (.cons (.lit (.bytes [62,62])) .nil))) (.ret (.tup (.cons (.lit (.str [115,105,103,110])) (.cons (.lit (.bytes [62,62])) (.cons (.loc 2) .nil))))) .skip)
  (.seq (.ite (.cmp .eq (.loc 1) (.glob 23)) (.seq (.exp (.bM 2 (.loc 0) .nil))
  (.ret (.tup (.cons (.lit (.str [104,101,120])) (.cons (.call 53 (.cons (.loc 0) .nil)) (.cons (.loc 2) .nil)))))) .skip)
  (.seq (.ite (.cmp .ud (.loc 1) (.glob 28)) (.seq (.exp (.bM 2 (.loc 0) .nil))
  (.ret (.tup (.cons (.lit (.str [115,105,103,110])) (.cons (.ao .bytes (.cons (.eN (.cons (.loc 1) .nil)) .nil)) (.cons (.loc 2) .nil)))))) .skip)
  (.fault (.loc 2))))))))
noncomputable def kf:aD:=⟨3,[],3,j5⟩
noncomputable def tx:aq:=
  (.seq (.exp (.bM 5 (.loc 0) .nil))
  (.seq (.asg 1 (.attr (.loc 0) .at))
  (.seq (.asg 2 (.bM 1 (.loc 0) .nil))
  (.seq (.ite (.cmp .eq (.loc 2) (.neg (.lit (.int 1)))) (.ret (.tup (.cons (.lit (.str [101,110,100])) (.cons (.lit (.bytes [])) (.cons (.loc 1) .nil))))) .skip)
  (.seq (.ite (.or (.cons (.cmp .eq (.loc 2) (.glob 25)) (.cons (.cmp .eq (.loc 2) (.glob 21)) (.cons (.cmp .eq (.loc 2) (.glob 22)) (.cons (.cmp .eq (.loc 2) (.glob 23)) (.cons (.cmp .eq (.loc 2) (.glob 24)) (.cons (.cmp .ud (.loc 2) (.glob 28)) .nil))))))) (.ret (.call 55 (.cons (.loc 0) (.cons (.loc 2) (.cons (.loc 1) .nil))))) .skip)
  (.ret (.call 54 (.cons (.loc 0) (.cons (.loc 1) .nil)))))))))
noncomputable def tQ:aD:=⟨1,[],3,tx⟩
noncomputable def Bo:aq:=
  (.ret (.and (.cons (.cmp .eq (.idx (.loc 0) (.lit (.int 0))) (.lit (.str [115,105,103,110]))) (.cons (.cmp .eq (.idx (.loc 0) (.lit (.int 1))) (.loc 1)) .nil))))
def BG:aD:=⟨2,[],2,Bo⟩
noncomputable def tj:aq:=
  (.seq (.c9 (.loc 0) .mark (.loc 1))
  (.c9 (.loc 0) .items (.iH .nil)))
def tK:aD:=⟨2,[],2,tj⟩
noncomputable def j4:aq:=
  (.ret (.and (.cons (.cmp .eq (.attr (.loc 0) .mark) (.lit (.bytes [60,60]))) (.cons (.cmp .eq (.bin .mod (.ao .len (.cons (.attr (.loc 0) .items) .nil)) (.lit (.int 2))) (.lit (.int 0))) .nil))))
def kc:aD:=⟨1,[],1,j4⟩
noncomputable def xG:aq:=
  (.ret (.and (.cons (.ao (.bA .int) (.cons (.loc 0) .nil)) (.cons (.not (.ao (.bA .bool) (.cons (.loc 0) .nil))) (.cons (.cmp .ge (.loc 0) (.lit (.int 0))) .nil)))))
def xZ:aD:=⟨1,[],1,xG⟩
noncomputable def lA:aq:=
  (.seq (.asg 2 (.new .cursor (.cons (.attr (.loc 0) .data) (.cons (.attr (.loc 0) .at) (.cons (.attr (.loc 0) .stop) .nil)))))
  (.seq (.exp (.bM 5 (.loc 2) .nil))
  (.seq (.asg 3 (.call 15 (.cons (.bM 6 (.loc 2) .nil) .nil)))
  (.seq (.exp (.bM 5 (.loc 2) .nil))
  (.seq (.ite (.or (.cons (.not (.tv (.call 60 (.cons (.loc 3) .nil)))) (.cons (.cmp .ne (.bM 6 (.loc 2) .nil) (.lit (.bytes [82]))) .nil))) (.ret (.loc 1)) .skip)
  (.seq (.c9 (.loc 0) .at (.attr (.loc 2) .at))
  (.ret (.new .reference (.cons (.loc 1) (.cons (.loc 3) .nil))))))))))
noncomputable def lG:aD:=⟨2,[],4,lA⟩
noncomputable def tE:aq:=
  (.seq (.ite (.cmp .eq (.loc 0) (.lit (.bytes [116,114,117,101]))) (.ret (.lit (.bool Nk))) .skip)
  (.seq (.ite (.cmp .eq (.loc 0) (.lit (.bytes [102,97,108,115,101]))) (.ret (.lit (.bool Nr))) .skip)
  (.seq (.ite (.cmp .eq (.loc 0) (.lit (.bytes [110,117,108,108]))) (.ret (.lit .none)) .skip)
  (.fault (.loc 1)))))
def tV:aD:=⟨2,[],2,tE⟩
noncomputable def rk:aq:=
  (.seq (.uY [3,4,5] (.loc 1))
  (.seq (.ite (.and (.cons (.cmp .eq (.loc 3) (.lit (.str [105,110,116]))) (.cons (.cmp .ge (.loc 4) (.lit (.int 0))) (.cons (.tv (.loc 2)) .nil)))) (.ret (.call 61 (.cons (.loc 0) (.cons (.loc 4) .nil)))) .skip)
  (.seq (.ite (.or (.cons (.cmp .eq (.loc 3) (.lit (.str [105,110,116]))) (.cons (.cmp .eq (.loc 3) (.lit (.str [114,101,97,108]))) .nil))) (.ret (.loc 4)) .skip)
  (.seq (.ite (.cmp .eq (.loc 3) (.lit (.str [110,97,109,101]))) (.ret (.new .name (.cons (.loc 4) .nil))) .skip)
  (.seq (.ite (.cmp .eq (.loc 3) (.lit (.str [115,116,114,105,110,103]))) (.ret (.new .string (.cons (.loc 4) .nil))) .skip)
  (.seq (.ite (.cmp .eq (.loc 3) (.lit (.str [104,101,120]))) (.ret (.new .string (.cons (.loc 4) (.cons (.lit (.bool Nk)) .nil)))) .skip)
  (.seq (.ite (.cmp .eq (.loc 3) (.lit (.str [119,111,114,100]))) (.ret (.call 62 (.cons (.loc 4) (.cons (.loc 5) .nil)))) .skip)
  (.seq (.ite (.cmp .eq (.loc 3) (.lit (.str [101,110,100]))) (.fault (.loc 5)) .skip)
  (.fault (.loc 5))))))))))
noncomputable def rC:aD:=⟨3,[],6,rk⟩
noncomputable def Bn:aq:=
  (.seq (.asg 1 .rF)
  (.seq (.each [2] (.ao .range (.cons (.lit (.int 0)) (.cons (.ao .len (.cons (.loc 0) .nil)) (.cons (.lit (.int 2)) .nil)))) (.qW (.loc 1) (.attr (.idx (.loc 0) (.loc 2)) .text) (.idx (.loc 0) (.bin .add (.loc 2) (.lit (.int 1))))))
  (.seq (.freeze 1)
  (.ret (.sr 3 (.loc 1) (.cmp .vZ (.idx (.loc 1) (.loc 3)) (.lit .none)) (.loc 3) (.idx (.loc 1) (.loc 3)))))))
noncomputable def BF:aD:=⟨1,[],4,Bn⟩
noncomputable def rg:aq:=
  (.seq (.asg 3 (.ite (.cmp .eq (.loc 1) (.lit (.bytes [93]))) (.lit (.bytes [91])) (.lit (.bytes [60,60]))))
  (.seq (.ite (.or (.cons (.cmp .eq (.loc 0) (.eN .nil)) (.cons (.cmp .ne (.attr (.idx (.loc 0) (.neg (.lit (.int 1)))) .mark) (.loc 3)) .nil))) (.fault (.loc 2)) .skip)
  (.seq (.asg 4 (.aH .pop (.loc 0) .nil))
  (.seq (.km 4 .items)
  (.seq (.ite (.cmp .eq (.loc 3) (.lit (.bytes [91]))) (.ret (.attr (.loc 4) .items)) .skip)
  (.seq (.ite (.not (.tv (.bM 10 (.loc 4) .nil))) (.fault (.loc 2)) .skip)
  (.ret (.call 64 (.cons (.attr (.loc 4) .items) .nil)))))))))
noncomputable def ry:aD:=⟨3,[],5,rg⟩
noncomputable def ri:aq:=
  (.seq (.asg 3 (.iH .nil))
  (.loop (.tv (.lit (.bool Nk))) (.seq (.uY [4,5,6] (.loc 1))
  (.seq (.asg 7 (.and (.cons (.cmp .eq (.loc 4) (.lit (.str [115,105,103,110]))) (.cons (.cmp .ud (.loc 5) (.tup (.cons (.lit (.bytes [91])) (.cons (.lit (.bytes [60,60])) .nil)))) .nil))))
  (.seq (.ite (.and (.cons (.cmp .ne (.loc 3) (.eN .nil)) (.cons (.tv (.bM 10 (.idx (.loc 3) (.neg (.lit (.int 1)))) .nil)) (.cons (.cmp .ne (.loc 4) (.lit (.str [110,97,109,101]))) (.cons (.not (.tv (.call 57 (.cons (.loc 1) (.cons (.lit (.bytes [62,62])) .nil))))) .nil))))) (.fault (.loc 6)) .skip)
  (.seq (.ite (.tv (.loc 7)) (.seq (.ite (.cmp .eq (.ao .len (.cons (.loc 3) .nil)) (.glob 29)) (.fault (.loc 6)) .skip)
  (.exp (.aH .append (.loc 3) (.cons (.new .frame (.cons (.loc 5) .nil)) .nil)))) (.seq (.ite (.and (.cons (.cmp .eq (.loc 4) (.lit (.str [115,105,103,110]))) (.cons (.cmp .ud (.loc 5) (.tup (.cons (.lit (.bytes [93])) (.cons (.lit (.bytes [62,62])) .nil)))) .nil))) (.asg 8 (.call 65 (.cons (.loc 3) (.cons (.loc 5) (.cons (.loc 6) .nil))))) (.asg 8 (.call 63 (.cons (.loc 0) (.cons (.loc 1) (.cons (.loc 2) .nil))))))
  (.seq (.ite (.cmp .eq (.loc 3) (.eN .nil)) (.ret (.loc 8)) .skip)
  (.exp (.aH .append (.attr (.idx (.loc 3) (.neg (.lit (.int 1)))) .items) (.cons (.loc 8) .nil))))))
  (.asg 1 (.call 56 (.cons (.loc 0) .nil)))))))))
noncomputable def rA:aD:=⟨3,[(.bool Nk)],9,ri⟩
noncomputable def rl:aq:=
  (.ret (.call 66 (.cons (.loc 0) (.cons (.call 56 (.cons (.loc 0) .nil)) .nil))))
noncomputable def rD:aD:=⟨1,[],1,rl⟩
noncomputable def tC:aq:=
  (.seq (.asg 1 (.new .cursor (.cons (.loc 0) .nil)))
  (.seq (.asg 2 (.call 67 (.cons (.loc 1) .nil)))
  (.seq (.exp (.bM 5 (.loc 1) .nil))
  (.seq (.ite (.not (.tv (.bM 0 (.loc 1) .nil))) (.fault (.attr (.loc 1) .at)) .skip)
  (.ret (.loc 2))))))
noncomputable def tT:aD:=⟨1,[],3,tC⟩
noncomputable def xH:aq:=
  (.seq (.uY [2,3] (.loc 0))
  (.seq (.qW (.loc 0) (.lit (.int 1)) (.bin .add (.loc 3) (.lit (.int 1))))
  (.ret (.bin .mod (.bin .add (.idx (.loc 2) (.bin .mod (.loc 3) (.ao .len (.cons (.loc 2) .nil)))) (.bin .fdiv (.bin .mul (.bin .fdiv (.loc 3) (.ao .len (.cons (.loc 2) .nil))) (.bin .add (.bin .mul (.lit (.int 7)) (.loc 3)) (.lit (.int 3)))) (.lit (.int 4)))) (.loc 1)))))
noncomputable def x9:aD:=⟨2,[],4,xH⟩
noncomputable def u2:aq:=
  (.seq (.asg 1 (.call 69 (.cons (.loc 0) (.cons (.lit (.int 7)) .nil))))
  (.seq (.ite (.cmp .eq (.loc 1) (.lit (.int 0))) (.ret (.lit .none)) .skip)
  (.seq (.ite (.cmp .eq (.loc 1) (.lit (.int 1))) (.ret (.cmp .eq (.call 69 (.cons (.loc 0) (.cons (.lit (.int 2)) .nil))) (.lit (.int 0)))) .skip)
  (.seq (.ite (.cmp .eq (.loc 1) (.lit (.int 2))) (.ret (.bin .sub (.call 69 (.cons (.loc 0) (.cons (.lit (.int 2001)) .nil))) (.lit (.int 1000)))) .skip)
  (.seq (.ite (.cmp .eq (.loc 1) (.lit (.int 3))) (.ret (.new .decimal (.cons (.bin .sub (.call 69 (.cons (.loc 0) (.cons (.lit (.int 4001)) .nil))) (.lit (.int 2000))) (.cons (.call 69 (.cons (.loc 0) (.cons (.lit (.int 5)) .nil))) .nil)))) .skip)
  (.seq (.ite (.cmp .eq (.loc 1) (.lit (.int 4))) (.ret (.new .name (.cons (.aH .join (.lit (.str [])) (.cons (.comp 3 (.ao .range (.cons (.call 69 (.cons (.loc 0) (.cons (.lit (.int 3)) .nil))) .nil)) .always (.ao .chr (.cons (.idx (.tup (.cons (.lit (.int 35)) (.cons (.lit (.int 50)) (.cons (.lit (.int 51)) (.cons (.lit (.int 65)) (.cons (.lit (.int 47)) (.cons (.lit (.int 32)) (.cons (.lit (.int 255)) (.cons (.lit (.int 40)) .nil))))))))) (.call 69 (.cons (.loc 0) (.cons (.lit (.int 8)) .nil)))) .nil))) .nil)) .nil))) .skip)
  (.seq (.ite (.cmp .eq (.loc 1) (.lit (.int 5))) (.seq (.asg 2 (.ao .bytes (.cons (.comp 3 (.ao .range (.cons (.call 69 (.cons (.loc 0) (.cons (.lit (.int 4)) .nil))) .nil)) .always (.idx (.tup (.cons (.lit (.int 40)) (.cons (.lit (.int 41)) (.cons (.lit (.int 92)) (.cons (.lit (.int 13)) (.cons (.lit (.int 10)) (.cons (.lit (.int 114)) (.cons (.lit (.int 49)) (.cons (.lit (.int 0)) .nil))))))))) (.call 69 (.cons (.loc 0) (.cons (.lit (.int 8)) .nil))))) .nil)))
  (.ret (.new .string (.cons (.loc 2) (.cons (.cmp .eq (.call 69 (.cons (.loc 0) (.cons (.lit (.int 2)) .nil))) (.lit (.int 0))) .nil))))) .skip)
  (.ret (.new .reference (.cons (.call 69 (.cons (.loc 0) (.cons (.lit (.int 30)) .nil))) (.cons (.call 69 (.cons (.loc 0) (.cons (.lit (.int 3)) .nil))) .nil)))))))))))
noncomputable def vq:aD:=⟨1,[],4,u2⟩
noncomputable def tw:aq:=
  (.seq (.asg 1 (.call 69 (.cons (.loc 0) (.cons (.lit (.int 5)) .nil))))
  (.seq (.asg 2 (.comp 5 (.ao .range (.cons (.call 69 (.cons (.loc 0) (.cons (.lit (.int 4)) .nil))) .nil)) .always (.call 70 (.cons (.loc 0) .nil))))
  (.seq (.ite (.cmp .eq (.loc 1) (.lit (.int 0))) (.ret (.loc 2)) .skip)
  (.seq (.ite (.cmp .eq (.loc 1) (.lit (.int 1))) (.ret (.eN (.cons (.xn (.loc 2) .absent (.lit (.int 1))) (.cons (.xn (.loc 2) (.lit (.int 1)) .absent) .nil)))) .skip)
  (.seq (.ite (.cmp .eq (.loc 1) (.lit (.int 2))) (.ret (.ye [[75]] (.cons (.loc 2) .nil))) .skip)
  (.seq (.ite (.cmp .eq (.loc 1) (.lit (.int 3))) (.seq (.asg 3 .rF)
  (.seq (.each [4] (.loc 2) (.qW (.loc 3) (.idx (.tup (.cons (.lit (.str [65])) (.cons (.lit (.str [])) (.cons (.lit (.str [35,50])) (.cons (.lit (.str [66,32,67])) .nil))))) (.call 69 (.cons (.loc 0) (.cons (.lit (.int 4)) .nil)))) (.loc 4)))
  (.seq (.freeze 3)
  (.ret (.loc 3))))) .skip)
  (.ret (.ite (.cmp .ne (.loc 2) (.eN .nil)) (.idx (.loc 2) (.lit (.int 0))) (.lit .none)))))))))
noncomputable def tP:aD:=⟨1,[],6,tw⟩
noncomputable def oA:aq:=
  (.seq (.asg 2 (.call 21 (.cons (.loc 1) .nil)))
  (.seq (.ite (.cmp .ne (.call 21 (.cons (.call 68 (.cons (.loc 0) .nil)) .nil)) (.loc 2)) (.ret (.lit (.bool Nr))) .skip)
  (.seq (.each [3] (.ao .range (.cons (.ao .len (.cons (.loc 0) .nil)) .nil)) (.seq (.Gv 4 (.call 21 (.cons (.call 68 (.cons (.bin .add (.xn (.loc 0) .absent (.loc 3)) (.xn (.loc 0) (.bin .add (.loc 3) (.lit (.int 1))) .absent)) .nil)) .nil)) (.tup .nil))
  (.ite (.cmp .eq (.loc 4) (.loc 2)) (.ret (.lit (.bool Nr))) .skip)))
  (.ret (.lit (.bool Nk))))))
noncomputable def ph:aD:=⟨2,[],5,oA⟩
noncomputable def aaS:aq:=
  (.seq (.asg 1 (.iH (.cons (.or (.cons (.ao .list (.cons (.xn (.loc 0) .absent (.lit (.int 40))) .nil)) (.cons (.eN (.cons (.lit (.int 4)) .nil)) .nil))) (.cons (.lit (.int 0)) .nil))))
  (.seq (.asg 2 (.call 71 (.cons (.loc 1) .nil)))
  (.seq (.asg 3 (.bin .add (.lit (.int 2)) (.call 69 (.cons (.loc 1) (.cons (.lit (.int 9)) .nil)))))
  (.seq (.asg 4 (.DD 1 (.tup (.cons (.lit (.int 0)) (.cons (.ye [[84,121,112,101]] (.cons (.new .name (.cons (.lit (.str [67,97,116,97,108,111,103])) .nil)) .nil)) .nil)))))
  (.seq (.qW (.loc 4) (.loc 3) (.tup (.cons (.call 69 (.cons (.loc 1) (.cons (.lit (.int 3)) .nil))) (.cons (.loc 2) .nil))))
  (.seq (.asg 5 (.ye [[82,111,111,116],[73,110,102,111]] (.cons (.new .reference (.cons (.lit (.int 1)) (.cons (.lit (.int 0)) .nil))) (.cons (.call 70 (.cons (.loc 1) .nil)) .nil))))
  (.seq (.asg 6 (.new .bench (.cons (.lit (.bytes [])) (.cons (.lit .none) (.cons (.new .shelf (.cons (.loc 4) (.cons (.loc 5) .nil))) .nil)))))
  (.seq (.each [7,8,9] (.tup (.cons (.tup (.cons (.lit (.str [103,101,116])) (.cons (.ao .str (.cons (.loc 3) .nil)) (.cons (.loc 2) .nil)))) (.cons (.tup (.cons (.lit (.str [116,114,97,105,108,101,114])) (.cons (.lit (.str [])) (.cons (.loc 5) .nil)))) .nil))) (.seq (.asg 10 (.ao .bytes (.cons (.comp 11 (.call 46 (.cons (.loc 6) (.cons (.loc 7) (.cons (.loc 8) .nil)))) .always (.ao .ord (.cons (.loc 11) .nil))) .nil)))
  (.ite (.or (.cons (.cmp .ne (.loc 10) (.call 40 (.cons (.loc 9) (.cons (.lit (.bool Nk)) .nil)))) (.cons (.not (.tv (.call 72 (.cons (.loc 10) (.cons (.loc 9) .nil))))) .nil))) (.ret (.lit (.bool Nr))) .skip)))
  (.ret (.lit (.bool Nk)))))))))))
noncomputable def aa3:aD:=⟨1,[],12,aaS⟩
noncomputable def fC:aq:=
  (.seq .fail
  (.seq .fail
  .fail))
def dA:aD:=⟨3,[(.int (-1))],3,fC⟩
def abd:Ni aD:=[xY,tO,rq,lC,rr,rv,nc,ru,jh,ij,gM,pa,pd,iy,vB,pn,vo,rx,lD,BH,tU,KZ,yc,xW,tL,rE,xX,rz,pv,lE,ni,lF,tM,nj,tS,nh,yb,vr,pq,pf,pz,tJ,vw,rB,yd,tR,pj,vp,pk,vu,Hk,nf,BI,tN,vA,kf,tQ,BG,tK,kc,xZ,lG,tV,rC,BF,ry,rA,rD,tT,x9,vq,tP,ph,aa3,dA]
def gO(f:Nu):Nt aD:=abd[f]?
def zS:∃C:Nu->rZ,∀n,C n=sh gO n:=⟨sh gO,λ_=>rfl⟩
@[irreducible] noncomputable def call:Nu->rZ:=Classical.choose zS
def fb(n):call n=sh gO n:=by unfold call;exact Classical.choose_spec zS n
end
section
open T PySem PySem.W PySem.Calls PyProof.Rows PySem.MeetsSeq PySem.SeqAt
section
open PySem.Sem
section
variable {M:VK}{Γ:Ctx}{E:Nz->XM->NJ->Prop}{p:XM}{s:NJ}
def CX(q:s.heap.Ns a m)(j:∀o,s.heap.get? a=xV o->o.cls=c)(name)(v)(Q)(l:∀g,g.Ns a (λx=>if x=name then xV v else m x)->(∀o,g.get? a=xV o->o.cls=c)->Po a s.heap g ->
   Q () p { s with heap:=g,toks:=s.toks+1 }):wp M Γ (nsSet a name v) Q E p s:=by
 refine bO q ?_;clear q;intro o es k b hd hk hm;haveI j:=j o b;simp only[nsSet,strHash,wp_bind',wp_cmd_ask,wp_pure',wp_cmd_mkText];rw[wp_loadPart_of M Γ E p { s with toks:=s.toks+1 } _ b];haveI f:es.any (·.refKey)=Nr:=by rw[any_eq_false'];intro e he;refine X2 (hk e he) λn t h=>?_;simp[DictEntry.refKey,h]
 simp only[hd,aRefKeyMayBeTheName_eq,aRefKeyMayBeTheNameByArray,f,Rk,QN,Ub,wp_cmd_updatePart];obtain⟨u,d,w,z⟩:=o;subst hd;dsimp only at j;subst j;induction hi:es.findIdx? (·.key.isStr name) with
 |some i=>
  refine⟨by rw[b];rfl,l _ ?_ (λr e=>?_) (Sf ..)⟩
  ·refine⟨_,_,k,Pa _ b (by simp only[Qb,Pj,hi];rfl),by simp only[Qb,Pj,hi];rfl,hk.modify _ _,λx=>?_⟩
   refine(?_:_=if x=name then xV v else m x);rewrite [<- hm];exact findBy_modify (λn v=>v.isStr n) Nz.isStr_inj es name x v i hi
  ·rw[Pa _ b (by simp only[Qb,Pj,hi];rfl)] at e
   injection e with e;subst e
   simp only[Qb,Pj,hi]
 |none=>
  refine⟨by rw[b];rfl,l _ ?_ (λr e=>?_) (Sf ..)⟩
  ·refine⟨_,_,k+1,Pa _ b (by simp only[Qb,Pj,hi];rfl),by simp only[Qb,Pj,hi];rfl,hk.push _ _ _ _,λx=>?_⟩
   refine(?_:_=if x=name then xV v else m x);rewrite [<- hm];exact findBy_push (λn v=>v.isStr n) es name x _ _ v (λy=>by
    refine(?_:(name==y)=decide (y=name));by_cases h:y=name
    ·induction h;(rfl)
    ·haveI:¬ name=y:=λe=>h e.symm
     simp[h,this]) hi
  ·rw[Pa _ b (by simp only[Qb,Pj,hi];rfl)] at e
   injection e with e;subst e
   simp only[Qb,Pj,hi]
end
section
variable {M:VK}{A:Oj}{E:Nz->NJ->Prop}{s:NJ}
def uR(d:s.heap.Ns a m)(e:∀o,s.heap.get? a=xV o->o.cls=c)(h:∀b,b.Ns a (λx=>if x=name then xV v else m x)->(∀o,b.get? a=xV o->o.cls=c)->Po a s.heap b->Q () { s with heap:=b,toks:=s.toks+1 }):
  ON M A (nsSet a name v) Q E s:=fun Γ p _=>CX d e name v _ h
def dH(d:env.kindOf name=xV .local)(b:s.heap.Ns env.locals m)(e:∀o,s.heap.get? env.locals=xV o->o.cls=c)(h:∀a,a.Ns env.locals (λx=>if x=name then xV v else m x)->(∀o,a.get? env.locals=xV o->o.cls=c)->Po env.locals s.heap a ->
   Q () { s with heap:=a,toks:=s.toks+1 })(f:(env.scope.kind==.class||(env.scope.kind==.module&&env.locals !=env.globals))=Nr):ON M A (Uz env name v) Q E s:=by
 rw[storeName_local d f];exact uR b e h
end
section
variable {env:NO}
def GK(h:Heap)(L:OO):Prop:=∀o,h.get? L=xV o->o.cls=.type "frame"
def NoC(h:Heap)(L:OO):Prop:=∀o u,h.get? L=xV o->o.data≠.cell u
def NoC.ns(x:h.Ns L m):NoC h L:=by refine jc x ?_;clear x;intro o es b a hd _;intro c u e q;replace e:=(a)▸e;injection e with e;subst e;replace q:=(hd)▸q;contradiction
def afa(x:UA s₀ env.locals m env.cells cm s)(f:GK s.heap env.locals)(hk:env.scope.kind=.function)(q:env.kindOf n=xV .local)(h:∀s',UA s₀ env.locals (λy=>if y=n then xV v else m y) env.cells cm s'->GK s'.heap env.locals->Q () s'):ON M A (Uz env n v) Q E s:=by
 refine dH q x.toInCall.ns f (λp g d a=>h _ ⟨⟨?_,g,λb o e=>?_,x.toInCall.fresh⟩,λk c l=>?_,x.apart,x.above⟩ d) (by rw[hk];rfl)
 ·refine X2 x.toInCall.same λj tk i=>?_;clear x f a;subst i
  exact⟨p,_,rfl⟩
 ·exact a.extBut b o (OV (NY (Oz e) x.toInCall.fresh)) (x.toInCall.keep b o e)
 ·exact(x.cell k c l).sameBut a (Sm (x.above k c (mem_of_lookup l)))
def ae9(x:UA s₀ env.locals m env.cells cm s)(f:GK s.heap env.locals)(hk:env.scope.kind=.function)(r:env.kindOf n=xV .cell)(j:env.cells.lookup n=xV c)(h:∀s',UA s₀ env.locals m env.cells (λy=>if y=n then xV v else cm y) s'->GK s'.heap env.locals->Q () s'):ON M A (Uz env n v) Q E s:=by
 have g:=x.above n c (mem_of_lookup j);refine Uc hk r j (x.cell n c j) λt l d=>h _ ⟨⟨?_,x.toInCall.ns.sameBut d (OV g),λb o e=>?_,x.toInCall.fresh⟩,λk u a=>?_,x.apart,x.above⟩ λo e=>f o (by refine bB (NU (d.2 _ (OV g))) ?_;exact e)
 ·refine X2 x.toInCall.same λq tk p=>?_;clear x f d;subst p
  exact⟨t,_,rfl⟩
 ·exact d.extBut b o (OV (To (NY (Oz e) x.toInCall.fresh) g)) (x.toInCall.keep b o e)
 ·by_cases i:k=n
  ·clear r h;subst i
   replace a:=(j)▸a;injection a with a;subst a
   simpa using l
  ·rw[Nl i]
   exact(x.cell k u a).sameBut d λe=>i (WU x.apart (mem_of_lookup a) (e▸mem_of_lookup j))
def vc(f)(t:∀n v u,f (n,v) u=(do Uz env n v;Pure.pure (.yield ⟨⟩)))(hk:env.scope.kind=.function):
  ∀(a:Ni (NX×Nz)) (m j:NX->Nt Nz) (s:NJ) (Q:PUnit->NJ->Prop),UA s₀ env.locals m env.cells j s->GK s.heap env.locals ->
   (∀x∈a,env.kindOf x.1=xV .local\/(env.kindOf x.1=xV .cell/\(env.cells.lookup x.1).isSome=Nk)) ->
   (∀s',UA s₀ env.locals (Ud env.kindOf a m) env.cells (Wb env.kindOf a j) s'->GK s'.heap env.locals->Q ⟨⟩ s')->ON M A (forIn a ⟨⟩ f) Q E s:=by
 intro k;induction k with
 |nil=>intro m j s Q x y _ h;exact NC (h s x y)
 |cons p r d=>
  obtain⟨n,v⟩:=p;intro m j s Q x y b h;rw[Wc];rw[t];haveI hr:∀y∈r,env.kindOf y.1=xV .local\/(env.kindOf y.1=xV .cell/\(env.cells.lookup y.1).isSome=Nk):=λy q=>b y (NB _ q);rcases b (n,v) Ny with g|⟨g,o⟩
  ·refine Nq (Nq (afa x y hk g λs' x' l=>NC (d _ _ s' Q x' l hr λs'' x'' e=>h s'' ?_ e)))
   unfold Ud Wb;rw[Np g];rw[Np g];exact x''
  ·refine X1 (Qm.mp o) λc o=>?_
   haveI i:¬ env.kindOf n=xV .local:=by rw[g];decide
   refine Nq (Nq (ae9 x y hk g o λs' x' l=>NC (d _ _ s' Q x' l hr λs'' x'' e=>h s'' ?_ e)));unfold Ud Wb;rw[Nl i];rw[Nl i];exact x''
end
section
variable {M:VK}{A:Oj}{E:Nz->NJ->Prop}{s:NJ}
def nv{code}(hk:scope.kind=.function)(d:∀x∈a,scope.names.lookup x.1=xV .local\/(scope.names.lookup x.1=xV .cell/\((Rg (s.heap.objs.size+1) scope.names []).lookup x.1).isSome=Nk))(g:∀env,env=newEnv scope s.heap.objs.size globals (Rg (s.heap.objs.size+1) scope.names []) qual func code Nm builtins ->
   ∀s',UA s env.locals (Ud env.kindOf a λ_=>Nm) env.cells (Wb env.kindOf a λ_=>Nm) s'->GK s'.heap env.locals->Q env s'):
  ON M A (newFunctionEnv scope globals [] a qual func code Nm builtins) Q E s:=by
 refine Nq (wpAny_alloc ?_);refine Nq (wpAny_layCells _ (λname kind cells=>by induction f:kind==SU<;>simp[f]) _ _ _ _ ?_);haveI ok:=cellsFrom_ok scope.names (s.heap.push { cls:=.type "frame",data:=.dict #[] }) (s.heap.objs.size+1) [] ⟨λ_ _ hm=>((by contradiction)),List.Pairwise.nil⟩ (by rw[Pe];exact NA _);rw[Pe] at ok;rw[show({ s with heap:=s.heap.push { cls:=.type "frame",data:=.dict #[] } }:NJ).heap.objs.size=s.heap.objs.size+1 from Pe ..];refine Nq (vc (s₀:=s) (env:=newEnv scope s.heap.objs.size globals (Rg (s.heap.objs.size+1) scope.names []) qual func code Nm builtins)
  _ (λ_ _ _=>rfl) hk a (λ_=>Nm) (λ_=>Nm) _ _
  ⟨⟨⟨_,_,rfl⟩,(Heap.Ns.new s.heap (.type "frame")).keeps (TO _ _),λb o e=>TO _ _ b o (NI _ e),NA _⟩,
   λn c h=>(ok.empty n c (mem_of_lookup h)).1,ok.apart,λn c hm=>(ok.empty n c hm).2⟩ (λo e=>?_)
  d λs' x y=>NC (g _ rfl s' x y))
 haveI:=TO scope.names _ _ _ (Oy (o:={ cls:=.type "frame",data:=.dict #[] }) s.heap rfl);haveI e:=e;replace e:=(this)▸e;injection e with e;subst e;rfl
end
end
noncomputable def az:jx->NX
 |.data=> "data" |.at=> "at" |.stop=> "end" |.top=> "top" |.places=> "places" |.text=> "text" |.octets=> "octets" |.isHex=> "is_hex"
 |.number=> "number" |.generation=> "generation" |.mark=> "mark" |.items=> "items" |.base=> "base" |.shelf=> "shelf" |.table=> "table" |.trailer=> "trailer"
def J0(s:NX):jx:=(([.data,.at,.stop,.top,.places,.text,.octets,.isHex,.number,.generation,.mark,.items,.base,.shelf,.table]:Ni jx).find? λf=>decide (az f=s)).getD .trailer
def jo(f):J0 (az f)=f:=by induction f<;>decide +kernel
def vJ(h:az f=az g):f=g:=(jo f).symm.trans ((NN J0 h).trans (jo g))
structure Lay where
 cls:eX->OO
def Ko(lo hi st:N6):Prop:=lo.natAbs<1152921504606846976/\hi.natAbs<1152921504606846976/\0<st/\st.natAbs<1152921504606846976
noncomputable def aL:Nu:=1073741824
noncomputable def aw(s:Ni Nu):NX:=⟨s.toArray⟩
noncomputable abbrev Fz:=OO->Nt VW
noncomputable abbrev prog:WR:=RX
inductive fB{K:Type}[OY K]{w:Px}(knd:Q4 prog w K)(o:VW)(kvs:Ni (K×Nz)):Prop
 |mk (es:O8 Vu) (ep:Nu) (h1:o.ExactDict) (h2:o.data=.dict es ep) (h3:KeysOf knd es) (h4:Pairs knd es.toList kvs) (h5:(kvs.map (·.1)).Nodup)
def fB.of{K:Type}[OY K]{knd:Q4 prog w K}{h:Heap}{b}(e:h.get? a=xV o)(d:fB knd o b):h.DictOf knd a b:=
 let ⟨es,ep,h1,h2,h3,h4,h5⟩:=d;⟨o,es,ep,e,h1,h2,h3,h4,h5⟩
inductive Bj(fz:Fz)(ty:Ue)(r:Ni Nz->Prop)(x:Nz):Prop
 |mk (a:OO) (xs:O8 Nz) (n:Nu) (e:x=.ref a) (h:fz a=xV { cls:=.type ty,data:=.seq xs n }) (z:xs.size<=aL) (t:r xs.toList)
inductive Nd(w:Px)(fz:Fz)(ks:Ni (Ni Nu))(r:Ni Nz->Prop)(x:Nz):Prop
 |mk (a:OO) (o:VW) (kvs:Ni (NX×Nz)) (e:x=.ref a) (h:fz a=xV o) (z:(a==RI)=Nr) (d:fB (OD prog w) o kvs) (l:kvs.length<=aL) (k:kvs.map (·.1)=ks.map aw/\∀k∈ks,k.length<=aL) (t:r (kvs.map (·.2)))
inductive aaM(cA:eX->OO)(fz:Fz)(c:eX)(n0:Nu)(r:O8 Vu->Prop)(x:Nz):Prop
 |mk (a:OO) (o:VW) (dx:OO) (od:VW) (es:O8 Vu) (n:Nu) (e:x=.ref a) (h1:fz a=xV o) (h2:o.cls=.ref (cA c)) (h3:o.dict=xV dx) (h4:o.data=.plain) (h5:fz dx=xV od) (h6:od.data=.dict es n) (h7:StrKeys es)
   (h8:∀y,(RY es y).isSome->∃f∈aG c,y=az f) (h9:(aG c).length=n0) (h10:r es)
inductive aaN(fz:Fz)(lo hi st:N6)(x:Nz):Prop
 |mk (a:OO) (o:VW) (t u v:Tok) (e:x=.ref a) (h:fz a=xV o) (ho:o={ cls:=Qy "range",data:=Data.fields #[S6 lo t,S6 hi u,S6 st v] }) (k:Ko lo hi st)
section
variable (w:Px)(cA:eX->OO)
mutual
noncomputable def VR(fz:Fz):V->Nz->Prop
 |.none,x=>x=.none
 |.bool b,x=>x=.bool b
 |.int i,x=>∃t,x=.int i t
 |.str s,x=>∃t,x=.str (aw s) t/\s.length<=aL
 |.bytes b,x=>∃a t,x=.bytes a t/\a.toList.map Om=b/\a.size<=aL
 |.tup vs,x=>Bj fz "tuple" (aB fz vs) x
 |.lst vs,x=>Bj fz "list" (aB fz vs) x
 |.ec ks vs,x=>Nd w fz ks (aB fz vs) x
 |.obj c fs,x=>aaM cA fz c fs.length (GX fz (aG c) fs) x
 |.mN lo hi st,x=>aaN fz lo hi st x
 |.ref a,x=>x=.ref a
noncomputable def aB(fz:Fz):Ni V->Ni Nz->Prop
 |[],ys=>ys=[]
 |v::vs,ys=>∃y r,ys=y::r/\VR fz v y/\aB fz vs r
noncomputable def GX(fz:Fz)(F:Ni jx):Ni V->O8 Vu->Prop
 |[],_=>Sl
 |v::vs,es=>match F with
  |f::F=>(∃y,RY es (az f)=xV y/\VR fz v y)/\GX fz F vs es
  |[]=>OH
end
end
section
variable {w:Px}{cA:eX->OO}{fz fz':Fz}
mutual
theorem VR.mono(k:∀a o,fz a=xV o->fz' a=xV o):∀v x,VR w cA fz v x->VR w cA fz' v x
 |.none,_,h=>h
 |.bool _,_,h=>h
 |.int _,_,h=>h
 |.str _,_,h=>h
 |.bytes _,_,h=>h
 |.tup vs,_,h=>by obtain⟨a,xs,n,b,d,g,e⟩:=h;exact⟨a,xs,n,b,k _ _ d,g,aB.mono k vs _ e⟩
 |.lst vs,_,h=>by obtain⟨a,xs,n,b,d,g,e⟩:=h;exact⟨a,xs,n,b,k _ _ d,g,aB.mono k vs _ e⟩
 |.ec ks vs,_,h=>by obtain⟨a,o,j,b,d,i,f,g,e,p⟩:=h;exact⟨a,o,j,b,k _ _ d,i,f,g,e,aB.mono k vs _ p⟩
 |.obj c fs,_,h=>by obtain⟨a,o,dx,y,es,n,b,d,i,f,e,p,q,s,r,l,m⟩:=h;exact⟨a,o,dx,y,es,n,b,k _ _ d,i,f,e,k _ _ p,q,s,r,l,GX.mono k fs _ _ m⟩
 |.mN _ _ _,_,h=>by obtain⟨a,o,t,u,v,b,d,i,f⟩:=h;exact⟨a,o,t,u,v,b,k _ _ d,i,f⟩
 |.ref _,_,h=>h
theorem aB.mono(k:∀a o,fz a=xV o->fz' a=xV o):∀vs xs,aB w cA fz vs xs->aB w cA fz' vs xs
 |[],_,h=>h
 |v::vs,_,h=>by refine aO h ?_;clear h;intro y r d c b;exact⟨y,r,d,VR.mono k v _ c,aB.mono k vs _ b⟩
theorem GX.mono(k:∀a o,fz a=xV o->fz' a=xV o):∀vs F es,GX w cA fz F vs es->GX w cA fz' F vs es
 |[],_,_,_=>trivial
 |v::vs,[],_,h=>h.elim
 |v::vs,f::F,_,h=>by obtain⟨⟨y,d,c⟩,b⟩:=h;exact⟨⟨y,d,VR.mono k v _ c⟩,GX.mono k vs _ _ b⟩
end
def aB.length:∀{vs}{xs},aB w cA fz vs xs->xs.length=vs.length:=by
 intro b;induction b with
 |nil=>intro _ h;rw[show _=[] from h];rfl
 |cons v vs a=>intro _ h;refine aO h ?_;clear h;intro y r c _ d;subst c;rw[Nn];rw[Nn];rw[a d];rfl
def aB.cons(h:VR w cA fz v x)(a:aB w cA fz vs xs):aB w cA fz (v::vs) (x::xs):=by exact⟨x,xs,rfl,h,a⟩
def aB.nil:aB w cA fz [] []:=rfl
def aB.get:∀{vs:Ni V}{xs:Ni Nz}(_:aB w cA fz vs xs){i:Nu}{v:V},vs[i]?=xV v->∃x,xs[i]?=xV x/\VR w cA fz v x:=by
 intro b;induction b with
 |nil=>intro _ _ _ _ e;contradiction
 |cons u vs a=>
  intro _ h i v e;refine aO h ?_;clear h;intro y r c f d;subst c;induction i using Qn with
  |zero=>injection e with e;subst e;exact⟨y,by(rfl),f⟩
  |succ i=>simp at e;simpa using a d e
def aB.append(h:aB w cA fz vs xs)(d:aB w cA fz us ys):aB w cA fz (vs++us) (xs++ys):=by
 induction vs generalizing xs with
 |nil=>cases(h:_=[]);exact d
 |cons v vs c=>refine aO h ?_;clear h;intro y r a e b;subst a;exact aB.cons e (c b)
end
structure bx where
 w:Px
 cA:eX->OO
 qR:OO
 B0:Heap
 B:Heap
 os:QM
 gens:O8 Ua
structure Wd where
 fz:Fz
 dx:OO->OO
def aW(W:Wd)(H:ae)(b:OO):Prop:=(∃x,H b=xV x)\/∃a c fs,H a=xV (.inst c fs)/\W.dx a=b
def f6(W:Wd)(H:ae)(b:OO):Prop:=aW W H b\/∃o,W.fz b=xV o
def aaa(w:Px)(cA:eX->OO)(fz:Fz)(fs:Ni (jx×V))(m:NX->Nt Nz):Prop:=
 (∀f v,ji f fs=xV v->∃x,m (az f)=xV x/\VR w cA fz v x)/\∀y,(m y).isSome->∃f v,y=az f/\ji f fs=xV v
inductive aaK(w:Px)(cA:eX->OO)(fz:Fz)(h:Heap)(a:OO)(ks vs:Ni V):Prop
 |mk (ss:Ni (Ni Nu)) (kvs:Ni (NX×Nz)) (h1:ks=ss.map V.str) (h2:h.DictOf (OD prog w) a kvs) (h3:kvs.map (·.1)=ss.map aw/\∀k∈ss,k.length<=aL) (h4:aB w cA fz vs (kvs.map (·.2)))
inductive aaJ(w:Px)(cA:eX->OO)(fz:Fz)(h:Heap)(a:OO)(ks vs:Ni V):Prop
 |mk (is:Ni N6) (kvs:Ni (N6×Nz)) (h1:ks=is.map V.int) (h2:h.DictOf (SW prog w) a kvs) (h3:kvs.map (·.1)=is) (h4:aB w cA fz vs (kvs.map (·.2)))
def r6(w:Px)(cA:eX->OO)(fz:Fz)(h:Heap)(a:OO)(ks vs:Ni V):Prop:=aaK w cA fz h a ks vs\/aaJ w cA fz h a ks vs
def r6.at(d:r6 w cA fz h a ks vs)(k:∀o,h.get? a=xV o->h'.get? a=xV o)(i:∀a o,fz a=xV o->fz' a=xV o):r6 w cA fz' h' a ks vs:=by
 rcases d with⟨j,b,g,e,c,f⟩|⟨is,b,g,e,c,f⟩
 ·exact .inl ⟨j,b,g,e.at k,c,aB.mono i _ _ f⟩
 ·exact .inr ⟨is,b,g,e.at k,c,aB.mono i _ _ f⟩
def r6.there(d:r6 w cA fz h a ks vs):∃o,h.get? a=xV o:=by rcases d with⟨i,b,g,⟨o,_,_,c,_⟩,e,f⟩|⟨is,b,g,⟨o,_,_,c,_⟩,e,f⟩<;>exact⟨o,c⟩
inductive aaI(P:bx)(W:Wd)(h:Heap)(a:OO)(vs:Ni V):Prop
 |mk (xs:O8 Nz) (n:Nu) (h1:h.get? a=xV { cls:=.type "list",data:=.seq xs n }) (h2:xs.size<=aL) (h3:aB P.w P.cA W.fz vs xs.toList)
inductive aaH(P:bx)(W:Wd)(h:Heap)(a:OO)(c:eX)(fs:Ni (jx×V)):Prop
 |mk (o:VW) (h1:h.get? a=xV o) (h2:o.cls=.ref (P.cA c)) (h3:o.dict=xV (W.dx a)) (h4:o.data=.plain) (m:NX->Nt Nz) (hn:h.Ns1 (W.dx a) m) (hf:aaa P.w P.cA W.fz fs m)
def hO(P:bx)(W:Wd)(h:Heap)(a:OO):dQ->Prop
 |.list vs=>aaI P W h a vs
 |.dict ks vs=>(a==RI)=Nr/\ks.length<=aL/\r6 P.w P.cA W.fz h a ks vs
 |.inst c fs=>aaH P W h a c fs
structure HR(P:bx)(W:Wd)(H:ae)(h:Heap):Prop where
 b0:∀a o,P.B0.get? a=xV o->W.fz a=xV o
 base:P.B.StaysIn h
 fz:∀a o,W.fz a=xV o->h.get? a=xV o
 live:∀a x,H a=xV x->hO P W h a x
 fy:∀b,aW W H b->P.B.get? b=Nm
 dZ:∀b,aW W H b->W.fz b=Nm
 apart:∀a c fs,H a=xV (.inst c fs)->H (W.dx a)=Nm
 inj:∀a c fs a' c' fs',H a=xV (.inst c fs)->H a'=xV (.inst c' fs')->W.dx a=W.dx a'->a=a'
def fw(o:VW)(r:Nt VW):Prop:=r=xV o\/(o.cls=.type "frame" /\ ∃sl,r=xV { o with slots:=sl })
def fw.refl(o):fw o (xV o):=.inl rfl
def fw.trans(x:fw o r)(y:∀b,r=xV b->fw b r'):fw o r':=by
 rcases x with x|⟨c,d,x⟩
 ·exact y _ x
 ·rcases y _ x with y|⟨_,a,y⟩
  ·exact .inr ⟨c,d,y⟩
  ·exact .inr ⟨c,a,y⟩
structure Trans(P:bx)(W:Wd)(H:ae)(s:NJ)(W':Wd)(H':ae)(s':NJ):Prop where
 hr:HR P W' H' s'.heap
 os:s'.os=s.os
 gens:s'.gens=s.gens
 mono:∀a o,W.fz a=xV o->W'.fz a=xV o
 dx:∀a,(∃o,s.heap.get? a=xV o)->W'.dx a=W.dx a
 keep:∀b o,¬ aW W H b->s.heap.get? b=xV o->fw o (s'.heap.get? b)
 own:∀b,f6 W' H' b->f6 W H b\/s.heap.get? b=Nm
 big:∀b o,s.heap.get? b=xV o->∃o',s'.heap.get? b=xV o'
def Trans.refl(h:HR P W H s.heap):Trans P W H s W H s:=
 ⟨h,rfl,rfl,λ_ _ e=>e,λ_ _=>rfl,λ_ o _ e=>by rw[e];exact fw.refl o,λ_ e=>.inl e,λ_ o e=>⟨o,e⟩⟩
section
variable {P:bx}{W W₁ W₂ W₃:Wd}{H H₁ H₂ H₃:ae}{s s₁ s₂ s₃:NJ}
def Trans.gY(x:Trans P W₁ H₁ s₁ W₂ H₂ s₂)(d:¬ aW W₁ H₁ b)(e:s₁.heap.get? b=xV o):¬ aW W₂ H₂ b:=by
 intro c;rcases x.own b (.inl c) with(q|⟨f,q⟩)|q
 ·exact d q
 ·have:=x.hr.dZ b c
  replace this:=(x.mono _ _ q)▸this;exact nomatch this
 ·replace q:=(e)▸q;exact nomatch q
def Trans.fV(x:Trans P W₁ H₁ s₁ W₂ H₂ s₂)(a:¬ f6 W₁ H₁ b)(e:s₁.heap.get? b=xV o):¬ f6 W₂ H₂ b:=by
 intro c;refine ND (x.own b c) (λq=>?_) (λq=>?_)
 ·exact a q
 ·replace q:=(e)▸q;contradiction
def Trans.trans(x:Trans P W₁ H₁ s₁ W₂ H₂ s₂)(y:Trans P W₂ H₂ s₂ W₃ H₃ s₃):Trans P W₁ H₁ s₁ W₃ H₃ s₃:=by
 refine⟨y.hr,y.os.trans x.os,y.gens.trans x.gens,λa o e=>y.mono _ _ (x.mono _ _ e),λa g=>Mine.X1 g λo e=>?_,λb o d e=>?_,λb d=>?_,λb o e=>?_⟩
 ·rw[y.dx a (x.big a o e)];rw[x.dx a ⟨o,e⟩];rfl
 ·exact(x.keep b o d e).trans λc q=>y.keep b c (x.gY d e) q
 ·refine ND (y.own b d) (λq=>?_) (λq=>?_)
  ·exact x.own b q
  ·refine .inr ?_
   induction e:s₁.heap.get? b with
   |none=>rfl
   |some o=>refine X1 (x.big b o e) λc f=>?_;replace q:=(f)▸q;contradiction
 ·refine X1 (x.big b o e) λc f=>?_;exact y.big b c f
def HR.keeps(x:HR P W H h)(k:∀b o,h.get? b=xV o->h'.get? b=xV o):HR P W H h':=
 ⟨x.b0,λb o e=>k _ _ (x.base b o e),λa o e=>k _ _ (x.fz a o e),λa y e=>by
  have:=x.live a y e;induction y with
  |list vs=>obtain⟨xs,n,d,f,g⟩:=this;exact⟨xs,n,k _ _ d,f,g⟩
  |dict ks vs=>refine A3 this λd f g=>?_;exact⟨d,f,g.at (λo e=>k _ _ e) λ_ _ e=>e⟩
  |inst c fs=>obtain⟨o,d,f,g,i,m,l,j⟩:=this;exact⟨o,k _ _ d,f,g,i,m,l.at (λo e=>k _ _ e),j⟩,x.fy,x.dZ,x.apart,x.inj⟩
def Trans.of_keeps(x:HR P W H s.heap)(k:∀b o,s.heap.get? b=xV o->s₁.heap.get? b=xV o)(a:s₁.os=s.os)(c:s₁.gens=s.gens):Trans P W H s W H s₁:=
 ⟨x.keeps k,a,c,λ_ _ e=>e,λ_ _=>rfl,λb o _ e=>by rw[k b o e];exact fw.refl o,λ_ e=>.inl e,λb o e=>⟨o,k b o e⟩⟩
def Trans.tok(x:HR P W H s.heap)(t):Trans P W H s W H { s with toks:=t }:=Trans.of_keeps x (λ_ _ e=>e) rfl rfl
end
def uU(P:bx)(W:Wd)(v:Nt V)(u:Nt Nz):Prop:=match v with
 |none=>Sl
 |some v=>∃x,u=xV x/\VR P.w P.cA W.fz v x
def uU.mono(k:∀a o,W.fz a=xV o->W'.fz a=xV o)(h:uU P W v u):uU P W' v u:=by
 induction v with
 |none=>trivial
 |some v=>refine ah h ?_;clear h;intro x e r;exact⟨x,e,r.mono k⟩
structure FR(P:bx)(pe:NO)(nms:Ni NX)(W:Wd)(H:ae)(h:Heap)(ρ:Env):Prop where
 kind:pe.scope.kind=.function
 yv:pe.globals=O3
 blt:pe.builtins=Q9
 ns:∃m,h.Ns pe.locals m/\∀(i:Nu)(x:NX),nms[i]?=xV x->pe.kindOf x=xV .local->uU P W (ρ[i]?.join) (m x)
 cell:∀(i:Nu)(x:NX),nms[i]?=xV x->(pe.kindOf x=xV .cell\/pe.kindOf x=xV .free)->∃a u,pe.cells.lookup x=xV a/\h.IsCell a u/\uU P W (ρ[i]?.join) u
 wF:¬ f6 W H pe.locals
 jF:∀x a,pe.cells.lookup x=xV a->¬ f6 W H a/\a≠pe.locals/\∃u,h.IsCell a u
 vi:∀x y a,pe.cells.lookup x=xV a->pe.cells.lookup y=xV a->x=y
 nodup:nms.Nodup
def Heap.Ns.same{h d:Heap}(c:h.Ns a m)(k:∀o,h.get? a=xV o->fw o (d.get? a)):d.Ns a m:=by
 refine jc c ?_;clear c;intro o es b e hd r;rcases k o e with q|⟨_,f,q⟩
 ·exact⟨o,es,b,q,hd,r⟩
 ·exact⟨_,es,b,q,hd,r⟩
def IsCell.same{h c:Heap}(b:h.IsCell a u)(k:∀o,h.get? a=xV o->fw o (c.get? a)):c.IsCell a u:=by
 refine ah b ?_;clear b;intro o d hd;rcases k o d with q|⟨_,e,q⟩
 ·exact⟨o,q,hd⟩
 ·exact⟨_,q,hd⟩
def FR.step(F:FR P pe nms W H s.heap ρ)(x:Trans P W H s W' H' s'):FR P pe nms W' H' s'.heap ρ:=by
 refine ah F.ns λm g k=>?_;haveI hL:∃o,s.heap.get? pe.locals=xV o:=by refine gC g ?_;clear g;intro o _ _ h _;exact⟨o,h⟩
 refine X1 hL ?_;clear hL;intro n hL;refine⟨F.kind,F.yv,F.blt,⟨m,Heap.Ns.same g λo e=>x.keep _ o (λq=>F.wF (.inl q)) e,λi y b c=>(k i y b c).mono x.mono⟩,λi y b c=>?_,x.fV F.wF hL,λy a e=>?_,F.vi,F.nodup⟩
 ·refine aO (F.cell i y b c) λa u d j l=>?_
  exact⟨a,u,d,IsCell.same j λo e=>x.keep _ o (λq=>(F.jF y a d).1 (.inl q)) e,l.mono x.mono⟩
 ·refine(F.jF y a e).elim λb f=>f.elim λc f=>f.elim λu d=>?_
  refine ah (id d) λo h hd=>?_;exact⟨x.fV b h,c,u,IsCell.same d λo e=>x.keep _ o (λq=>b (.inl q)) e⟩
structure Cx(P:bx)(A:Oj)(n:Nu)(W:Wd)(H:ae)(h:Heap):Prop where
 hd:A.handled=Nm
 depth:A.depth+4 * n+2<=900
 units:A.units+16 * n+8<=5000
 frames:∃l,A.frames=xV l/\h.FunFrames P.B l/\∀e∈l,∀L,e.frame=xV L->¬ f6 W H L
 lP:∀l,A.frames=xV l->∀e∈l,∀L,e.frame=xV L->GK h L/\NoC h L
def FunFrames.same{h g B:Heap}:∀{l},h.FunFrames B l->(∀e∈l,∀L,e.frame=xV L->∀o,h.get? L=xV o->fw o (g.get? L))->g.FunFrames B l:=by
 intro c;induction c with
 |nil=>intro _ _;exact trivial
 |cons e r b=>
  intro a k;refine A3 a ?_;clear a;intro hk a hr;refine e9 a ?_;clear a;intro L o f i m hd;refine⟨hk,?_,b hr λj d=>k j (.tail _ d)⟩;rcases k e (.head _) L f o m with q|⟨_,n,q⟩
  ·exact⟨L,o,f,i,q,hd⟩
  ·exact⟨L,_,f,i,q,hd⟩
def FunFrames.there{h B:Heap}:h.FunFrames B l->∀e∈l,∀L,e.frame=xV L->∃o,h.get? L=xV o/\(∀vs,o.data≠.fields vs)/\B.get? L=Nm:=by
 induction l with
 |nil=>exact λ_ e he=>(by contradiction)
 |cons e r j=>
  intro c f b d a;rcases NH.mp b with q|q
  ·refine e9 c.2.1 λL o k g i hd=>?_
   rw[q,k] at a;injection a with a;subst a;exact⟨o,i,hd,g⟩
  ·exact j c.2.2 f q d a
section
variable {P:bx}{A:Oj}{n:Nu}{W W':Wd}{H H':ae}{s s':NJ}
def Cx.step(C:Cx P A n W H s.heap)(x:Trans P W H s W' H' s'):Cx P A n W' H' s'.heap:=by
 refine a9 C.frames λl g h f=>?_;refine⟨C.hd,C.depth,C.units,⟨l,g,FunFrames.same h λe he L hL o b=>x.keep _ o (λq=>f e he L hL (.inl q)) b,λe he L hL=>?_⟩,λl' d e he L hL=>?_⟩
 ·refine a9 (FunFrames.there h e he L hL) λo b _ _=>?_
  exact x.fV (f e he L hL) b
 ·replace d:=(g)▸d;injection d with d;subst d
  refine a9 (FunFrames.there h e he L hL) λo b _ _=>?_;refine A2 (C.lP l g e he L hL) λi c=>?_;refine⟨λj a=>?_,λj u a=>?_⟩
  ·rcases x.keep L o (λq=>f e he L hL (.inl q)) b with q|⟨_,k,q⟩
   ·replace a:=(q)▸a;injection a with a;subst a;exact i o b
   ·replace a:=(q)▸a;injection a with a;subst a;exact i o b
  ·rcases x.keep L o (λq=>f e he L hL (.inl q)) b with q|⟨_,k,q⟩
   ·replace a:=(q)▸a;injection a with a;subst a;exact c o u b
   ·replace a:=(q)▸a;injection a with a;subst a;exact c o u b
end
structure At(P:bx)(A:Oj)(n:Nu)(pe:NO)(nms:Ni NX)(W:Wd)(H:ae)(s:NJ)(ρ:Env):Prop where
 hr:HR P W H s.heap
 cx:Cx P A n W H s.heap
 fr:FR P pe nms W H s.heap ρ
def At.step(a:At P A n pe nms W H s ρ)(x:Trans P W H s W' H' s'):At P A n pe nms W' H' s' ρ:=
 ⟨x.hr,a.cx.step x,a.fr.step x⟩
def bC(P:bx)(W:Wd)(H:ae)(s:NJ)(S:β->Wd->ae->NJ->Prop):β->NJ->Prop:=
 λy s'=>∃W' H',Trans P W H s W' H' s'/\S y W' H' s'
def SV(P:bx)(Q:av):Nz->Wd->ae->NJ->Prop:=λx W H _=>∃v,VR P.w P.cA W.fz v x/\Q v H
def SVs(P:bx)(Q:Ni V->ae->Prop):Ni Nz->Wd->ae->NJ->Prop:=λxs W H _=>∃vs,aB P.w P.cA W.fz vs xs/\Q vs H
def ST(Q:NF->ae->Prop):NF->Wd->ae->NJ->Prop:=λb _ H _=>Q b H
inductive pG(P:bx)(l:Ni NO)(h:Heap)(e:Nz):Prop
 |fly (a:OO) (a0:Nz) (he:e=.ref a) (x:Heap.FlyingW P.B l a (.ref P.qR) a0 h)
 |held (a:OO) (a0:Nz) (he:e=.ref a) (en:NO) (r:Ni NO) (L:OO) (hl:l=en::r) (hf:en.frame=xV L) (x:UX P.B l a (.ref P.qR) a0 L h)
 |new (a:OO) (a0:Nz) (he:e=.ref a) (x1:P.B.StaysIn h) (x2:P.B.get? a=Nm) (x3:h.FunFrames P.B l) (oe:VW) (vs:O8 Nz) (x4:h.get? a=xV oe) (x5:oe.cls=.ref P.qR) (x6:oe.data=.fields vs) (x7:vs[1]?=xV .none) (x8:vs[0]?=xV a0)
def cy(P:bx)(A:Oj)(W:Wd)(H:ae)(s:NJ)(X:Prop):Nz->NJ->Prop:=
 λe s'=>X/\s'.os=s.os/\s'.gens=s.gens/\(∃l,A.frames=xV l/\pG P l s'.heap e) /\
  ∀b o,¬ aW W H b->s.heap.get? b=xV o->(∀vs,o.data≠.fields vs)->∃sl,s'.heap.get? b=xV { o with slots:=sl }
section
variable {α β:Type}
def bC.up(x:Trans P W H s W' H' s')(h:bC P W' H' s' S y s''):bC P W H s S y s'':=by refine bo h ?_;clear h;intro W₂ H₂ t r;exact⟨W₂,H₂,x.trans t,r⟩
def cy.up(x:Trans P W H s W' H' s')(h:cy P A W' H' s' X e s''):cy P A W H s X e s'':=by
 refine A5 h ?_;clear h;intro l k g j f;refine⟨l,k.trans x.os,g.trans x.gens,j,λb o a e d=>?_⟩;rcases x.keep b o a e with q|⟨_,m,q⟩
 ·exact f b o (x.gY a e) q d
 ·refine X1 (f b _ (x.gY a e) q d) λc i=>?_
  exact⟨c,i⟩
def qT(x:Trans P W H s W' H' s')(h:ON M A t (bC P W' H' s' S) (cy P A W' H' s' X) s'):
  ON M A t (bC P W H s S) (cy P A W H s X) s':=N4 h (λ_ _ q=>q.up x) λ_ _ q=>q.up x
def cf{K:α->NJ->Prop}(h:ON M A m (bC P W H s S) (cy P A W H s X) s)(k:∀W' H' s' x,Trans P W H s W' H' s'->S x W' H' s'->K x s'):ON M A m K (cy P A W H s X) s:=
 N4 h (λx s' a=>Mine.bo a λW' H' t r=>k W' H' s' x t r) λ_ _ q=>q
def bC.here(x:HR P W H s.heap)(h:S y W H s):bC P W H s S y s:=⟨W,H,Trans.refl x,h⟩
def bC.tok(x:HR P W H s.heap)(h:S y W H { s with toks:=t }):bC P W H s S y { s with toks:=t }:=⟨W,H,Trans.tok x t,h⟩
end
section
variable {P:bx}{W:Wd}{H:ae}{s:NJ}
def HR.cI(x:HR P W H s.heap):P.B.get? s.heap.objs.size=Nm/\W.fz s.heap.objs.size=Nm/\¬ aW W H s.heap.objs.size:=by
 have no:∀o,s.heap.get? s.heap.objs.size≠xV o:=λo e=>P4 _ (Oz e);refine⟨?_,?_,?_⟩
 ·induction e:P.B.get? s.heap.objs.size with
  |none=>rfl
  |some o=>exact NK (x.base _ _ e) (no o)
 ·induction e:W.fz s.heap.objs.size with
  |none=>rfl
  |some o=>exact NK (x.fz _ _ e) (no o)
 ·rintro(⟨y,e⟩|⟨a,c,fs,e,q⟩)
  ·have:=x.live _ _ e
   clear e;induction y with
   |list vs=>obtain⟨_,_,b,_⟩:=this;exact no _ b
   |dict ks vs=>refine X1 this.2.2.there λo b=>?_;exact no o b
   |inst c fs=>obtain⟨o,b,_⟩:=this;exact no o b
  ·haveI:=x.live _ _ e
   obtain⟨_,_,_,_,_,m,f,_⟩:=this;refine gC f ?_;clear f;intro o _ _ d _;rw[q] at d;exact no o d
def HR.dm(x:HR P W H h)(k:aW W H b):∃o,h.get? b=xV o:=by
 refine ND (k) (λd=>?_) (λf=>?_)
 ·refine X1 d ?_;clear d;intro y e
  haveI:=x.live _ _ e;clear e;induction y with
  |list vs=>obtain⟨_,_,g,_⟩:=this;exact⟨_,g⟩
  |dict ks vs=>exact this.2.2.there
  |inst c fs=>obtain⟨o,g,_⟩:=this;exact⟨o,g⟩
 ·refine gC f ?_;clear f;intro a c fs e q
  obtain⟨_,_,_,_,_,m,i,_⟩:=x.live _ _ e;refine gC i ?_;clear i;intro o _ _ j _;exact⟨o,q▸j⟩
def hO.keeps(k:∀b o,h.get? b=xV o->h'.get? b=xV o)(p:∀b o,W.fz b=xV o->W'.fz b=xV o)(kd:W'.dx a=W.dx a)(l:hO P W h a y):hO P W' h' a y:=by
 induction y with
 |list vs=>obtain⟨xs,n,d,t,g⟩:=l;exact⟨xs,n,k _ _ d,t,aB.mono p _ _ g⟩
 |dict ks vs=>refine A3 l ?_;clear l;intro d i j;exact⟨d,i,j.at (λo e=>k _ _ e) p⟩
 |inst c fs=>obtain⟨o,d,i,j,g,m,w,s,r⟩:=l;refine⟨o,k _ _ d,i,by rw[kd];exact j,g,m,by rw[kd];exact w.at (λo e=>k _ _ e),λf v e=>?_,r⟩;refine ah (s f v e) λz u q=>?_;exact⟨z,u,q.mono p⟩
noncomputable def Wd.add(W:Wd)(a:OO)(o:VW):Wd:={ W with fz:=λb=>if b=a then xV o else W.fz b }
def Wd.bP(W:Wd)(a)(o):(W.add a o).fz a=xV o:=Np rfl
def Wd.bQ(h:W.fz a=Nm):∀b c,W.fz b=xV c->(W.add a o).fz b=xV c:=λb c e=>by refine(?_:(if b=a then xV o else W.fz b)=xV c);rw[Nl (λq=>by rw[q,h] at e;contradiction)];exact e
def Trans.alloc(x:HR P W H s.heap)(j:o.isFreed=Nr):Trans P W H s (W.add s.heap.objs.size o) H { s with heap:=s.heap.push o }:=by
 refine A3 x.cI λl i g=>?_;have k:∀b c,s.heap.get? b=xV c->(s.heap.push o).get? b=xV c:=λb c e=>NI o e;haveI f:=Wd.bQ (o:=o) i;refine⟨⟨λa c e=>f _ _ (x.b0 a c e),λb c e=>k _ _ (x.base b c e),λa c e=>?_,λa y e=>(x.live a y e).keeps k f rfl,x.fy,λb d=>?_,x.apart,x.inj⟩,rfl,rfl,f,λ_ _=>rfl,
  λb c _ e=>by rw[k b c e];exact fw.refl c,λb d=>?_,λb c e=>⟨c,k _ _ e⟩⟩
 ·refine(?_:(s.heap.push o).get? a=xV c)
  haveI e:(if a=s.heap.objs.size then xV o else W.fz a)=xV c:=e;by_cases q:a=s.heap.objs.size
  ·replace e:=(Np q)▸e;injection e with e;subst e;rw[q];exact Oy _ j
  ·rw[Nl q] at e;exact k _ _ (x.fz _ _ e)
 ·refine(?_:(if b=s.heap.objs.size then xV o else W.fz b)=Nm)
  rw[Nl (λ(q:b=s.heap.objs.size)=>g (q▸d))];exact x.dZ b d
 ·rcases d with d|⟨c,e⟩
  ·exact .inl (.inl d)
  ·haveI e:(if b=s.heap.objs.size then xV o else W.fz b)=xV c:=e
   by_cases q:b=s.heap.objs.size
   ·refine .inr ?_
    rw[q];induction h:s.heap.get? s.heap.objs.size with
    |none=>rfl
    |some z=>exact NK (Oz h) (P4 _)
   ·rw[Nl q] at e;exact .inl (.inr ⟨c,e⟩)
def eK(h:Heap):h.get? h.objs.size=Nm:=by
 induction a:h.get? h.objs.size with
 |none=>rfl
 |some z=>exact NK (Oz a) (P4 _)
def gZ:dQ->Prop
 |.inst _ _=>OH
 | _=>Sl
def HR.J2(x:HR P W H s.heap):H s.heap.objs.size=Nm:=by
 induction e:H s.heap.objs.size with
 |none=>rfl
 |some y=>exact NK (.inl ⟨y,e⟩) x.cI.2.2
def aW.set(j:gZ y)(h:aW W (H.set a y) b):b=a\/aW W H b:=by
 refine ND (h) (λd=>?_) (λf=>?_)
 ·refine X1 d ?_;clear d;intro z e
  by_cases i:b=a
  ·exact .inl i
  ·exact .inr (.inl ⟨z,by rewrite [<- Nl (e:=H b) i];exact e⟩)
 ·refine gC f ?_;clear f;intro c k fs e q
  by_cases g:c=a
  ·haveI e:(if c=a then xV y else H c)=xV (.inst k fs):=e
   replace e:=(Np g)▸e;injection e with e;clear h;subst e;exact j.elim
  ·exact .inr (.inr ⟨c,k,fs,by rewrite [<- Nl (e:=H c) g];exact e,q⟩)
def Trans.live(x:HR P W H s.heap)(j:gZ y)(l:hO P W (s.heap.push o) s.heap.objs.size y):
  Trans P W H s W (H.set s.heap.objs.size y) { s with heap:=s.heap.push o }:=by
 refine A3 x.cI λv t p=>?_;have k:∀b f,s.heap.get? b=xV f->(s.heap.push o).get? b=xV f:=λb f e=>NI o e;have out:∀{a:OO},a≠s.heap.objs.size->(H.set s.heap.objs.size y) a=H a:=λh=>Nl h;have d:∀a c fs,(H.set s.heap.objs.size y) a=xV (.inst c fs)->a≠s.heap.objs.size/\H a=xV (.inst c fs):=by
  intro a c fs e;haveI e:(if a=s.heap.objs.size then xV y else H a)=xV (.inst c fs):=e;by_cases q:a=s.heap.objs.size
  ·replace e:=(Np q)▸e;injection e with e;clear l out;subst e;exact j.elim
  ·replace e:=(Nl q)▸e;exact⟨q,e⟩
 refine⟨⟨x.b0,λb f e=>k _ _ (x.base b f e),λa f e=>k _ _ (x.fz a f e),λa z e=>?_,λb g=>?_,λb g=>?_,λa c fs e=>?_,λa c fs n m i e u q=>?_⟩,rfl,rfl,λ_ _ e=>e,λ_ _=>rfl,
  λb f _ e=>by rw[k b f e];exact fw.refl f,λb g=>?_,λb f e=>⟨f,k _ _ e⟩⟩
 ·by_cases q:a=s.heap.objs.size
  ·haveI e:(if a=s.heap.objs.size then xV y else H a)=xV z:=e
   replace e:=(Np q)▸e;injection e with e;subst e;rw[q];exact l
  ·rw[out q] at e;exact(x.live a z e).keeps k (λ_ _ e=>e) rfl
 ·refine ND (aW.set j g) (λq=>?_) (λq=>?_)
  ·rw[q];exact v
  ·exact x.fy b q
 ·refine ND (aW.set j g) (λq=>?_) (λq=>?_)
  ·rw[q];exact t
  ·exact x.dZ b q
 ·refine A2 (d a c fs e) λq e=>?_
  rewrite [out λr=>?_]
  ·exact x.apart a c fs e
  ·exact p (.inr ⟨a,c,fs,e,r⟩)
 ·exact x.inj a c fs n m i (d a c fs e).2 (d n m i u).2 q
 ·rcases g with g|g
  ·refine ND (aW.set j g) (λq=>?_) (λq=>?_)
   ·rw[q];exact .inr (eK _)
   ·exact .inl (.inl q)
  ·exact .inl (.inr g)
def Trans.change(x:HR P W H s.heap)(w:H a=xV y₀)(j:gZ y₀)(t:gZ y)(G:Po a s.heap h')(v:hO P W h' a y):
  Trans P W H s W (H.set a y) { s with heap:=h',toks:=tk }:=by
 have g:aW W H a:=.inl ⟨_,w⟩;have k:=G.2;haveI E:∀b o,¬ aW W H b->s.heap.get? b=xV o->h'.get? b=xV o:=λb o f e=>(k b λq=>f (q▸g)).trans e;have h:∀c cl fs,H c=xV (.inst cl fs)->c≠a/\W.dx c≠a:=λc cl fs e=>
  ⟨λq=>by rw[q,w] at e;injection e with e;subst e;exact j.elim,λq=>by have:=x.apart c cl fs e;rw[q,w] at this;cases this⟩
 have d:∀b c fs,(H.set a y) b=xV (.inst c fs)->b≠a/\H b=xV (.inst c fs):=by
  intro b c fs e;haveI e:(if b=a then xV y else H b)=xV (.inst c fs):=e;by_cases q:b=a
  ·replace e:=(Np q)▸e;injection e with e;clear v;subst e;exact t.elim
  ·rw[Nl q] at e;exact⟨q,e⟩
 refine⟨⟨x.b0,λb o e=>(k b λq=>by rw[q,x.fy a g] at e;exact nomatch e).trans (x.base b o e),λb o e=>(k b λq=>by rw[q,x.dZ a g] at e;exact nomatch e).trans (x.fz b o e),λb z e=>?_,λb f=>?_,λb f=>?_,
  λb c fs e=>?_,λb c fs C B p e A q=>?_⟩,rfl,rfl,λ_ _ e=>e,λ_ _=>rfl,λb o f e=>.inl (E b o f e),λb f=>?_,λb o e=>?_⟩
 ·by_cases q:b=a
  ·haveI e:(if b=a then xV y else H b)=xV z:=e
   replace e:=(Np q)▸e;injection e with e;subst e;rw[q];exact v
  ·haveI e:(if b=a then xV y else H b)=xV z:=e
   replace e:=(Nl q)▸e;haveI l:=x.live b z e;induction z with
   |list vs=>obtain⟨xs,n,i,r,u⟩:=l;exact⟨xs,n,(k b q).trans i,r,u⟩
   |dict ks vs=>refine A3 l ?_;clear l;intro i r u;exact⟨i,r,u.at (λo e=>(k b q).trans e) λ_ _ e=>e⟩
   |inst c fs=>obtain⟨o,i,r,u,D,m,F,I⟩:=l;haveI nd:=(h b c fs e).2;refine⟨o,(k b q).trans i,r,u,D,m,F.at (λJ A=>(k _ nd).trans A),I⟩
 ·refine ND (aW.set t f) (λq=>?_) (λq=>?_)
  ·rw[q];exact x.fy a g
  ·exact x.fy b q
 ·refine ND (aW.set t f) (λq=>?_) (λq=>?_)
  ·rw[q];exact x.dZ a g
  ·exact x.dZ b q
 ·refine A2 (d b c fs e) λq e=>?_
  exact(Nl (h b c fs e).2).trans (x.apart b c fs e)
 ·exact x.inj b c fs C B p (d b c fs e).2 (d C B p A).2 q
 ·rcases f with f|f
  ·refine ND (aW.set t f) (λq=>?_) (λq=>?_)
   ·rw[q];exact .inl (.inl g)
   ·exact .inl (.inl q)
  ·exact .inl (.inr f)
 ·by_cases q:b=a
  ·have:∃o,h'.get? a=xV o:=by
    clear d;induction y with
    |list vs=>obtain⟨_,_,i,_⟩:=v;exact⟨_,i⟩
    |dict ks vs=>exact v.2.2.there
    |inst c fs=>exact t.elim
   rw[q];exact this
  ·exact⟨o,(k b q).trans e⟩
end
noncomputable def K8:Ni NX:=[("WHITE" : NX),("DELIMITERS" : NX),("LINE_FEED" : NX),("RETURN" : NX),("COMMENT" : NX),("MOST_FIGURES_cursor" : NX),("MOST_FIGURES_decimals" : NX),("PLUS" : NX),("MINUS" : NX),("POINT" : NX),("ZERO" : NX),("MOST_HOPS" : NX),("MOST_NESTED" : NX),("MOST_NUMBER" : NX),("BACKSLASH_writer" : NX),("OPEN_BRACKET" : NX),("CLOSE_BRACKET" : NX),("CARRIAGE" : NX),("NUMBER_SIGN" : NX),("HEX_FIGURES" : NX),("MOST_FIGURES_OF_LINES" : NX),("PAREN" : NX),("CLOSE_PAREN" : NX),("LESS" : NX),("GREATER" : NX),("SLASH" : NX),("BACKSLASH_lexer" : NX),("HASH" : NX),("SIGNS" : NX),("MOST_DEPTH" : NX)]
noncomputable def Ai(i:Nu):NX:=K8.getD i ""
noncomputable def Di:Ni (NX×Nz):=[("len",.builtin "len"),("abs",.builtin "abs"),("str",.type "str"),("int",.type "int"),("chr",.builtin "chr"),("ord",.builtin "ord"),("bytes",.type "bytes"),("tuple",.type "tuple"),
 ("list",.type "list"),("sorted",.builtin "sorted"),("max",.builtin "max"),("min",.builtin "min"),("range",.type "range"),("isinstance",.builtin "isinstance"),("bool",.type "bool"),("dict",.type "dict"),("Exception",.type "Exception")]
structure PG(P:bx)(mg mb:NX->Nt Nz):Prop where
 lim:P.B0.NoLimit
 g:P.B0.Ns O3 mg
 b:P.B0.Ns Q9 mb
 bi:∀x v,(x,v)∈Di->mg x=Nm/\mb x=xV v
 glob:∀i,i<30->∃x,mg (Ai i)=xV x/\VR P.w P.cA P.B0.get? (vM i) x
abbrev bk(P:bx)(A:Oj)(t:XQ α)(Q:α->NJ->Prop)(E:Nz->NJ->Prop)(s:NJ):Prop:=ON (PJ prog P.w) A t Q E s
def SE(P:bx)(n:Nu)(pe:NO)(nms:Ni NX)(e:Expr)(c:aF):Prop:=
 ∀A ρ W H s (Q:av) (X:Prop),At P A n pe nms W H s ρ->cL (call n) c ρ H Q X->bk P A (eval e pe) (bC P W H s (SV P Q)) (cy P A W H s X) s
def Bi(P:bx)(n:Nu)(pe:NO)(nms:Ni NX)(es:Ni Expr)(cs:cS):Prop:=
 ∀A ρ W H s (Q:Ni V->ae->Prop) (X:Prop),At P A n pe nms W H s ρ->mn (call n) cs ρ H Q X->∀pos,bk P A (WV (Rl pos (PW es pe))) (bC P W H s (SVs P λvs H=>vs.length=es.length/\Q vs H)) (cy P A W H s X) s
def lq(P:bx)(n:Nu)(pe:NO)(nms:Ni NX)(e:Expr)(c:dk):Prop:=
 ∀A ρ W H s (Q:NF->ae->Prop) (X:Prop),At P A n pe nms W H s ρ->rY (call n) c ρ H Q X->bk P A (isTrue e pe (eval e pe)) (bC P W H s (ST Q)) (cy P A W H s X) s
section
variable {P:bx}{mg mb:NX->Nt Nz}{n:Nu}{pe:NO}{nms:Ni NX}{A:Oj}{ρ:Env}{W:Wd}{H:ae}{s:NJ}{Q:av}{X:Prop}
def C5(h:HR P W H s.heap)(a:VR P.w P.cA W.fz v x)(q:Q v H):bC P W H s (SV P Q) x s:=bC.here h ⟨v,a,q⟩
def cQ(h:HR P W H s.heap)(a:VR P.w P.cA W.fz v x)(q:Q v H):bC P W H s (SV P Q) x { s with toks:=t }:=bC.tok h ⟨v,a,q⟩
def VR.bV(i)(t):VR w cA fz (.int i) (.int i t):=⟨t,rfl⟩
def VR.nZ(b):VR w cA fz (.bool b) (.bool b):=rfl
def VR.of_none:VR w cA fz .none .none:=rfl
def VR.fW(h:x.length<=aL)(t):VR w cA fz (.str x) (.str (aw x) t):=by exact⟨t,rfl,h⟩
def VR.qi(a):VR w cA fz (.ref a) (.ref a):=rfl
def VR.int_inv(h:VR w cA fz (.int i) x):∃t,x=.int i t:=h
def VR.bool_inv(h:VR w cA fz (.bool b) x):x=.bool b:=h
def VR.none_inv(h:VR w cA fz .none x):x=.none:=h
def VR.str_inv(h:VR w cA fz (.str l) x):∃t,x=.str (aw l) t/\l.length<=aL:=h
def VR.ct(h:VR w cA fz (.ref a) x):x=.ref a:=h
def VR.bR(h:VR w cA fz (.bytes l) x):∃a t,x=.bytes a t/\a.toList.map Om=l/\a.size<=aL:=h
section
variable {w:Px}{cA:eX->OO}{fz:Fz}{x:Nz}{M:V->Nz->Prop}{N:Nz->Prop}{α:Type}{u:α}
def H6(h:match o with|some (xV v)=>Q v H| _=>OH):∃v,o.join=xV v/\Q v H:=match o,h with|some (xV v),h=>⟨v,rfl,h⟩
def aM(h:eY o k):∃v,o=xV v/\k v:=match o,h with|some v,h=>⟨v,rfl,h⟩
def gA{P:Prop}(h:Nm=xV u):P:=by contradiction
@[elab_as_elim] def VR.pP(h:VR w cA fz (.int i) x)(K:∀t,N (.int i t)):N x:=by refine X1 h.int_inv ?_;intro t a;clear h;subst a;exact K t
@[elab_as_elim] def VR.mS(h:VR w cA fz (.str l) x)(K:∀t,l.length<=aL->N (.str (aw l) t)):N x:=by refine ah h.str_inv ?_;intro t a z;clear h;subst a;exact K t z
@[elab_as_elim] def VR.Kn(h:VR w cA fz (.ref a) x)(K:N (.ref a)):N x:=by cases h.ct;exact K
@[elab_as_elim] def VR.gH(h:VR w cA fz (.bytes l) x)(K:∀a t,a.toList.map Om=l->a.size<=aL->N (.bytes a t)):N x:=by refine bo h.bR ?_;intro a t b z;clear h;subst b;exact K a t z.1 z.2
@[elab_as_elim] def VR.qP(h:VR w cA fz (.tup l) x)(K:∀a xs n,fz a=xV { cls:=.type "tuple",data:=.seq xs n }->xs.size<=aL->aB w cA fz l xs.toList->N (.ref a)):N x:=by obtain⟨a,t,n,rfl,b,d,c⟩:=h;exact K a t n b d c
def VR.uu(c:fz a=xV { cls:=.type "tuple",data:=.seq xs n })(b:xs.size<=aL)(d:aB w cA fz l xs.toList):VR w cA fz (.tup l) (.ref a):=by exact⟨a,xs,n,rfl,c,b,d⟩
def VR.LS(c:fz a=xV { cls:=.type "list",data:=.seq xs n })(b:xs.size<=aL)(d:aB w cA fz l xs.toList):VR w cA fz (.lst l) (.ref a):=by exact⟨a,xs,n,rfl,c,b,d⟩
def VR.Fd(h:a.toList.map Om=l)(z:a.size<=aL):VR w cA fz (.bytes l) (.bytes a t):=by exact⟨a,t,rfl,h,z⟩
@[elab_as_elim] def wc{M:V->Prop}(h:kI v k=xV u)(K:∀i,k i=xV u->M (.int i)):M v:=by induction v using Mine.V.casesOn<;>first|exact K _ h|exact gA h
@[elab_as_elim] def rL{M:V->Prop}(h:kS v k=xV u)(K:∀i,k i=xV u->M (.str i)):M v:=by induction v using Mine.V.casesOn<;>first|exact K _ h|exact gA h
@[elab_as_elim] def Lq{M:V->Prop}(h:kB v k=xV u)(K:∀i,k i=xV u->M (.bytes i)):M v:=by induction v using Mine.V.casesOn<;>first|exact K _ h|exact gA h
@[elab_as_elim] def EA{M:V->Prop}(h:kT v k=xV u)(K:∀i,k i=xV u->M (.tup i)):M v:=by induction v using Mine.V.casesOn<;>first|exact K _ h|exact gA h
@[elab_as_elim] def abK{M:V->Prop}(h:kL v k=xV u)(K:∀i,k i=xV u->M (.lst i)):M v:=by induction v using Mine.V.casesOn<;>first|exact K _ h|exact gA h
@[elab_as_elim] def aeD{M:V->Prop}(h:kD v k=xV u)(K:∀a b,k a b=xV u->M (.ec a b)):M v:=by induction v using Mine.V.casesOn<;>first|exact K _ _ h|exact gA h
@[elab_as_elim] def LC{M:V->Prop}(h:kR v k=xV u)(K:∀i,k i=xV u->M (.ref i)):M v:=by induction v using Mine.V.casesOn<;>first|exact K _ h|exact gA h
@[elab_as_elim] def cH(h:kI v k=xV u)(a:VR w cA fz v x)(K:∀i t,k i=xV u->M (.int i) (.int i t)):M v x:=wc h (λi e a=>VR.pP a λt=>K i t e) a
@[elab_as_elim] def B6(h:kS v k=xV u)(a:VR w cA fz v x)(K:∀i t,k i=xV u->i.length<=aL->M (.str i) (.str (aw i) t)):M v x:=rL h (λi e a=>VR.mS a λt z=>K i t e z) a
@[elab_as_elim] def HX(h:kB v k=xV u)(b:VR w cA fz v x)(K:∀a t,k (a.toList.map Om)=xV u->a.size<=aL->M (.bytes (a.toList.map Om)) (.bytes a t)):M v x:=Lq h (λi e b=>VR.gH b λa t c d=>by subst c;exact K a t e d) b
@[elab_as_elim] def LG(h:kR v k=xV u)(b:VR w cA fz v x)(K:∀a,k a=xV u->M (.ref a) (.ref a)):M v x:=LC h (λi e b=>VR.Kn b (K i e)) b
def BX{G:Prop}(h:hL o k=xV u)(K:∀l,o=xV (.list l)->k l=xV u->G):G:=by
 induction o with
 |none=>exact gA h
 |some o=>
  induction o with
  |list l=>exact K l rfl h
  | _=>exact gA h
@[elab_as_elim] def aB.kO{M:Ni Nz->Prop}(h:aB w cA fz [] xs)(K:M []):M xs:=by cases(h:_=[]);exact K
@[elab_as_elim] def aB.eA{M:Ni Nz->Prop}(h:aB w cA fz (v::vs) xs)(K:∀y r,VR w cA fz v y->aB w cA fz vs r->M (y::r)):M xs:=by refine aO h ?_;clear h;intro y r c a b;subst c;exact K y r a b
@[elab_as_elim] def jK{xs}{M:Ni V->Ni Nz->Prop}(h:k1 vs k=xV u)(c:aB w cA fz vs xs)(K:∀v y,k v=xV u->VR w cA fz v y->M [v] [y]):M vs xs:=by
 cases vs with
 |nil=>exact gA h
 |cons v r=>
  cases r with
  |nil=>exact aB.eA c λy r a b=>aB.kO b (K v y h a)
  |cons _ _=>exact gA h
@[elab_as_elim] def abt{xs}{M:Ni V->Ni Nz->Prop}(h:k2 vs k=xV u)(f:aB w cA fz vs xs)(K:∀v v' y c,k v v'=xV u->VR w cA fz v y->VR w cA fz v' c->M [v,v'] [y,c]):M vs xs:=by
 cases vs with
 |nil=>exact gA h
 |cons v r=>
 cases r with
 |nil=>exact gA h
 |cons v' r=>
 induction r with
 |cons _ _=>exact gA h
 |nil=>exact aB.eA f λy r a b=>aB.eA b λc g e d=>aB.kO d (K v v' y c h a e)
@[elab_as_elim] def aN{M:α->Prop}(h:xV v=xV u)(K:M v):M u:=N1 h▸K
@[elab_as_elim] def b9[Pw c]{v:α}{M:α->Prop}(h:(if c then xV v else Nm)=xV u)(K:c->M v):M u:=by
 by_cases q:c
 ·rw[Np q] at h;exact aN h (K q)
 ·rw[Nl q] at h;exact gA h
@[elab_as_elim] def Es[Pw c]{v:α}{M:α->Prop}(h:(if c then Nm else xV v)=xV u)(K:¬c->M v):M u:=by
 by_cases q:c
 ·rw[Np q] at h;exact gA h
 ·rw[Nl q] at h;exact aN h (K q)
def ky[Pw c]{G:Prop}(h:(if c then o else Nm)=xV u)(K:c->o=xV u->G):G:=by
 by_cases q:c
 ·rw[Np q] at h;exact K q h
 ·rw[Nl q] at h;exact gA h
@[elab_as_elim] def jr{f:β->α}{M:α->Prop}(h:o.map f=xV u)(K:∀b,o=xV b->M (f b)):M u:=by
 induction o with
 |none=>exact gA h
 |some b=>exact aN h (K b rfl)
end
def HR.lS(h:HR P W H s.heap)(e:P.B0.get? a=xV o):s.heap.get? a=xV o:=h.fz _ _ (h.b0 _ _ e)
def HR.ns0(h:HR P W H s.heap)(e:P.B0.Ns a m):s.heap.Ns a m:=e.keeps λ_ _ q=>h.lS q
def ab1(v:V)(c:Const):NF:=match v with
 |.none=>(match c with|.none=>Nk| _=>Nr)
 |.bool a=>(match c with|.bool b=>decide (b=a)| _=>Nr)
 |.int a=>(match c with|.int b=>decide (b=a)| _=>Nr)
 |.str a=>(match c with|.str b=>decide (b=aw a)&&decide (a.length<=aL)| _=>Nr)
 |.bytes a=>(match c with|.bytes b=>decide (b.map Om=a)&&decide (b.length<=aL)| _=>Nr)
 | _=>Nr
def F3(b:ab1 v c=Nk):SE P n pe nms (.Constant c k pos) (.lit v):=by
 intro A ρ W H s Q X a q;show bk P A (constValue pe c) _ _ s;induction v using Mine.V.casesOn<;>(try cases b;done)
 case none=>induction c<;>first|cases b;done|exact NC (C5 a.hr VR.of_none q)
 case bool=>cases c<;>first|cases b;done|exact N0 b▸NC (C5 a.hr (VR.nZ _) q)
 case int=>cases c<;>first|cases b;done|exact N0 b▸wpAny_mkInt (cQ a.hr (VR.bV _ _) q)
 case str=>cases c<;>first|cases b;done|exact N0 (NQ.mp b).1▸Vb (cQ a.hr (VR.fW (N0 (NQ.mp b).2) _) q)
 case bytes=>cases c<;>first|cases b;done|exact wpAny_mkTextBytes (cQ a.hr (v:=.bytes _) ⟨_,_,rfl,N0 (NQ.mp b).1,N0 (NQ.mp b).2⟩ q)
noncomputable def aK(x:NX):NF:=!(x==("__debug__" : NX))
def Mx(t:nms[i]?=xV x)(hk:pe.kindOf x=xV .local\/pe.kindOf x=xV .cell\/(pe.kindOf x=xV .free/\(x==("__classdict__" : NX))=Nr))(hd:aK x=Nk):SE P n pe nms (.Name x pos) (.loc i):=by
 intro A ρ W H s Q X a q;haveI f:(x==("__debug__" : NX))=Nr:=by simpa [aK] using hd
 refine ah (H6 q) λv p q=>?_;refine wpAny_Name ?_ f;have G:∀{o u},o=xV v->uU P W o u->∃y,u=xV y/\VR P.w P.cA W.fz v y:=λe h=>by subst e;exact h
 haveI C:=λk=>a.fr.cell i x t k;rcases hk with hk|hk|⟨hk,j⟩
 ·refine ah a.fr.ns λm z hm=>?_
  refine ah (G p (hm i x t hk)) λy e r=>?_;exact Ug a.fr.kind hk z e (C5 a.hr r q)
 ·refine aO (C (.inl hk)) λc u g l d=>?_
  refine ah (G p d) λy b r=>?_;clear d;subst b;exact wpAny_loadName_cell a.fr.kind hk g l (C5 a.hr r q)
 ·refine aO (C (.inr hk)) λc u g l d=>?_
  refine ah (G p d) λy b r=>?_;clear d;subst b;exact wpAny_loadName_free a.fr.kind hk g l (C5 a.hr r q) j
def dn{Q}(a:At P A n pe nms W H s ρ)(g:PG P mg mb)(hk:pe.kindOf x=xV .globalImplicit)(b:mg x=xV v)(q:Q v s)(hd:aK x=Nk):
  bk P A' (eval (.Name x pos) pe) Q E s:=
 RQ a.fr.kind hk (loadGlobal_global (by rw[a.fr.yv];exact a.hr.ns0 g.g) b q) (by simpa [aK] using hd)
def gW{Q}(a:At P A n pe nms W H s ρ)(g:PG P mg mb)(hk:pe.kindOf x=xV .globalImplicit)(hm:mg x=Nm)(c:mb x=xV v)(q:Q v s)(hd:aK x=Nk):
  bk P A (eval (.Name x pos) pe) Q E s:=
 RQ a.fr.kind hk (UY (by rw[a.fr.yv];exact a.hr.ns0 g.g) hm (by rw[a.fr.blt];exact a.hr.ns0 g.b) c q) (by simpa [aK] using hd)
def Jf(g:PG P mg mb)(hi:i<30)(d:Ai i=x)(hk:pe.kindOf x=xV .globalImplicit)(hd:aK x=Nk):SE P n pe nms (.Name x pos) (.glob i):=by intro A ρ W H s Q X a q;refine ah (g.glob i hi) λy b c=>?_;rw[d] at b;exact dn a g hk b (C5 a.hr (c.mono a.hr.b0) q) hd
noncomputable def aR(e:Expr):NF:=e.ctorIdx !=22
def cg(h:aR e=Nk):PW (e::es) pe=(Nr,eval e pe)::PW es pe:=by induction e using NZ<;>first|rfl|exact Oh h
def AU:Bi P n pe nms [] .nil:=by intro A ρ W H s Q X a q pos;exact Uh (bC.here a.hr ⟨[],aB.nil,rfl,q⟩)
def qD(h:aR e=Nk)(he:SE P n pe nms e c)(f:Bi P n pe nms es cs):Bi P n pe nms (e::es) (.cons c cs):=by intro A ρ W H s Q X a q pos;rw[cg h];refine Sn (cf (he A ρ W H s _ X a q) λW' H' s' x t g=>Mine.ah g λv l k=>?_);exact N4 (f A ρ W' H' s' _ X (a.step t) k pos) (λys s₂ g=>Mine.bo g λW₂ H₂ b i=>Mine.a9 i λvs j m d=>⟨W₂,H₂,t.trans b,v::vs,aB.cons (l.mono b.mono) j,by exact NN _ ‹_›,d⟩) λ_ _ z=>z.up t
def wA(h:HR P W H s.heap)(b:aB P.w P.cA W.fz vs ys)(a:ys.length<=16000000)(q:Q (.tup vs) H):bk P A (newTuple ys) (bC P W H s (SV P Q)) (cy P A W H s X) s:=by refine Qo ?_ (by refine(?_:ys.toArray.size<=QX);rw[Pp];rw[O0];exact C7 a);refine⟨_,_,Trans.alloc h rfl,.tup vs,?_,q⟩;exact⟨_,_,_,rfl,Wd.bP ..,by simp only[Pp,aL];exact GP a,by simpa using b.mono (Wd.bQ h.cI.2.1) _ _⟩
def wy(h:HR P W H s.heap)(b:aB P.w P.cA W.fz vs ys)(a:ys.length<=16000000)(q:Q (.lst vs) H):bk P A (XH ys) (bC P W H s (SV P Q)) (cy P A W H s X) s:=by refine Qo ?_ (by refine(?_:ys.toArray.size<=QX);rw[Pp];rw[O0];exact C7 a);refine⟨_,_,Trans.alloc h rfl,.lst vs,?_,q⟩;exact⟨_,_,_,rfl,Wd.bP ..,by simp only[Pp,aL];exact GP a,by simpa using b.mono (Wd.bQ h.cI.2.1) _ _⟩
def wz(h:HR P W H s.heap)(c:aB P.w P.cA W.fz vs ys)(b:ys.length<=16000000)(q:∀a,H a=Nm->Q (.ref a) (H.set a (.list vs))):bk P A (XH ys) (bC P W H s (SV P Q)) (cy P A W H s X) s:=by refine Qo ?_ (by refine(?_:ys.toArray.size<=QX);rw[Pp];rw[O0];exact C7 b);exact⟨_,_,Trans.live (y:=.list vs) h trivial ⟨_,_,Oy _ rfl,by simp only[Pp,aL];exact GP b,by exact c⟩,.ref s.heap.objs.size,VR.qi _,q _ h.J2⟩
def MD(e:es.length<=1000)(h:Bi P n pe nms es cs):SE P n pe nms (.Tuple es k pos) (.tup cs):=by intro A ρ W H s Q X a q;refine Tuple_ (cf (h A ρ W H s _ X a q pos) λW' H' s' ys t d=>Mine.a9 d λvs b f c=>qT t (wA t.hr b (by rw[b.length];rw[f];exact GQ e) c))
def Jg(e:es.length<=1000)(h:Bi P n pe nms es cs):SE P n pe nms (.List es pos) (.eN cs):=by intro A ρ W H s Q X a q;refine List_ (cf (h A ρ W H s _ X a q pos) λW' H' s' ys t d=>Mine.a9 d λvs b f c=>qT t (wy t.hr b (by rw[b.length];rw[f];exact GQ e) c))
def Jh(e:es.length<=1000)(h:Bi P n pe nms es cs):SE P n pe nms (.List es pos) (.iH cs):=by intro A ρ W H s Q X a q;refine List_ (cf (h A ρ W H s _ X a q pos) λW' H' s' ys t d=>Mine.a9 d λvs b f c=>qT t (wz t.hr b (by rw[b.length];rw[f];exact GQ e) c))
def Mw(e:lq P n pe nms e₁ c)(d:SE P n pe nms e₂ a)(f:SE P n pe nms e₃ b):SE P n pe nms (.IfExp e₁ e₂ e₃ pos) (.ite c a b):=by
 intro A ρ W H s Q X a q;refine wpAny_IfExp (cf (e A ρ W H s _ X a q) λW' H' s' b t g=>?_);induction b with
 |true=>exact qT t (d A ρ W' H' s' Q X (a.step t) g)
 |false=>exact qT t (f A ρ W' H' s' Q X (a.step t) g)
end
noncomputable def LX:M5->Operator
 |.add=>.Add|.sub=>.Sub|.mul=>.Mult|.fdiv=>.FloorDiv|.mod=>.Mod|.pow=>.Pow
def cC(s):(aw s).length=s.length:=by simp[aw,PySem.Str.length]
def iJ(a b):aw (a++b)=aw a++aw b:=by refine(?_:aw (a++b)=(⟨_⟩ : NX));simp[aw]
def BS(l:Ni (O8 Nu))(acc):(l.foldl (·++·) acc).toList=acc.toList++(l.map Vc).flatten:=by
 induction l generalizing acc with
 |nil=>exact(N9 _).symm
 |cons x l a=>rw[Ra];rw[a];simp
def LQ(i:Ni Nu)(j):Txt.mul (aw i) j=aw (eS j.toNat i):=by
 unfold Txt.mul;by_cases h:j<1
 ·rw[Np h];rw[show j.toNat=0 from by exact zE [_] [] [R2 V0 K0] V0 K0 [1,1] [1,0] rfl rfl (toNat_eq_zero.mpr (f9 [R4 (S1 V0) K1] V0 K0 rfl h))];rfl
 ·rw[Nl h]
  by_cases b:(j==1||(aw i).length==0)=Nk
  ·rw[Np b]
   refine ND (OK.mp b) (λa=>?_) (λa=>?_)
   ·rw[show j=1 from by simpa using a];simp[eS]
   ·haveI:i=[]:=by rw[cC] at a;exact OI (N0 a)
    rw[this];simp[eS]
  ·rw[Nl b]
   congr 1
   apply O8.ext';rw[BS];simp[aw,eS]
section
variable {P:bx}{mg mb:NX->Nt Nz}{n:Nu}{pe:NO}{nms:Ni NX}{A:Oj}{ρ:Env}{W:Wd}{H:ae}{s:NJ}{Q:av}{X:Prop}
def i9(h:dG i=Nk):i.natAbs<2 ^ 60:=by simpa [dG] using h
def ab5(h:(dG a||dG b)=Nk):Xr a b:=by
 haveI c:∀i,i.natAbs<2 ^ 60->Builtin.Int.intBits i<=64:=by
  intro i hi;unfold Builtin.Int.intBits;split
  ·exact OL _
  ·rename_i d
   haveI:i.natAbs≠0:=by simpa using d
   haveI:=(log2_lt this).mpr hi;exact Nj this (by decide)
 refine ND (OK.mp h) (λh=>?_) (λh=>?_)
 ·exact Xr.of_left (c _ (i9 h))
 ·exact Xr.of_right (c _ (i9 h))
def pW(h:n<=lim):n<=aL:=Nj h (by decide)
def pX(h:n<=lim):n<=QX:=by rw[O0];simp only[lim] at h;exact C7 h
section
variable {vx vy vz:V}{x y:Nz}
def Gw(a:At P A n pe nms W H s ρ)(z:VR P.w P.cA W.fz (.tup i) x)(u:VR P.w P.cA W.fz (.tup j) y)(h:i.length+j.length<=lim)(q:Q (.tup (i++j)) H):bk P A (We .Add x y) (bC P W H s (SV P Q)) (cy P A W H s X) s:=by
 have hr:=a.hr;refine VR.qP z λb xs m t v r1=>?_;refine VR.qP u λc ys k r B p=>?_;haveI d:=hr.fz _ _ t;haveI f:=hr.fz _ _ r;haveI l1:xs.size=i.length:=by exact r1.length
 haveI g:ys.size=j.length:=by exact p.length
 by_cases l:xs.isEmpty=Nk
 ·refine WW ⟨_,d,rfl⟩ ⟨_,f,rfl⟩ Vv Wz Ts S7 (SX _ _) (AutoSeq1.tuple___add___tuple_tuple_0 b xs m c ys k l) ⟨d,f,?_⟩
  have e:i=[]:=by rw[isEmpty_iff.mp l] at l1;exact OI l1.symm
  rw[e] at q;exact cQ hr (VR.uu r B p) q
 ·by_cases o:ys.isEmpty=Nk
  ·refine WW ⟨_,d,rfl⟩ ⟨_,f,rfl⟩ Vv Wz Ts S7 (SX _ _) (AutoSeq1.tuple___add___tuple_tuple_1 b xs m c ys k l o) ⟨d,f,?_⟩
   haveI e:j=[]:=by rw[isEmpty_iff.mp o] at g;exact OI g.symm
   rw[e,N9] at q;exact cQ hr (VR.uu t v r1) q
  ·refine PySem.P.add_tuple d f l o ⟨_,_,Trans.alloc hr rfl,.tup _,VR.uu (Wd.bP ..) (by rw[VL];rw[l1];rw[g];exact pW h) ?_,q⟩ (by rw[l1];rw[g];exact pX h)
   rw[UO];exact(aB.mono (Wd.bQ hr.cI.2.1) _ _ r1).append (aB.mono (Wd.bQ hr.cI.2.1) _ _ p)
def LY(a:At P A n pe nms W H s ρ)(e:aaO vx vy=xV vz)(g:VR P.w P.cA W.fz vx x)(f:VR P.w P.cA W.fz vy y):Q vz H->bk P A (We .Add x y) (bC P W H s (SV P Q)) (cy P A W H s X) s:=by
 have hr:=a.hr;induction vx using Mine.V.casesOn with
 |int i=>exact VR.pP g λt=>cH e f λj u e=>aN e λq=>add_int (cQ hr (VR.bV _ _) q)
 |str i=>exact VR.mS g λt _=>B6 e f λj u e _=>b9 e λc q=>add_str (λh tk=>cQ hr (by rewrite [<- iJ];exact VR.fW (by rw[Nv];exact pW c) _) q) (pX c)
 |bytes i=>refine VR.gH g λb t l _=>?_;clear g;subst l;refine HX e f λd u e _=>?_;refine b9 e λc q=>?_;rw[NR,NR,NW,NW] at c;exact KBy.add_bytes (pX c) (λh k=>cQ hr (VR.Fd (by simp) (by rw[VL];exact pW c)) q)
 |tup i=>refine EA e (λj e f=>?_) f;exact b9 e λc q=>Gw a g f c q
 | _=>exact gA e
def Iy(hr:HR P W H s.heap)(b:l.length=1)(a:i.natAbs<1000)(q:Q (.str (eS i.toNat l)) H):bk P A (We .Mult (.str (aw l) t) (.int i u)) (bC P W H s (SV P Q)) (cy P A W H s X) s:=by
 haveI c:(aw l).length=1:=by rw[cC];rw[b];rfl
 refine SB.mul ⟨?_,λd e=>?_,λd e=>?_⟩ λf k=>cQ hr ?_ q
 ·lia
 ·rw[c]
  haveI:(1:N6)<=(2 ^ 63 - 1) / i:=(N6.le_ediv_iff_mul_le (Ss.mp d)).mpr (zI [_] [_] [R0 (S1 V0) (zc 1000),R4 V0 (zu V0)] (zm 1 V0) (zs (zc (2 ^ 63)) K1) [1,1,1] rfl a WH);exact adK this
 ·rw[c];unfold Pq.Str.tooLong;rw[O0];exact N5 (adM a)
 ·rw[LQ]
  refine VR.fW ?_ _;simp only[eS,Wf,Ni.map_replicate,Ni.sum_replicate_nat,b,aL];exact adN a
def LZ(a:At P A n pe nms W H s ρ)(e:m8 op vx vy=xV vz)(b:VR P.w P.cA W.fz vx x)(d:VR P.w P.cA W.fz vy y):Q vz H->bk P A (We (LX op) x y) (bC P W H s (SV P Q)) (cy P A W H s X) s:=by
 have hr:=a.hr;induction op with
 |add=>exact LY a e b d
 |sub=>exact cH e b λi t e=>cH e d λj u e=>aN e λq=>sub_int (cQ hr (VR.bV _ _) q)
 |mul=>
  refine cH e d λj u e=>?_;induction vx using Mine.V.casesOn with
  |int i=>exact VR.pP b λt=>b9 e λc q=>mul_int (cQ hr (VR.bV _ _) q) (ab5 c)
  |str i=>exact VR.mS b λt _=>b9 e λc q=>Iy hr c.1 c.2 q
  | _=>exact gA e
 |fdiv=>exact cH e b λi t e=>cH e d λj u e=>Es e λc q=>floordiv_int (λq=>c (.inl q)) (cQ hr (VR.bV _ _) q) (Or.inl (PyProof.noPylong_small (cZ [R1 (zc 1000000000) V0] (S1 V0) (zc 1073741824) rfl (Pl.mp c).2)))
 |mod=>exact cH e b λi t e=>cH e d λj u e=>Es e λc q=>mod_int c (cQ hr (VR.bV _ _) q)
 |pow=>exact cH e b λi t e=>cH e d λj u e=>b9 e λc q=>pow_int_small c.1 (f9 [R4 V0 (zc 1000)] V0 (zc 1000000) rfl c.2.1) (To (i9 c.2.2) (by decide)) (cQ hr (VR.bV _ _) q)
end
end
inductive xt(A:Oj)(s:NJ):Ni Nz->Ni Nz->NF->Prop
 |nil:xt A s [] [] Nk
 |left (y:Nz) (ys:Ni Nz):xt A s [] (y::ys) Nr
 |right (x:Nz) (xs:Ni Nz):xt A s (x::xs) [] Nr
 |go {x y:Nz} {xs ys:Ni Nz} {b:NF}:EqAt A s x y Nk->xt A s xs ys b->xt A s (x::xs) (y::ys) b
 |off {x y:Nz} {xs ys:Ni Nz}:EqAt A s x y Nr->xt A s (x::xs) (y::ys) Nr
def xt.acE(h:xt A s xs ys b)(a:xs.zip ys=[]):(xs.length==ys.length)=b:=by induction h<;>simp at a ⊢
def xt.inv(h:xt A u (x::xs) (y::ys) r):(EqAt A u x y Nk/\xt A u xs ys r)\/(EqAt A u x y Nr/\r=Nr):=by
 cases h with
 |go i j=>exact .inl ⟨i,j⟩
 |off i=>exact .inr ⟨i,rfl⟩
inductive TI{γ δ:Type}(A:Oj)(u:NJ)(r b:NF):Ni (Nz×Nz)->Nt γ×δ->NJ->Prop
 |mk (xs ys:Ni Nz) (p:δ) (h:xt A u xs ys r) (e:(xs.length==ys.length)=b):TI A u r b (xs.zip ys) (Nm,p) u
@[elab_as_elim] def zD{γ δ:Type}{A:Oj}{u s':NJ}{r b:NF}{x y:Nz}{l:Ni (Nz×Nz)}{c:Nt γ×δ}{M:NJ->Prop}(z:TI A u r b ((x,y)::l) c s')(go:EqAt A u x y Nk->(∀p:δ,TI (γ:=γ) A u r b l (Nm,p) u)->M u)(off:EqAt A u x y Nr->r=Nr->M u):M s':=by
 generalize hq:(x,y)::l=q at z;refine z.rec (motive:=λq c s' _=>(x,y)::l=q->M s') (λxs ys p h e hz=>?_) hq;clear z hq;rcases xs with _|⟨x0,xs⟩
 ·contradiction
 rcases ys with _|⟨y0,ys⟩
 ·contradiction
 replace hz:(x,y)::l=(x0,y0)::xs.zip ys:=hz;injection hz with h1 h2;injection h1 with h1 h3;subst h1 h3 h2
 exact h.inv.elim (λz=>go z.1 λp=>.mk _ _ p z.2 (by simpa using e)) λz=>off z.1 z.2
@[elab_as_elim] def C9{γ δ:Type}{A:Oj}{u s':NJ}{r b:NF}{c:Nt γ×δ}{M:Nt γ×δ->NJ->Prop}(z:TI A u r b [] c s')(k:b=r->∀p,M (Nm,p) u):M c s':=by
 generalize hq:([]:Ni (Nz×Nz))=q at z;cases z with
 |mk xs ys p h e=>exact k (e.symm.trans (h.acE hq.symm)) p
def s9(l b)(items a)(n q)(r):
  Xs (Pq.«tuple.__eq__» ⟨[.ref l,.ref b],[]⟩)
   (λA R s=>s.heap.get? l=xV { cls:=.type "tuple",dict:=Nm,data:=.seq items n,slots:=#[] }/\s.heap.get? b=xV { cls:=.type "tuple",dict:=Nm,data:=.seq a q,slots:=#[] } /\
    xt A.in1 s items.toList a.toList r/\R (.ok (.ret (.bool r))) s):=
 .of_wp λprog w A R s h=>by
  obtain⟨k,g,d,tk,os⟩:=s;refine A4 h ?_;clear h;intro o m he h;haveI v:=AutoSeq1.sub_tuple_tuple;haveI t:(items.size==a.size)=(items.toList.length==a.toList.length):=by(rfl)
  wp_walk using RZ o,RZ m,Vw _ (TI A.in1 ⟨k,g,d,tk,os⟩ r (items.size==a.size)) _
  case turn=>
   intro⟨x,y⟩ rest c s' z;refine zD z (λi p=>?_) λi e=>?_
   ·refine Nq (i prog w _ _ ?_)
    wp_walk
    exact p _
   ·refine Nq (i prog w _ _ ?_)
    wp_walk
    exact⟨_,rfl,by rw[e] at h;exact h⟩
  case fin=>
   intro c s' z;refine C9 z λe p=>?_
   wp_walk
   exact⟨_,rfl,by show R (.ok (.ret (.bool (items.size==a.size)))) _;rw[e];exact h⟩
  case h=>
   exact .mk _ _ _ he t.symm
def CW(l b)(items a)(n q)(r):
  Xs (Pq.«tuple.__ne__» ⟨[.ref l,.ref b],[]⟩)
   (λA R s=>s.heap.get? l=xV { cls:=.type "tuple",dict:=Nm,data:=.seq items n,slots:=#[] }/\s.heap.get? b=xV { cls:=.type "tuple",dict:=Nm,data:=.seq a q,slots:=#[] } /\
    xt A.in1 s items.toList a.toList r/\R (.ok (.ret (.bool (!r)))) s):=
 .of_wp λprog w A R s h=>by
  obtain⟨k,g,d,tk,os⟩:=s;refine A4 h ?_;clear h;intro o m he h;haveI v:=AutoSeq1.sub_tuple_tuple;haveI t:(items.size==a.size)=(items.toList.length==a.toList.length):=by(rfl)
  wp_walk using RZ o,RZ m,Vw _ (TI A.in1 ⟨k,g,d,tk,os⟩ r (items.size==a.size)) _
  case turn=>
   intro⟨x,y⟩ rest c s' z;refine zD z (λi p=>?_) λi e=>?_
   ·refine Nq (i prog w _ _ ?_)
    wp_walk
    exact p _
   ·refine Nq (i prog w _ _ ?_)
    wp_walk
    exact⟨_,rfl,by rw[e] at h;exact h⟩
  case fin=>
   intro c s' z;refine C9 z λe p=>?_
   wp_walk
   exact⟨_,rfl,by show R (.ok (.ret (.bool (items.size !=a.size)))) _;rw[bne];rw[e];exact h⟩
  case h=>
   exact .mk _ _ _ he t.symm
section
variable {w:Px}{cA:eX->OO}{fz:Fz}
def iK(h:aw a=aw b):a=b:=by have:=NN (λx=>x.cps.toList) h;simpa [aw] using this
def Bx{a b:O8 RR}(h:a.toList.map Om=b.toList.map Om):a.toList=b.toList:=by
 haveI go:∀l m:Ni RR,l.map Om=m.map Om->l=m:=by
  intro l;induction l with
  |nil=>intro m e;induction m with|nil=>rfl|cons _ _=>contradiction
  |cons x l c=>
   intro m e;induction m using Nw with
   |nil=>contradiction
   |cons y m=>simp only[N3,R8] at e;rw[RR.toNat_inj.mp e.1];rw[c m e.2];rfl
 exact go _ _ h
def uM(a b):(a==b)=decide (aw a=aw b):=by
 by_cases q:a=b
 ·subst q;simp
 ·rw[OE q];exact(N5 λz=>q (iK z)).symm
def sd(a b:O8 RR):(a.toList.map Om==b.toList.map Om)=(a.toList==b.toList):=by
 by_cases z:a.toList=b.toList
 ·rw[z];simp
 ·rw[OE z];exact OE λh=>z (Bx h)
def BK:∀{vs us}{b}{xs},(∀v u x b,VR w cA fz v x->VR w cA fz u x->f v u=xV b->b=Nk) ->
  aB w cA fz vs xs->aB w cA fz us xs->du f vs us=xV b->b=Nk:=by
 intro i;induction i with
 |nil=>
  intro a;induction a with
  |nil=>intro b _ _ _ _ e;injection e with e;exact e.symm
  |cons _ _=>intro b xs _ c d _;subst c;refine bo d ?_;clear d;intro _ _ h _;contradiction
 |cons v vs g=>
  intro a;induction a using Nw with
  |nil=>intro b xs _ c d _;subst d;refine bo c ?_;clear c;intro _ _ h _;contradiction
  |cons u us=>
   intro b xs k c d e;refine aO c ?_;clear c;intro y r m o p;subst m;refine aO d ?_;clear d;intro t z j s n;injection j with j l;subst j l
   simp only[z8,z9,Aa,Ab] at e;split at e
   ·exact g k p n e
   ·rename_i q;exact NK (k v u y Nr o s q) (by decide)
   ·contradiction
def vG(g:VR w cA fz v x)(d:VR w cA fz u x)(e:eq0 v u=xV b):b=Nk:=by
 induction v using Mine.V.casesOn with
 |int i=>refine wc e (λj e d=>aN e ?_) d;refine X1 g.int_inv λt f=>?_;clear g;subst f;refine X1 d.int_inv λk c=>?_;injection c with c;clear e d;subst c;exact OJ _
 |str l=>refine rL e (λm e d=>aN e ?_) d;refine ah g.str_inv λt f _=>?_;clear g;subst f;refine ah d.str_inv λk c _=>?_;injection c with c _;rw[iK c];exact OJ _
 |bytes l=>refine Lq e (λm e d=>aN e ?_) d;refine aO g.bR ?_;intro a t h q _;clear g;subst h;refine aO d.bR ?_;intro o k c n _;injection c with c _;clear a_2;subst c;refine bB (NU q) (bB (NU n) ?_);exact OJ _
 | _=>exact gA e
def DL:∀n v u x b,VR w cA fz v x->VR w cA fz u x->eD n v u=xV b->b=Nk:=by
 intro g;induction g with
 |zero=>intro v u x b f c e;exact vG f c e
 |succ n d=>
  intro v u x b f c e;induction v using Mine.V.casesOn with
  |tup i=>
   refine EA e (λj e c=>?_) c;obtain⟨a,xs,m,rfl,o,q,r1⟩:=f;obtain⟨s,l,t,k,h,r,p⟩:=c;injection k with k;subst k
   replace h:=(o)▸h;cases h;exact BK (d) r1 p e
  | _=>exact vG f c e
end
def EqGives.bytes(a b)(t u):EqGives (.bytes a t) (.bytes b u) (a.toList==b.toList):=λprog w A E s Q h=>by
 refine OW ?_;refine R9 (λc=>?_) (λ_=>?_)
 ·haveI e:=eq_of_beq c
  injection e with d f
  clear c;subst d;simp only[OJ] at h;exact Nq (Wg (NC h))
 ·refine Nq (eq_bytes ?_)
  exact QT h
def EqGives.str(a b)(t u):EqGives (.str a t) (.str b u) (decide (a=b)):=λ_ _ _ _ _ _ h=>wpAny_eqBool_str h
section
variable {P:bx}{W:Wd}{H:ae}{s:NJ}
def EM(k:∀v u x y b,VR P.w P.cA W.fz v x->VR P.w P.cA W.fz u y->f v u=xV b->EqAt A s x y b):
  ∀{vs us}{b}{xs ys},aB P.w P.cA W.fz vs xs->aB P.w P.cA W.fz us ys->du f vs us=xV b->xt A s xs ys b:=by
 intro i;induction i with
 |nil=>
  intro g;induction g with
  |nil=>intro b xs ys c d e;cases(c:_=[]);cases(d:_=[]);injection e with e;subst e;exact .nil
  |cons _ _=>intro b xs ys c d e;cases(c:_=[]);refine bo d ?_;clear d;intro _ _ a _;subst a;injection e with e;subst e;exact .left _ _
 |cons v vs h=>
  intro g;induction g using Nw with
  |nil=>intro b xs ys c d e;cases(d:_=[]);refine bo c ?_;clear c;intro _ _ a _;subst a;injection e with e;subst e;exact .right _ _
  |cons u us=>
   intro b xs ys c d e;refine aO c ?_;clear c;intro y r a l o;subst a;refine aO d ?_;clear d;intro j p a m n;subst a;simp only[z8,z9,Aa,Ab] at e;split at e
   ·rename_i q;exact .go (k v u y j Nk l m q) (h o n e)
   ·rename_i q;simp only[Rm] at e;subst e;exact .off (k v u y j Nr l m q)
   ·contradiction
def lL(a:VR P.w P.cA W.fz v x)(f:VR P.w P.cA W.fz u y)(e:eq0 v u=xV b):EqAt A s x y b:=by
 induction v using Mine.V.casesOn with
 |int i=>exact VR.pP a λt=>cH e f λj u e=>aN e ((EqGives.int _ _ _ _).at _ _)
 |str l=>exact VR.mS a λt _=>B6 e f λm u e _=>aN e (by rw[uM];exact(EqGives.str _ _ _ _).at _ _)
 |bytes l=>refine VR.gH a λc t q _=>?_;clear a;subst q;exact HX e f λd u e _=>aN e (by rw[sd];exact(EqGives.bytes _ _ _ _).at _ _)
 | _=>exact gA e
def Hz(hr:HR P W H s.heap):∀n A v u x y b,A.units+n<XI->VR P.w P.cA W.fz v x->VR P.w P.cA W.fz u y->eD n v u=xV b->EqAt A s x y b:=by
 intro h;induction h with
 |zero=>intro A v u x y b j d c e;exact lL d c e
 |succ n g=>
  intro A v u x y b j d c e;induction v using Mine.V.casesOn with
  |tup vs=>
   refine EA e (λus _ c e=>?_) c e;haveI k1:=d;haveI k2:=c;revert k1 k2;refine VR.qP d λa xs m o D r1=>?_;refine VR.qP c λl k B i G C k1 k2=>?_;by_cases f:a=l
   ·clear i;subst f
    haveI p:=DL (n+1) _ _ _ b k1 k2 e;rw[p];exact EqAt.same _
   ·refine EqAt.of_refs f λprog w E Q q=>?_
    exact Rn ⟨_,hr.fz _ _ o,rfl⟩ ⟨_,hr.fz _ _ i,rfl⟩ TR Tt (S8 _ _) (s9 a l xs k m B b)
     ⟨hr.fz _ _ o,hr.fz _ _ i,EM (λv u x y b z r t=>g A.in1 v u x y b (by refine(?_:A.units+1+n<XI);exact cR [R0 (S1 (zp V0 (S1 V1))) V2] (S1 (zp (S1 V0) V1)) V2 rfl j) z r t) r1 C e,(λx=>(by contradiction)),q⟩ (cR [R0 (S1 (zp V0 (S1 V2))) V1] (S1 V0) V1 rfl j)
  | _=>exact lL d c e
end
noncomputable def G6:CY->CmpOp
 |.eq=>.Eq|.ne=>.NotEq|.lt=>.Lt|.le=>.LtE|.gt=>.Gt|.ge=>.GtE|.Lg=>.Is|.vZ=>.IsNot|.ud=>.In|.C4=>.NotIn
section
variable {P:bx}{mg mb:NX->Nt Nz}{n:Nu}{pe:NO}{nms:Ni NX}{A:Oj}{ρ:Env}{W:Wd}{H:ae}{s:NJ}{Q:av}{X:Prop}
def HR.list(hr:HR P W H s.heap)(e:bj v H=xV l)(b:VR P.w P.cA W.fz v x):∃a xs m,x=.ref a/\s.heap.get? a=xV { cls:=.type "list",data:=.seq xs m }/\xs.size<=aL/\aB P.w P.cA W.fz l xs.toList:=by
 induction v using Mine.V.casesOn<;>(try contradiction;done)
 ·injection e with e;subst e
  obtain⟨a,xs,m,rfl,f,z,r⟩:=b;exact⟨a,xs,m,rfl,hr.fz _ _ f,z,r⟩
 ·refine BX e λvs q e=>?_
  injection e with e;subst e
  obtain⟨xs,m,g,d,c⟩:=hr.live _ _ q;exact⟨_,xs,m,b.ct,g,d,c⟩
def AZ(h:n<=aL):(n:N6)<2 ^ 63:=UZ (Pk.mpr h) (by decide)
def aZ{h:Heap}(e:h.get? a=xV { cls:=.type "list",data:=.seq xs m }):h.IsList a xs:=⟨_,e,rfl,m,rfl⟩
def lJ{xs:O8 Nz}(r:aB w cA fz l xs.toList):xs.isEmpty=l.isEmpty:=by
 haveI:=r.length;clear r;induction l using Nw with
 |nil=>rw[Qz.mpr this];rfl
 |cons v l=>
  rw[NW,Nn] at this;induction q:xs.isEmpty with
  |false=>rfl
  |true=>rw[Qz] at q;exact(Rb (zF [_,_] [] [R3 V0 (S1 V1),R2 V0 K0] [1,1] rfl this q))
set_option tactic.hygienic true in
def qj(a:At P A n pe nms W H s ρ){v}{Q}(e:jZ v H=xV b)(d:VR P.w P.cA W.fz v x)(q:Q b H):
  bk P A (XB x) (bC P W H s (ST Q)) (cy P A W H s X) s:=by
 have hr:=a.hr;induction v using Mine.V.casesOn<;>(try cases e;done)
 case none=>cases e;exact d.none_inv.symm▸truthy_none (bC.here hr q)
 case bool c=>cases e;exact d.bool_inv.symm▸QT (bC.here hr q)
 case int i=>cases e;refine X1 d.int_inv λt k=>?_;clear d;subst k;exact PyProof.Rows.truthy_int (bC.here hr q)
 case lst vs=>
  cases e;refine bO (hr.list rfl d) λc xs m f g h j=>?_;clear d;subst f;refine Vd (aZ g) (AZ h) ?_;rw[lJ j];exact bC.tok hr q
 case ref c=>
  refine BX e λvs o e=>?_;cases e;refine bO (hr.list (v:=.ref c) ((NN (hL · xV) o).trans rfl) d) λc xs m f g h j=>?_;clear d;subst f;refine Vd (aZ g) (AZ h) ?_;rw[lJ j];exact bC.tok hr q
def qS(h:HR P W H s.heap)(q:Q (.bool b) H):bC P W H s (SV P Q) (.bool b) s:=C5 h (VR.nZ b) q
def Fh(h:HR P W H s.heap)(q:Q (.bool b) H):bC P W H s (SV P Q) (.bool b) { s with toks:=t }:=cQ h (VR.nZ b) q
def Hh(a:At P A n pe nms W H s ρ)(e:eD 64 (.tup vs) (.tup us)=xV b)(o:VR P.w P.cA W.fz (.tup vs) x)(k:VR P.w P.cA W.fz (.tup us) y):
  (Q (.bool b) H->bk P A (Pb .Eq x y) (bC P W H s (SV P Q)) (cy P A W H s X) s)/\(Q (.bool (!b)) H->bk P A (Pb .NotEq x y) (bC P W H s (SV P Q)) (cy P A W H s X) s):=by
 have hr:=a.hr;have h:A.units+64<XI:=by haveI:=a.cx.units;refine(?_:_<9900);exact cj [R0 (zp (zp V0 (zm 16 V1)) (zc 8)) (zc 5000)] (S1 (zp V0 (zc 64))) (zc 9900) rfl this
 refine VR.qP o λc xs m g z r1=>?_;refine VR.qP k λi d j f B t=>?_;haveI L:=EM (λv u x y b r l p=>Hz hr 63 A.in1 v u x y b (by refine(?_:A.units+1+63<XI);exact cj [R0 (S1 (zp V0 (zc 64))) V1] (S1 (zp (S1 V0) (zc 63))) V1 rfl h) r l p) r1 t e;refine⟨λq=>?_,λq=>?_⟩
 ·exact Rn (op:=.Eq) ⟨_,hr.fz _ _ g,rfl⟩ ⟨_,hr.fz _ _ f,rfl⟩ TR Tt (S8 _ _) (s9 c i xs d m j b)
   ⟨hr.fz _ _ g,hr.fz _ _ f,L,(λx=>(by contradiction)),qS hr q⟩ (cj [R0 (S1 (zp V0 (zc 64))) V1] (S1 V0) V1 rfl h)
 ·exact Rn (op:=.NotEq) ⟨_,hr.fz _ _ g,rfl⟩ ⟨_,hr.fz _ _ f,rfl⟩ PySem.F.slot_tuple_ne PySem.F.entry_tuple_ne (PySem.F.args_tuple_ne_2 _ _) (CW c i xs d m j b)
   ⟨hr.fz _ _ g,hr.fz _ _ f,L,(λx=>(by contradiction)),qS hr q⟩ (cj [R0 (S1 (zp V0 (zc 64))) V1] (S1 V0) V1 rfl h)
def Hg(a:At P A n pe nms W H s ρ)(e:bj v H=xV l)(u:VR P.w P.cA W.fz v x)(t:VR P.w P.cA W.fz (.lst []) y):
  (Q (.bool l.isEmpty) H->bk P A (Pb .Eq x y) (bC P W H s (SV P Q)) (cy P A W H s X) s)/\(Q (.bool (!l.isEmpty)) H->bk P A (Pb .NotEq x y) (bC P W H s (SV P Q)) (cy P A W H s X) s):=by
 haveI hr:=a.hr;haveI p:A.units<XI:=by haveI:=a.cx.units;refine(?_:_<9900);exact cj [R0 (zp (zp V0 (zm 16 V1)) (zc 8)) (zc 5000)] (S1 V0) (zc 9900) rfl this
 refine bO (hr.list e u) λc xs m g i D F=>?_;clear u;subst g;refine bO (hr.list rfl t) λI d J g f G r=>?_;clear t;subst g;haveI z:d.size=0:=by haveI:=r.length;exact this
 haveI E:=lJ F;refine bB (NU E) ?_;refine(NG (xs.isEmpty=Nk)).elim (λq=>?_) (λq=>?_)
 ·haveI o:=Qz.mp q
  haveI b:∀j (i:j<xs.size) (D:j<d.size),EqAt A.in1 s xs[j] d[j] Nk:=λj h _=>by exact(Rb (zF [_,_] [] [R2 V0 K0,R0 (S1 V1) V0] [1,1] rfl o h))
  haveI B:(Pr xs.size).all (λ_=>Nk)=Nk:=by rw[o];rfl
  rw[q];refine⟨λk=>RcAt.lists (aZ i) (aZ f) (aam z o) p b prog P.w _ _ ?_,λk=>RcNeAt.lists (aZ i) (aZ f) (aam z o) p b prog P.w _ _ ?_⟩
  ·rw[B];exact qS hr k
  ·rw[B];exact qS hr k
 ·haveI C:xs.isEmpty=Nr:=by simpa using q
  haveI o:xs.size≠0:=λh=>q (Qz.mpr h);haveI ne:(xs.size !=d.size)=Nk:=by lia
  rw[C];exact⟨λk=>RcAt.lists_lengths (aZ i) (aZ f) ne p prog P.w _ _ (qS hr k),λk=>RcNeAt.lists_lengths (aZ i) (aZ f) ne p prog P.w _ _ (qS hr k)⟩
theorem E3(k:∀v y b,VR P.w P.cA W.fz v y->eD 0 v vx=xV b->e y=b/\EqAt A s y x b):
  ∀{vs}{xs}{b},aB P.w P.cA W.fz vs xs->p9 vx vs=xV b->(∀y∈xs,EqAt A s y x (e y))/\xs.any e=b
 |[],xs,b,h,q=>by cases(h:_=[]);simp only[Ir,Rm] at q;subst q;simp
 |v::vs,xs,b,h,q=>by refine aO h ?_;clear h;intro y r a l p;subst a;refine acg (q:orB (eD 0 v vx) (p9 vx vs)=xV b) λt u f o j=>?_;clear q;subst j;refine A2 (k v y t l f) λc i=>?_;refine A2 (E3 k p o) λm g=>?_;exact⟨λz n=>(NH.mp n).elim (λd=>d▸c▸i) (m z),by rw[Ui];rw[c];rw[g];rfl⟩
def K4(vx:V)(y:Nz):NF:=match vx,y with
 |.int i,.int j _=>j==i
 |.str a,.str b _=>decide (b=aw a)
 |.bytes a,.bytes b _=>b.toList.map Om==a
 | _,_=>Nr
def Hy(a:VR P.w P.cA W.fz vx x)(v)(y)(b)(h:VR P.w P.cA W.fz v y)(e:eD 0 v vx=xV b):K4 vx y=b/\EqAt A s y x b:=by
 refine⟨?_,lL h a e⟩;induction v using Mine.V.casesOn with
 |int i=>exact VR.pP h λt=>wc e λj e=>aN e rfl
 |str i=>exact VR.mS h λt _=>rL e λj e=>aN e (uM _ _).symm
 |bytes i=>exact VR.gH h λc t q _=>Lq e λj e=>aN e (by refine bB (NU q) ?_;rfl)
 | _=>exact gA e
def Hf(a:At P A n pe nms W H s ρ)(e:p9 vx vs=xV b)(h:VR P.w P.cA W.fz vx x)(g:VR P.w P.cA W.fz (.tup vs) y):
  (Q (.bool b) H->bk P A (Pb .In x y) (bC P W H s (SV P Q)) (cy P A W H s X) s)/\(Q (.bool (!b)) H->bk P A (Pb .NotIn x y) (bC P W H s (SV P Q)) (cy P A W H s X) s):=by
 have hr:=a.hr;obtain⟨c,xs,m,rfl,j,l,r1⟩:=g;refine A2 (E3 (s:=s) (A:=A.in1) (λv y b=>Hy h v y b) r1 e) λk i=>?_;haveI T:s.heap.IsTuple c xs:=⟨_,hr.fz _ _ j,rfl,m,rfl⟩;haveI d:∀y,y∈xs->EqAt A.in1 s y x (K4 vx y):=λy g=>k y (by simpa using g);haveI f:xs.any (K4 vx)=b:=by refine bB (NU any_toList) ?_;exact i
 exact⟨λq=>in_tupleAt _ T d (by rw[f];exact qS hr q),λq=>notIn_tupleAt _ T d (by rw[f];exact qS hr q)⟩
end
section
variable {X:Prop}
def eV{K:Type}[OY K](a:K×Nz)(r)(k:K):UB (a::r) k=if a.1=k then xV a.2 else UB r k:=by
 unfold UB;by_cases h:a.1=k
 ·simp[h]
 ·simp[h]
section
variable {w:Px}{cA:eX->OO}{fz:Fz}
def EG(x):∀(f:Ni (Ni Nu)) (a:Ni (NX×Nz)),a.map (·.1)=f.map aw->(f.map V.str).any (bb · (.str x))=(UB a (aw x)).isSome:=by
 intro d;induction d with
 |nil=>
  intro b;induction b with
  |nil=>intro _;exact rfl
  |cons _ _=>intro h;contradiction
 |cons t f c=>
  intro b;induction b using Nw with
  |nil=>intro h;contradiction
  |cons g a=>
   intro h;rw[N3,N3,R8] at h;rw[N3];rw[Ui];rw[eV];rw[c a h.2];rw[h.1];by_cases e:t=x
   ·rw[e];simp[H3]
   ·rw[Nl λq=>e (iK q)];simp[H3,e]
def EE(x):∀a,((a.map (·.1)).map V.int).any (bb · (.int x))=(UB a x).isSome:=by
 intro c;induction c with
 |nil=>exact rfl
 |cons d a b=>
  rw[N3,N3,Ui,eV,b];by_cases e:d.1=x
  ·simp[abF,e]
  ·simp[abF,e]
theorem pK:∀{b}{a}{vs},a.map (·.1)=b.map aw->aB w cA fz vs (a.map (·.2))->b7 x b vs=xV v->∃y,UB a (aw x)=xV y/\VR w cA fz v y
 |[],_,_=>λ_ _ e=>by cases e
 | _::_,_,[]=>λ_ _ e=>by cases e
 | _::_,[],_::_=>λh _ _=>by cases h
 |t::b,kv::a,u::vs=>λh r e=>by
  rw[N3,N3,R8] at h;refine aO r ?_;clear r;intro y g c r1 f;injection c with c d;subst c d
  rw[eV];haveI e:(if t=x then xV u else b7 x b vs)=xV v:=e;by_cases q:t=x
  ·replace e:=(Np q)▸e;injection e with e;subst e
   rw[h.1];rw[q];rw[Np rfl];exact⟨_,rfl,r1⟩
  ·rw[Nl q] at e
   rw[h.1];rw[Nl λz=>q (iK z)];exact pK h.2 f e
def D4{v:V}:∀{c}{vs},yu (.str x) (c.map V.str) vs=b7 x c vs:=by
 intro d;induction d with
 |nil=>
  intro a;induction a with
  |nil=>exact rfl
  |cons _ _=>exact rfl
 |cons t c b=>
  intro a;induction a using Nw with
  |nil=>exact rfl
  |cons u vs=>refine(?_:(if(t==x)=Nk then xV u else yu (.str x) (c.map V.str) vs)=if t=x then xV u else b7 x c vs);simp only[b,Ob]
def D3:∀{a}{vs},aB w cA fz vs (a.map (·.2))->yu (.int x) ((a.map (·.1)).map V.int) vs=xV v->∃y,UB a x=xV y/\VR w cA fz v y:=by
 intro d;induction d with
 |nil=>intro _ _ e;contradiction
 |cons h a b=>
  intro f;cases f with
  |nil=>intro _ e;injection e
  |cons u vs=>
   intro r e;refine aO r ?_;clear r;intro y j c r1 i;injection c with c g;subst c g
   rw[eV];haveI e:(if(h.1==x)=Nk then xV u else yu (.int x) ((a.map (·.1)).map V.int) vs)=xV v:=e;simp only[Ob] at e;by_cases q:h.1=x
   ·replace e:=(Np q)▸e;injection e with e;clear b;subst e
    rw[Np q];exact⟨_,rfl,r1⟩
   ·rw[Nl q] at e
    rw[Nl q];exact b i e
end
def de(x)(t):WA x (.str x t)=Nk:=by simp[WA]
def fh(i)(t):Nz.isInt i (.int i t)=Nk:=by exact OJ _
def He(a:At P A n pe nms W H s ρ)(e:H c=xV (.dict ks vs))(hk:(iF vx vx&&ks.all (iF vx))=Nk)(B:VR P.w P.cA W.fz vx x):
  (Q (.bool (ks.any (bb · vx))) H->bk P A (Pb .In x (.ref c)) (bC P W H s (SV P Q)) (cy P A W H s X) s)/\(Q (.bool (!(ks.any (bb · vx)))) H->bk P A (Pb .NotIn x (.ref c)) (bC P W H s (SV P Q)) (cy P A W H s X) s):=by
 have hr:=a.hr;refine A3 (hr.live _ _ e) λy M d=>?_;rw[Od] at hk;refine A2 hk ?_;clear hk;intro K f;induction vx using Mine.V.casesOn with
 |int i=>
  refine X1 B.int_inv λt u=>?_;clear B;subst u;have D:∃b:Ni (N6×Nz),s.heap.DictOf (SW prog P.w) c b/\ks=(b.map (·.1)).map V.int:=by
   refine ND (d) (λl=>?_) (λm=>?_)
   ·obtain⟨k,b,h,p,j,v⟩:=l
    induction k using Nw with
    |nil=>
     clear v;induction b using Nw with
     |nil=>
      obtain⟨o,es,C,E,o2,L,I,r,N⟩:=p;have:es=#[]:=by induction g:es.toList using Nw with
       |nil=>exact toList_eq_nil_iff.mp g
       |cons z zs=>rw[g] at r;cases r
      clear I r;subst this;exact⟨[],⟨o,#[],C,E,o2,L,(λ_ J=>by simp at J),.nil,Ry⟩,h⟩
     |cons z zs=>cases j.1
    |cons z zs=>rw[h] at f;exact Oh (f:Nr=Nk)
   ·obtain⟨is,b,h,p,j,v⟩:=m
    exact⟨b,p,by rw[h];rw[j];rfl⟩
  refine ah D ?_;clear D;intro b D G;clear e M d f;subst G;rw[EE];exact⟨λq=>wpAny_in_of (fh i t) y D.mapOf (Fh hr q),λq=>Wh (fh i t) y D.mapOf (Fh hr q)⟩
 |str i=>
  refine ah B.str_inv λt u _=>?_;clear B;subst u;have D:∃(k:Ni (Ni Nu)) (b:Ni (NX×Nz)),s.heap.DictOf (OD prog P.w) c b/\ks=k.map V.str/\b.map (·.1)=k.map aw:=by
   refine ND (d) (λl=>?_) (λm=>?_)
   ·obtain⟨k,b,h,p,j,v⟩:=l
    exact⟨k,b,p,h,j.1⟩
   ·obtain⟨is,b,h,p,j,v⟩:=m
    induction is using Nw with
    |nil=>
     clear v;induction b using Nw with
     |nil=>
      obtain⟨o,es,C,E,o2,L,I,r,N⟩:=p;have:es=#[]:=by induction g:es.toList using Nw with
       |nil=>exact toList_eq_nil_iff.mp g
       |cons z zs=>rw[g] at r;cases r
      clear I r;subst this;exact⟨[],[],⟨o,#[],C,E,o2,L,(λ_ J=>by simp at J),.nil,Ry⟩,h,rfl⟩
     |cons z zs=>cases j
    |cons z zs=>rw[h] at f;exact Oh (f:Nr=Nk)
  refine aO D ?_;clear D;intro k b D F j;clear e M d f;subst F;rw[EG i k b j];exact⟨λq=>wpAny_in_of (de _ t) y D.mapOf (Fh hr q),λq=>Wh (de _ t) y D.mapOf (Fh hr q)⟩
 | _=>exact Oh (K:Nr=Nk)
def ua(l)(c):(!(Rh (aw l) (aw [c]) 0 (aw l).length 1).isEmpty)=l.contains c:=by rw[show aw [c]=(⟨#[c]⟩ : NX) from rfl];rw[PySem.StrLaws.found_one];rw[Uj];exact Vx.mpr (by(rfl))
def L0(a:At P A n pe nms W H s ρ)(e:eq0 vx vy=xV b)(g:VR P.w P.cA W.fz vx x)(o:VR P.w P.cA W.fz vy y):
  (Q (.bool b) H->bk P A (Pb .Eq x y) (bC P W H s (SV P Q)) (cy P A W H s X) s)/\(Q (.bool (!b)) H->bk P A (Pb .NotEq x y) (bC P W H s (SV P Q)) (cy P A W H s X) s):=by
 have hr:=a.hr;induction vx using Mine.V.casesOn with
 |int i=>exact VR.pP g λt=>cH e o λj u e=>aN e ⟨λq=>eq_int (qS hr q),λq=>ne_int (qS hr q)⟩
 |str l=>exact VR.mS g λt _=>B6 e o λm u e _=>aN e (by
   have h:((aw l)==(aw m))=(l==m):=by rw[uM];rfl
   exact⟨λq=>PyProof.Rows.eq_str (qS hr (by rw[h];exact q)),λq=>PyProof.Rows.ne_str (qS hr (by rw[bne];rw[h];exact q))⟩)
 |bytes l=>refine VR.gH g λc t p _=>?_;clear g;subst p;refine HX e o λd u e _=>aN e ?_;rw[sd];exact⟨λq=>eq_bytes (qS hr q),λq=>ne_bytes (qS hr q)⟩
 | _=>exact gA e
def L5(a:At P A n pe nms W H s ρ)(e:eD 64 vx vy=xV b)(d:VR P.w P.cA W.fz vx x)(c:VR P.w P.cA W.fz vy y):
  (Q (.bool b) H->bk P A (Pb .Eq x y) (bC P W H s (SV P Q)) (cy P A W H s X) s)/\(Q (.bool (!b)) H->bk P A (Pb .NotEq x y) (bC P W H s (SV P Q)) (cy P A W H s X) s):=by
 induction vx using Mine.V.casesOn with
 |tup i=>exact EA e (λj _ c e=>Hh a e d c) c e
 | _=>refine L0 a ?_ d c;exact e
def Ki(a:At P A n pe nms W H s ρ)(e:eqV vx vy H=xV b)(d:VR P.w P.cA W.fz vx x)(c:VR P.w P.cA W.fz vy y):
  (Q (.bool b) H->bk P A (Pb .Eq x y) (bC P W H s (SV P Q)) (cy P A W H s X) s)/\(Q (.bool (!b)) H->bk P A (Pb .NotEq x y) (bC P W H s (SV P Q)) (cy P A W H s X) s):=by
 induction vy using Mine.V.casesOn with
 |lst l=>
  induction l using Nw with
  |nil=>exact jr e λl h=>Hg a h d c
  |cons _ _=>contradiction
 | _=>exact L5 a e d c
def Iu(a:At P A n pe nms W H s ρ)(e:VR P.w P.cA W.fz (.str [c]) x)(d:VR P.w P.cA W.fz (.str l) y):
  (Q (.bool (l.contains c)) H->bk P A (Pb .In x y) (bC P W H s (SV P Q)) (cy P A W H s X) s)/\(Q (.bool (!l.contains c)) H->bk P A (Pb .NotIn x y) (bC P W H s (SV P Q)) (cy P A W H s X) s):=by
 refine ah e.str_inv λt b _=>?_;clear e;subst b;refine ah d.str_inv λu b _=>?_;clear d;subst b;exact⟨λq=>PySem.P.in_str (qS a.hr (by rw[ua];exact q)),λq=>PySem.P.notIn_str (qS a.hr (by rw[ua];exact q))⟩
def Fl(a:At P A n pe nms W H s ρ)(e:EZ vx vy H=xV b)(d:VR P.w P.cA W.fz vx x)(f:VR P.w P.cA W.fz vy y):
  (Q (.bool b) H->bk P A (Pb .In x y) (bC P W H s (SV P Q)) (cy P A W H s X) s)/\(Q (.bool (!b)) H->bk P A (Pb .NotIn x y) (bC P W H s (SV P Q)) (cy P A W H s X) s):=by
 induction vy using Mine.V.casesOn with
 |tup=>exact Hf a e d f
 |str l=>
  refine rL e (λi e d=>?_) d;induction i with
  |nil=>contradiction
  |cons c r=>
   clear tail_ih;induction r with
   |nil=>injection e with e;subst e;exact Iu a d f
   |cons _ _=>contradiction
 |ref c=>
  refine f.ct.symm▸?_;induction q:H c with
  |none=>exact gA ((NN (It vx) q).symm.trans e)
  |some o=>
   have e:It vx (xV o)=xV b:=q▸e;induction o with
   |dict ks us=>exact b9 e λhk=>He a q hk d
   | _=>contradiction
 | _=>contradiction
def Kg{G:Prop}(e:nnV y o=xV b)(k:y=.none->o=xV b->G):G:=by
 induction y using Mine.V.casesOn with
 |none=>exact k rfl e
 | _=>contradiction
def Bj.nb(h:Bj fz ty r x):(x==Tu)=Nr:=h.rec λ_ _ _ e _ _ _=>e▸rfl
def wC(h:VR w cA fz v x):(x==Tu)=!aJ v:=by
 induction v using Mine.V.casesOn with
 |none=>rw[h.none_inv];rfl
 |bool b=>exact h.bool_inv▸rfl
 |int i=>exact h.int_inv.elim λ_ e=>e▸rfl
 |str l=>exact h.str_inv.elim λ_ e=>e.1▸rfl
 |bytes l=>exact h.bR.elim λ_ e=>e.elim λ_ e=>e.1▸rfl
 |ref a=>exact h.ct▸rfl
 |tup=>exact Bj.nb h
 |lst=>exact Bj.nb h
 |ec ks vs=>exact Nd.rec (λ_ _ _ e _ _ _ _ _ _=>e▸rfl) h
 |obj c fs=>exact aaM.rec (n0:=fs.length) (λ_ _ _ _ _ _ e _ _ _ _ _ _ _ _ _ _=>e▸rfl) h
 |mN a b c=>exact aaN.rec (λ_ _ _ _ _ e _ _ _=>e▸rfl) h
def uv(a:At P A n pe nms W H s ρ){b}(e:jg op vx vy H=xV b)(f:VR P.w P.cA W.fz vx x)(d:VR P.w P.cA W.fz vy y)(q:Q (.bool b) H):
  bk P A (Pb (G6 op) x y) (bC P W H s (SV P Q)) (cy P A W H s X) s:=by
 have hr:=a.hr;induction op with
 |eq=>exact(Ki a (e:eqV vx vy H=xV b) f d).1 q
 |ne=>revert q;exact jr (e:(eqV vx vy H).map (!·)=xV b) λc e q=>(Ki a e f d).2 q
 |ud=>exact(Fl a (e:EZ vx vy H=xV b) f d).1 q
 |C4=>revert q;exact jr (e:(EZ vx vy H).map (!·)=xV b) λc e q=>(Fl a e f d).2 q
 |Lg=>refine Kg (e:nnV vy (xV (!aJ vx))=xV b) λz e=>?_;refine(z▸d:VR P.w P.cA W.fz .none y).none_inv▸is_none_gen (qS hr ?_);rw[wC f];injection e with e;exact e▸q
 |vZ=>refine Kg (e:nnV vy (xV (aJ vx))=xV b) λz e=>?_;refine(z▸d:VR P.w P.cA W.fz .none y).none_inv▸isnot_none_gen (qS hr ?_);rw[wC f,NF.not_not];injection e with e;exact e▸q
 |lt=>revert q;exact cH (e:kI vx _=xV b) f λi t e=>cH e d λj u e=>aN e λq=>lt_int (qS hr q)
 |le=>revert q;exact cH (e:kI vx _=xV b) f λi t e=>cH e d λj u e=>aN e λq=>le_int (qS hr q)
 |gt=>revert q;exact cH (e:kI vx _=xV b) f λi t e=>cH e d λj u e=>aN e λq=>gt_int (qS hr q)
 |ge=>revert q;exact cH (e:kI vx _=xV b) f λi t e=>cH e d λj u e=>aN e λq=>ge_int (qS hr q)
def dP{K:α->NJ->Prop}(x:Trans P W H s W' H' s')(h:bk P A m (bC P W' H' s' S) (cy P A W' H' s' X) s')(k:∀W₂ H₂ s₂ y,Trans P W' H' s' W₂ H₂ s₂->S y W₂ H₂ s₂->K y s₂):bk P A m K (cy P A W H s X) s':=
 N4 h (λy s₂ a=>Mine.bo a λW₂ H₂ t r=>k W₂ H₂ s₂ y t r) λ_ _ q=>q.up x
def Mt(j:o=LX op)(d:SE P n pe nms e₁ a)(f:SE P n pe nms e₂ b):SE P n pe nms (.BinOp e₁ o e₂ pos) (.bin op a b):=by
 intro A ρ W H s Q X at_ q
 rw[j];refine wpAny_BinOp (cf (d A ρ W H s _ X at_ q) λW₁ H₁ s₁ x t g=>Mine.ah g λv h q=>dP t (f A ρ W₁ H₁ s₁ _ X (at_.step t) q) λW₂ H₂ s₂ y c g=>Mine.ah g λu i q=>qT (t.trans c) ?_);refine ah (aM q) λz e q=>?_;exact LZ ((at_.step t).step c) e (h.mono c.mono) i q
def H8(h:abP Q v H):∃i,v=.int i/\Q (.int (-i)) H:=by
 induction v using Mine.V.casesOn with
 |int i=>exact⟨i,rfl,h⟩
 | _=>exact h.elim
def My(h:SE P n pe nms e c):SE P n pe nms (.UnaryOp .USub e pos) (.neg c):=by
 intro A ρ W H s Q X at_ q
 refine UnaryOp_ (cf (h A ρ W H s _ X at_ q) λW₁ H₁ s₁ x t b=>Mine.ah b λv d q=>qT t ?_);refine ah (H8 q) λi a q=>?_;subst a;exact VR.pP d λu=>PyProof.Rows.neg_int (cQ t.hr (VR.bV _ _) q)
def MA(h:SE P n pe nms e c):SE P n pe nms (.UnaryOp .Not e pos) (.not c):=by
 intro A ρ W H s Q X at_ q
 refine UnaryOp_ (cf (h A ρ W H s _ X at_ q) λW₁ H₁ s₁ x t f=>Mine.ah f λv g q=>qT t ?_);refine ah (aM q) λb e q=>?_;refine not_of (N4 (qj (Q:=λb H=>Q (.bool (!b)) H) (at_.step t) e g q) (λb s' h=>?_) λ_ _ z=>z);refine bo h ?_;clear h;intro W' H' a d;exact⟨W',H',a,.bool (!b),VR.nZ _,d⟩
def Mu(j:o=G6 op)(hm:SY o e₂=Nr)(d:SE P n pe nms e₁ a)(f:SE P n pe nms e₂ b):SE P n pe nms (.Compare e₁ [o] [e₂] pos) (.cmp op a b):=by
 intro A ρ W H s Q X at_ q
 subst j;refine wpAny_Compare1 (hm:=hm) (cf (d A ρ W H s _ X at_ q) λW₁ H₁ s₁ x t g=>Mine.ah g λv h q=>dP t (f A ρ W₁ H₁ s₁ _ X (at_.step t) q) λW₂ H₂ s₂ y c g=>Mine.ah g λu i q=>qT (t.trans c) ?_);refine ah (aM q) λz e q=>?_;exact uv ((at_.step t).step c) e (h.mono c.mono) i q
def I8(h:SE P n pe nms e c):SE P n pe nms (.BoolOp .And [e] pos) (.and (.cons c .nil)):=by
 intro A ρ W H s Q X at_ q
 exact BoolOp_one (h A ρ W H s Q X at_ q)
def MB(h:SE P n pe nms e c):SE P n pe nms (.BoolOp .Or [e] pos) (.or (.cons c .nil)):=by
 intro A ρ W H s Q X at_ q
 exact BoolOp_one (h A ρ W H s Q X at_ q)
def qO(a:At P A n pe nms W H s ρ)(e:jZ v H=xV b)(d:VR P.w P.cA W.fz v x):
  bk P A (XB x) (bC P W H s (ST λc H'=>c=b/\H'=H)) (cy P A W H s X) s:=qj a e d ⟨rfl,rfl⟩
def Ms{cs}(h:SE P n pe nms e c)(g:SE P n pe nms (.BoolOp .And (j::es) pos) (.and (.cons c' cs))):
  SE P n pe nms (.BoolOp .And (e::j::es) pos) (.and (.cons c (.cons c' cs))):=by
 intro A ρ W H s Q X at_ q
 refine BoolOp_and (cf (h A ρ W H s _ X at_ q) λW₁ H₁ s₁ x t d=>Mine.ah d λv f q=>?_);refine ah (aM q) λb e q=>?_;refine dP t (qO (at_.step t) e f) λW₂ H₂ s₂ c a d=>Mine.A2 d λi k=>?_;clear d;subst i;clear e;subst k;clear d;induction c
 ·exact⟨W₂,H₂,t.trans a,v,f.mono a.mono,q⟩
 ·exact qT (t.trans a) (g A ρ W₂ H₂ s₂ Q X ((at_.step t).step a) q)
def acr{cs}(h:SE P n pe nms e c)(g:SE P n pe nms (.BoolOp .Or (j::es) pos) (.or (.cons c' cs))):
  SE P n pe nms (.BoolOp .Or (e::j::es) pos) (.or (.cons c (.cons c' cs))):=by
 intro A ρ W H s Q X at_ q
 refine BoolOp_or (cf (h A ρ W H s _ X at_ q) λW₁ H₁ s₁ x t d=>Mine.ah d λv f q=>?_);refine ah (aM q) λb e q=>?_;refine dP t (qO (at_.step t) e f) λW₂ H₂ s₂ c a d=>Mine.A2 d λi k=>?_;clear d;subst i;clear e;subst k;clear d;induction c
 ·exact qT (t.trans a) (g A ρ W₂ H₂ s₂ Q X ((at_.step t).step a) q)
 ·exact⟨W₂,H₂,t.trans a,v,f.mono a.mono,q⟩
def acy(he:∀a,isTrue e pe a=(do let v <- a;WX e.pos;holding [v] (XB v)))(h:SE P n pe nms e c):lq P n pe nms e (.tv c):=by
 intro A ρ W H s Q X at_ q
 refine isTrue_plain (he:=he _) (cf (h A ρ W H s _ X at_ q) λW₁ H₁ s₁ x t d=>Mine.ah d λv f q=>qT t ?_);refine ah (aM q) λb e q=>?_;exact qj (at_.step t) e f q
def MQ(h:lq P n pe nms e c):lq P n pe nms (.UnaryOp .Not e pos) (.not c):=by
 intro A ρ W H s Q X at_ q
 exact isTrue_not (h A ρ W H s _ X at_ q)
def MP(r:o=G6 op)(hm:SY o e₂=Nr)(g:SE P n pe nms e₁ a)(h:SE P n pe nms e₂ b):lq P n pe nms (.Compare e₁ [o] [e₂] pos) (.cmp op a b):=by
 intro A ρ W H s Q X at_ q
 subst r;refine wpAny_isTrue_Compare1 (hm:=hm) (cf (g A ρ W H s _ X at_ q) λW₁ H₁ s₁ x t f=>Mine.ah f λv l q=>dP t (h A ρ W₁ H₁ s₁ _ X (at_.step t) q) λW₂ H₂ s₂ y d f=>Mine.ah f λu m q=>?_);refine ah (aM q) λz e q=>?_;refine dP (t.trans d) (uv (Q:=λv H'=>v=.bool z/\H'=H₂) ((at_.step t).step d) e (l.mono d.mono) m ⟨rfl,rfl⟩) λW₃ H₃ s₃ c i f=>Mine.a9 f λv' j k p=>?_;subst k;clear f e;clear f;subst p;haveI:=j.bool_inv;rw[this];exact QT ⟨W₃,H₃,(t.trans d).trans i,q⟩
def Jv(ho:o=G6 op)(J:o'=G6 op')(hm:lastMarks [o,o'] [e₂,e₃]=Nr)(j:SE P n pe nms e₁ a)(B:SE P n pe nms e₂ b)(l:SE P n pe nms e₃ c):
  lq P n pe nms (.Compare e₁ [o,o'] [e₂,e₃] pos) (.ig op op' a b c):=by
 intro A ρ W H s Q X at_ q
 rw[ho];subst J;refine isTrue_chain (hm:=hm) (cf (j A ρ W H s _ X at_ q) λW₁ H₁ s₁ x t h=>Mine.ah h λv V q=>test_link (dP t (B A ρ W₁ H₁ s₁ _ X (at_.step t) q) λW₂ H₂ s₂ y f h=>Mine.ah h λu N q=>?_));haveI G:=t.trans f;refine ah (aM q) λz e q=>?_;refine dP G (uv (Q:=λv H'=>v=.bool z/\H'=H₂) (at_.step G) e (V.mono f.mono) N ⟨rfl,rfl⟩) λW₃ H₃ s₃ d i h=>Mine.a9 h λv' F U Y=>?_;subst U;clear f e;subst Y;haveI C:=G.trans i;haveI:=F.bool_inv;rw[this];refine QT ?_;clear F;induction z
 ·exact⟨W₃,H₃,C,q⟩
 ·refine test_last (dP C (l A ρ W₃ H₃ s₃ _ X (at_.step C) q) λT w L y' g h=>Mine.ah h λu' D q=>?_)
  haveI E:=C.trans g;refine ah (aM q) λZ M q=>?_;refine dP E (uv (Q:=λv H'=>v=.bool Z/\H'=w) (at_.step E) M ((N.mono i.mono).mono g.mono) D ⟨rfl,rfl⟩) λp m O d' r h=>Mine.a9 h λv'' k K I=>?_;subst K;clear g h M;clear h;subst I;haveI:=k.bool_inv;rw[this];exact QT ⟨p,m,E.trans r,q⟩
def zg:lq P n pe nms (.BoolOp .And [] pos) (.and .nil):=by
 intro A ρ W H s Q X at_ q
 exact isTrue_and_nil (bC.here at_.hr q)
def CF:lq P n pe nms (.BoolOp .Or [] pos) (.or .nil):=by
 intro A ρ W H s Q X at_ q
 exact isTrue_or_nil (bC.here at_.hr q)
def B1:isTrue (.BoolOp .And es pos) pe w=isTrue (.BoolOp .And es pos) pe w':=rfl
def C3:isTrue (.BoolOp .Or es pos) pe w=isTrue (.BoolOp .Or es pos) pe w':=rfl
def MO(h:lq P n pe nms e c)(a:lq P n pe nms (.BoolOp .And es pos) (.and cs)):lq P n pe nms (.BoolOp .And (e::es) pos) (.and (.cons c cs)):=by
 intro A ρ W H s Q X at_ q
 refine isTrue_and (cf (h A ρ W H s _ X at_ q) λW₁ H₁ s₁ b t q=>?_);induction b
 ·exact⟨W₁,H₁,t,q⟩
 ·exact qT t (a A ρ W₁ H₁ s₁ Q X (at_.step t) q)
def acx(h:lq P n pe nms e c)(a:lq P n pe nms (.BoolOp .Or es pos) (.or cs)):lq P n pe nms (.BoolOp .Or (e::es) pos) (.or (.cons c cs)):=by
 intro A ρ W H s Q X at_ q
 refine isTrue_or (cf (h A ρ W H s _ X at_ q) λW₁ H₁ s₁ b t q=>?_);induction b
 ·exact qT t (a A ρ W₁ H₁ s₁ Q X (at_.step t) q)
 ·exact⟨W₁,H₁,t,q⟩
end
section
variable {P:bx}{mg mb:NX->Nt Nz}{n:Nu}{pe:NO}{nms:Ni NX}{A:Oj}{ρ:Env}{W:Wd}{H:ae}{s:NJ}{Q:av}{X:Prop}
def mO(h:ik k n=Nk):seqIndex? k n=xV (ft k n):=by
 simp only[ik,N8] at h;unfold seqIndex? ft;refine(NG (0<=k)).elim (λq=>?_) (λq=>?_)
 ·rw[Np q]
  haveI:¬ k<0:=by exact aao q
  simp only[this,Ub];rw[Np (by lia)];rfl
 ·rw[Nl q]
  haveI:k<0:=by exact aan q
  simp only[this,VX];rw[Np (by lia)];rfl
def dR(P:bx)(A:Oj)(W:Wd)(H:ae)(s:NJ)(Q:av)(X:Prop)(x i:Nz):Prop:=
 bk P A (getItem x i) (bC P W H s (SV P Q)) (cy P A W H s X) s/\∃T id,s.TypeIs x T/\U0 (.type T) "__getitem__" = pure (xV (.builtin id))
def yI(a:At P A n pe nms W H s ρ){c:Nu}(f:ik k b.length=Nk)(e:b[ft k b.length]?=xV c)(m:VR P.w P.cA W.fz (.bytes b) x)(hi:VR P.w P.cA W.fz (.int k) i)(q:Q (.int c) H):dR P A W H s Q X x i:=by
 refine aO m.bR λarr t g h l=>?_;subst g;subst h;refine X1 hi.int_inv λu j=>?_;clear hi;subst j;rw[NR,NW] at f e;rw[OB,Ov,N2] at e;refine ah e ?_;clear e;intro d e g;subst g;refine⟨getItem_gives (Oa s _ t) (by decide) FB.slot_bytes_getitem FB.entry_bytes_getitem (FB.args_bytes_getitem_2 _ _) (gives_bytes_getitem _ k t u d ?_ ?_) (cQ a.hr (VR.bV _ _) q), "bytes",_,Oa _ _ _,FB.slot_bytes_getitem.lookup⟩
 ·simp only[ik,N8] at f
  simp only[aL] at l;simp only[Pq.Bytes.fitsIndex,Od,N8];exact⟨zI [_] [_] [R0 V0 (zc 1073741824),R4 (zn (zu V0)) V0] (zn (zc (2 ^ 63))) V0 [1,1,1] rfl l f.1,zI [_] [_] [R0 V0 (zc 1073741824),R4 (S1 V0) (zu V0)] (S1 V0) (zc (2 ^ 63)) [1,1,1] rfl l f.2⟩
 ·rw[mO f];exact e
def Er(a:At P A n pe nms W H s ρ)(e:uZ vs k=xV v)(l:VR P.w P.cA W.fz (.tup vs) x)(hi:VR P.w P.cA W.fz (.int k) i)(q:Q v H):dR P A W H s Q X x i:=by haveI hr:=a.hr;obtain⟨c,xs,m,rfl,o,f,r1⟩:=l;refine X1 hi.int_inv λu h=>?_;clear hi;subst h;simp only[uZ,Tv] at e;refine A2 e ?_;clear e;intro b e;refine ah (r1.get e) λy g r=>?_;haveI j:=r1.length;rw[NW] at j;rw[<- j] at b g;rw[Ov] at g;simp only[aL] at f;haveI d:=b;simp only[ik,N8] at b;haveI T:IsTup s.heap c xs:=⟨_,hr.fz _ _ o,rfl,m,rfl⟩;exact⟨PyProof.Rows.getItem_tuple T (zI [_] [_] [R0 V0 (zc 1073741824),R4 (zn (zu V0)) V0] (zn (zc (2 ^ 63))) V0 [1,1,1] rfl f b.1) (zI [_] [_] [R0 V0 (zc 1073741824),R4 (S1 V0) (zu V0)] (S1 V0) (zc (2 ^ 63)) [1,1,1] rfl f b.2) (mO d) g (C5 hr r q), "tuple",_,T.typeIs,slot_tuple_getitem.lookup⟩
def sF(a:At P A n pe nms W H s ρ)(t:bj w H=xV vs)(e:uZ vs k=xV v)(o:VR P.w P.cA W.fz w x)(hi:VR P.w P.cA W.fz (.int k) i)(q:Q v H):dR P A W H s Q X x i:=by
 haveI hr:=a.hr;refine bO (hr.list t o) λc xs m h p g r1=>?_;clear o;subst h;refine X1 hi.int_inv λu j=>?_;clear hi;subst j;simp only[uZ,Tv] at e;refine A2 e ?_;clear e;intro b e;refine ah (r1.get e) λy d r=>?_;haveI l:=r1.length;rw[NW] at l;rw[<- l] at b d;rw[Ov] at d;simp only[aL] at g;simp only[ik,N8] at b;haveI T:=aZ p;refine⟨?_, "list",_,T.typeIs,Ve.lookup⟩;by_cases f:0<=k
 ·rw[ft,Np f] at d
  exact wpAny_getItem_list T f (zI [_] [_] [R0 V0 (zc 1073741824),R4 (S1 V0) (zu V0)] (S1 V0) (zc (2 ^ 63)) [1,1,1] rfl g b.2) d (C5 hr r q)
 ·rw[ft,Nl f] at d
  exact wpAny_getItem_list_neg T (aan f) (b.1) (zI [_] [_] [R0 V0 (zc 1073741824),R4 (zn (zu V0)) V0] (zn (zc (2 ^ 63))) V0 [1,1,1] rfl g b.1) d (C5 hr r q)
def Eo(a:At P A n pe nms W H s ρ)(e:b7 k ks vs=xV v)(g:VR P.w P.cA W.fz (.ec ks vs) x)(hi:VR P.w P.cA W.fz (.str k) i)(q:Q v H):dR P A W H s Q X x i:=by haveI hr:=a.hr;obtain⟨c,o,f,rfl,j,l,d,m,hk,r1⟩:=g;refine ah hi.str_inv λt b _=>?_;clear hi;subst b;haveI D:=fB.of (hr.fz _ _ j) d;refine ah (pK hk.1 r1 e) λy h r=>?_;exact⟨S9 (de _ t) D.mapOf h (cQ hr r q), "dict",_,D.typeIs,SF.lookup⟩
def JV(hr:HR P W H s.heap)(e:H c=xV (.dict ks vs))(hk:(iF (.str i) (.str i)&&ks.all (iF (.str i)))=Nk):
  (c==RI)=Nr/\ks.length<=aL/\∃(g:Ni (Ni Nu)) (a:Ni (NX×Nz)),s.heap.DictOf (OD prog P.w) c a/\ks=g.map V.str/\(a.map (·.1)=g.map aw/\∀k∈g,k.length<=aL)/\aB P.w P.cA W.fz vs (a.map (·.2)):=by
 refine A3 (hr.live _ _ e) λt u d=>?_;refine⟨t,u,?_⟩;refine ND (d) (λj=>?_) (λb=>?_)
 ·obtain⟨g,a,h,l,n,m⟩:=j
  exact⟨g,a,l,h,n,m⟩
 ·obtain⟨is,a,h,l,n,m⟩:=b
  induction is using Nw with
  |nil=>
   induction a using Nw with
   |nil=>
    refine Mine.bO l λo es q r o2 x b=>?_;refine Mine.A3 b λA p y=>?_;have:es=#[]:=by induction f:es.toList using Nw with
     |nil=>exact toList_eq_nil_iff.mp f
     |cons z zs=>replace p:=(f)▸p;contradiction
    subst this;exact⟨[],[],⟨o,#[],q,r,o2,x,(λ_ v=>by simp at v),.nil,Ry⟩,h,⟨rfl,by(decide)⟩,m⟩
   |cons z zs=>contradiction
  |cons z zs=>rw[h] at hk;contradiction
def JU(hr:HR P W H s.heap)(e:H c=xV (.dict ks vs))(hk:(iF (.int i) (.int i)&&ks.all (iF (.int i)))=Nk):
  (c==RI)=Nr/\ks.length<=aL/\∃(a:Ni (N6×Nz)),s.heap.DictOf (SW prog P.w) c a/\ks=(a.map (·.1)).map V.int/\aB P.w P.cA W.fz vs (a.map (·.2)):=by
 refine A3 (hr.live _ _ e) λq r d=>?_;refine⟨q,r,?_⟩;refine ND (d) (λj=>?_) (λb=>?_)
 ·obtain⟨t,a,g,k,h,l⟩:=j
  induction t using Nw with
  |nil=>
   induction a using Nw with
   |nil=>
    refine Mine.bO k λo es n p o2 v b=>?_;refine Mine.A3 b λy m x=>?_;have:es=#[]:=by induction f:es.toList using Nw with
     |nil=>exact toList_eq_nil_iff.mp f
     |cons z zs=>replace m:=(f)▸m;contradiction
    subst this;exact⟨[],⟨o,#[],n,p,o2,v,(λ_ u=>by simp at u),.nil,Ry⟩,g,l⟩
   |cons z zs=>cases h.1
  |cons z zs=>rw[g] at hk;contradiction
 ·obtain⟨is,a,g,k,h,l⟩:=b
  exact⟨a,k,by rw[g];rw[h];rfl,l⟩
set_option tactic.hygienic true in
def B3(a:At P A n pe nms W H s ρ)(hd:H c=xV (.dict ks vs))(hk:(iF k k&&ks.all (iF k))=Nk)(e:yu k ks vs=xV v)(hi:VR P.w P.cA W.fz k i)(q:Q v H):dR P A W H s Q X (.ref c) i:=by
 have hr:=a.hr;induction k using Mine.V.casesOn<;>(try contradiction;done)
 case int j=>
  obtain⟨_,_,d,D,rfl,r⟩:=JU hr hd hk;refine X1 hi.int_inv λt b=>?_;subst b;refine ah (D3 r e) λy f r=>?_;exact⟨S9 (fh _ t) D.mapOf f (cQ hr r q), "dict",_,D.typeIs,SF.lookup⟩
 case str j=>
  obtain⟨_,_,h,d,D,rfl,g,r⟩:=JV hr hd hk;refine ah hi.str_inv λt b _=>?_;subst b;rw[D4 (v:=v)] at e;refine ah (pK g.1 r e) λy f r=>?_;exact⟨S9 (de _ t) D.mapOf f (cQ hr r q), "dict",_,D.typeIs,SF.lookup⟩
def Ep(a:At P A n pe nms W H s ρ)(e:Ee (H c) d=xV v)(f:VR P.w P.cA W.fz (.ref c) x)(hi:VR P.w P.cA W.fz d i)(q:Q v H):dR P A W H s Q X x i:=by
 induction b:H c with
 |none=>rw[b] at e;exact gA e
 |some o=>
  replace e:=(b)▸e;induction o with
  |list vs=>exact wc e (λk e hi=>sF a (pY b) e f hi q) hi
  |dict ks vs=>refine ky e λhk e=>?_;cases f.ct;exact B3 a b hk e hi q
  |inst c fs=>exact gA e
def L7(a:At P A n pe nms W H s ρ)(e:gQ vx d H=xV v)(f:VR P.w P.cA W.fz vx x)(hi:VR P.w P.cA W.fz d i)(q:Q v H):dR P A W H s Q X x i:=by
 induction vx using Mine.V.casesOn with
 |bytes b=>exact wc e (λk e hi=>ky e λg e=>by rw[N2] at e;refine ah e ?_;clear e;intro c h z;rw[<- z] at q;exact yI a g h f hi q) hi
 |tup vs=>exact wc e (λk e hi=>Er a e f hi q) hi
 |lst vs=>exact wc e (λk e hi=>sF a rfl e f hi q) hi
 |ec ks vs=>exact rL e (λk e hi=>Eo a e f hi q) hi
 |ref c=>exact Ep a e f hi q
 | _=>exact gA e
noncomputable def qf(e:Expr):NF:=e.ctorIdx !=26
def lh(h:qf e=Nk):subscripted e Nr o i=operate [o,i] (getItem o i):=by induction e using NZ<;>first|rfl|exact Oh h
def Mv(m:qf e₂=Nk)(f:SE P n pe nms e₁ a)(h:SE P n pe nms e₂ b):SE P n pe nms (.Subscript e₁ e₂ pos) (.idx a b):=by
 intro A ρ W H s Q X at_ q
 refine Subscript_ (cf (f A ρ W H s _ X at_ q) λW₁ H₁ s₁ x t d=>Mine.ah d λv i q=>dP t (h A ρ W₁ H₁ s₁ _ X (at_.step t) q) λW₂ H₂ s₂ y c d=>Mine.ah d λu k q=>qT (t.trans c) ?_);refine ah (aM q) λz e q=>?_;refine(L7 (X:=X) ((at_.step t).step c) e (i.mono c.mono) k q).elim λg d=>d.elim λT d=>d.elim λid d=>d.elim λl j=>?_;exact tail_any l j g (lh m)
def SPt(P:bx)(n:Nu)(pe:NO)(nms:Ni NX)(e:Nt Expr)(c:aF):Prop:=
 ∀A ρ W H s (Q:av) (X:Prop),At P A n pe nms W H s ρ->cL (call n) c ρ H Q X->bk P A (evalPart e pe) (bC P W H s (SV P Q)) (cy P A W H s X) s
def w6:SPt P n pe nms Nm .absent:=by
 intro A ρ W H s Q X at_ q
 exact NC (C5 at_.hr VR.of_none q)
def w7(h:SE P n pe nms e c):SPt P n pe nms (xV e) c:=h
def Trans.jJ(hr:HR P W H s.heap)(o):Trans P W H s W H { s with heap:=s.heap.push o }:=Trans.of_keeps hr (λ_ _ e=>NI o e) rfl rfl
def mx0(x:N6):(max 0 x).toNat=x.toNat:=by induction x<;>rfl
def jC(i)(n):oS i n=Qg n i:=by
 induction i with
 |ofNat k=>exact((mx0 _).trans (NN Rf (Nu.le_total k n|>.elim (λh=>(VN (Pk.mpr h)).trans (NN WI (Qh h).symm)) λh=>(N6.min_eq_right (Pk.mpr h)).trans (NN WI (Nu.min_eq_right h).symm)))).symm
 |negSucc k=>have h:=VO k;unfold oS Qg;rw[Nl (Tn.mpr h),Np h,mx0,VN (O5 (T6 (Vf h) n) (U9 (Sk _)))]
def AG(h:VR w cA fz v x)(e:dM v d n=xV k):∃p,Vy x p/\(∃q:Nt (N6×Tok),x=Qi q/\p=q.map (·.1))/\∀d n k,dM v d n=xV k->k=p.elim d (Qg n):=by
 induction v using Mine.V.casesOn with
 |none=>exact h.none_inv▸⟨Nm,.none,⟨Nm,rfl,rfl⟩,λd n k e=>(N1 e).symm⟩
 |int i=>refine h.int_inv.elim λt z=>z▸⟨xV i,.int _ _,⟨xV (i,t),rfl,rfl⟩,λd n k e=>?_⟩;exact b9 e λ_=>jC ..
 | _=>contradiction
def xU(l:Ni α)(a b):dS l a b=(l.drop a).take (b - a):=by unfold dS;rw[drop_take];rfl
def zY(l:Ni α)(a b):(dS l a b).length<=l.length:=by unfold dS;simp;exact cR [R0 V0 V1] V0 (zp V1 V2) rfl (RG _ _)
theorem aB.take:∀{vs} {xs} n,aB w cA fz vs xs->aB w cA fz (vs.take n) (xs.take n)
 | _,_,0=>λ_=>by simpa using aB.nil
 |[],_,n+1=>λh=>by cases(h:_=[]);simpa using aB.nil
 |v::vs,_,n+1=>λh=>by refine aO h ?_;clear h;intro y r a c b;subst a;simpa using aB.cons c (b.take n)
theorem aB.drop:∀{vs} {xs} n,aB w cA fz vs xs->aB w cA fz (vs.drop n) (xs.drop n)
 | _,_,0=>λh=>by simpa using h
 |[],_,n+1=>λh=>by cases(h:_=[]);simpa using aB.nil
 |v::vs,_,n+1=>λh=>by refine aO h ?_;clear h;intro y r a c b;subst a;simpa using b.drop n
def aB.cut(h:aB w cA fz vs xs)(a b):aB w cA fz (dS vs a b) (dS xs a b):=(h.take b).drop a
def CL:Txt.slice (aw l) p q=aw (dS l (p.elim 0 (Qg l.length)) (q.elim l.length (Qg l.length))):=by
 have e:PZ p q 1 (aw l).length=sliceRange (sliceBounds p q Nm l.length).1 (sliceBounds p q Nm l.length).2.1 1:=by induction p<;>induction q<;>rfl
 have a:((PZ p q 1 (aw l).length).filterMap ((aw l).cps[·]?)).toArray=(dS l (p.elim 0 (Qg l.length)) (q.elim l.length (Qg l.length))).toArray:=by
  rw[e];rw[Vg];rw[Wi];rw[pick_run];rw[xU]
  (rfl)
 unfold Txt.slice;split
 ·rename_i h
  simp only[Od,Ob] at h;haveI c:=h.2;have g:((PZ p q 1 (aw l).length).filterMap ((aw l).cps[·]?)).length=(dS l (p.elim 0 (Qg l.length)) (q.elim l.length (Qg l.length))).length:=by haveI:=NN Vc a;simp only at this;rw[this];rfl
  have b:(PZ p q 1 (aw l).length).length=(q.elim l.length (Qg l.length)) - (p.elim 0 (Qg l.length)):=by rw[e];rw[Vg];rw[Wi];simp
  have j:(p.elim 0 (Qg l.length))<=l.length:=by
   clear e a h c g b;induction p with
   |none=>simp
   |some i=>simp only[Xu];rewrite [<- jC];unfold oS;split<;>grind
  have d:(q.elim l.length (Qg l.length))<=l.length:=by
   clear e a h c g b;induction q with
   |none=>simp
   |some i=>simp only[Xu];rewrite [<- jC];unfold oS;split<;>lia
  rw[cC] at c;rw[cC,c] at b;haveI f:(p.elim 0 (Qg l.length))=0:=by exact zE [_,_,_,_] [] [R2 V1 V2,R0 V3 V1,R2 (zp V2 V0) V3] V0 K0 [1,1,1,1] [1,0,0,0] rfl rfl b d (NT (gb [R2 V2 V3,R0 V0 V2,R0 V3 V1] V0 V1 rfl b j (QR _ _)))
  haveI k:(q.elim l.length (Qg l.length))=l.length:=by exact adO b d f
  rw[f];rw[k];simp[dS]
 ·rw[a];rfl
end
section
variable {P:bx}{mg mb:NX->Nt Nz}{n:Nu}{pe:NO}{nms:Ni NX}{A:Oj}{ρ:Env}{W:Wd}{H:ae}{s:NJ}{Q:av}{X:Prop}
def bH(h:n<=lim):n<=QX:=by rw[O0];simp only[lim] at h;exact C7 h
def zh(a:At P A n pe nms W H s ρ)(i:VR P.w P.cA W.fz (.bytes b) x)(j:Vy l p)(g:Vy h q)(d:b.length<=lim)(k:Q (.bytes (dS b (p.elim 0 (Qg b.length)) (q.elim b.length (Qg b.length)))) H):
  dR P A W H { s with heap:=s.heap.push { cls:=.type "slice",data:=.fields #[l,h,.none] } } Q X x (.ref s.heap.objs.size):=by
 refine aO i.bR λarr t f e _=>?_;subst f;subst e;rw[NR,NW] at d k;haveI T:=Trans.jJ a.hr { cls:=.type "slice",data:=.fields #[l,h,.none] };haveI c:=KBc.size_picked_le arr p q;refine⟨getItem_meets (Oa _ _ _) (by decide) FB.slot_bytes_getitem FB.entry_bytes_getitem (FB.args_bytes_getitem_2 _ _) (KBc.meets_slice2 arr t _ j g)
  ⟨Heap.IsSliceOf.new _ _ _ _,Nj c (bH d),λm k'=>cQ T.hr ?_ k⟩, "bytes",_,Oa _ _ _,FB.slot_bytes_getitem.lookup⟩
 refine⟨_,_,rfl,?_,by dsimp only[aL];dsimp only[lim] at d;exact Nj c (Nj d (by decide))⟩;rw[KBc.picked_eq];rw[xU];refine bB (NU map_drop) (bB (NU map_take) ?_);rfl
def JD(a:At P A n pe nms W H s ρ)(f:VR P.w P.cA W.fz (.str b) x)(d:b.length<=lim)(k:Q (.str (dS b ((p.map (·.1)).elim 0 (Qg b.length)) ((q.map (·.1)).elim b.length (Qg b.length)))) H):
  dR P A W H { s with heap:=s.heap.push { cls:=.type "slice",data:=.fields #[Qi p,Qi q,.none] } } Q X x (.ref s.heap.objs.size):=by
 refine ah f.str_inv λt c _=>?_;clear f;subst c;haveI T:=Trans.jJ a.hr { cls:=.type "slice",data:=.fields #[Qi p,Qi q,.none] };refine⟨wpAny_getItem_str_slice (st:=Nm) ⟨_,Oy _ rfl,rfl,rfl⟩ rfl ?_, "str",_,U1 _ _ _,F.slot_str_getitem.lookup⟩;refine post_val_or_str ⟨Nj (Txt.slice_le (aw b) _ _) (bH d),λe k'=>?_⟩;refine cQ T.hr ?_ k;haveI:=CL (l:=b) (p:=p.map (·.1)) (q:=q.map (·.1));exact⟨e,NN (Nz.str · e) this,Nj (zY _ _ _) (by dsimp only[aL];dsimp only[lim] at d;exact GP d)⟩
def JC(a:At P A n pe nms W H s ρ)(j:VR P.w P.cA W.fz (.lst b) x)(t:Vy l p)(i:Vy h q)(o:b.length<=lim)(k:Q (.lst (dS b (p.elim 0 (Qg b.length)) (q.elim b.length (Qg b.length)))) H):
  dR P A W H { s with heap:=s.heap.push { cls:=.type "slice",data:=.fields #[l,h,.none] } } Q X x (.ref s.heap.objs.size):=by
 refine bO (a.hr.list rfl j) λc xs m f r g r1=>?_;subst f;haveI T:=Trans.jJ a.hr { cls:=.type "slice",data:=.fields #[l,h,.none] };haveI L:=(aZ r).push { cls:=.type "slice",data:=.fields #[l,h,.none] };haveI d:=r1.length;replace d:=(NW)▸d;refine⟨wpAny_getItem_list_slice L (Heap.IsSliceOf.new ..) t i .none (by(decide)) ?_ (by rw[d];exact bH o), "list",_,L.typeIs,Ve.lookup⟩;haveI e:=slicePick_plain xs p q;rw[<- xU,d] at e;refine⟨_,_,Trans.alloc T.hr rfl,.lst _,?_,k⟩;refine⟨_,_,_,rfl,Wd.bP ..,?_,?_⟩
 ·rw[e];rw[Pp];exact Nj (zY _ _ _) g
 ·rw[e]
  exact(r1.cut _ _).mono (Wd.bQ T.hr.cI.2.1) _ _
def Ma(a:At P A n pe nms W H s ρ)(e:jY vx vl vh=xV v)(o:VR P.w P.cA W.fz vx x)(z:VR P.w P.cA W.fz vl l)(y:VR P.w P.cA W.fz vh h)(k:Q v H):
  dR P A W H { s with heap:=s.heap.push { cls:=.type "slice",data:=.fields #[l,h,.none] } } Q X x (.ref s.heap.objs.size):=by
 have key:∀(m:Nu)(f:Nu->Nu->V),o2 (dM vl 0 m) (dM vh m m) (λl h=>if m<=lim then xV (f l h) else Nm)=xV v ->
   (∀p q,m<=lim->Vy l p->Vy h q->(∃i:Nt (N6×Tok),l=Qi i/\p=i.map (·.1))->(∃j:Nt (N6×Tok),h=Qi j/\q=j.map (·.1))->Q (f (p.elim 0 (Qg m)) (q.elim m (Qg m))) H->dR P A W H { s with heap:=s.heap.push { cls:=.type "slice",data:=.fields #[l,h,.none] } } Q X x (.ref s.heap.objs.size)) ->
   dR P A W H { s with heap:=s.heap.push { cls:=.type "slice",data:=.fields #[l,h,.none] } } Q X x (.ref s.heap.objs.size):=by
  intro m f e K;refine aeZ e λa b r t e=>?_;refine a9 (AG z r) λp d i u=>?_;refine a9 (AG y t) λq g j eq=>?_;revert k;exact b9 e λc k=>K p q c d g i j (u _ _ _ r▸eq _ _ _ t▸k)
 induction vx using Mine.V.casesOn with
 |str b=>exact key _ (λl h=>.str (dS b l h)) e λp q c d g ⟨i,E,C⟩ ⟨j,B,D⟩ k=>by subst E C B D;exact JD a o c k
 |bytes b=>exact key _ (λl h=>.bytes (dS b l h)) e λp q c d g _ _ k=>zh a o d g c k
 |lst b=>exact key _ (λl h=>.lst (dS b l h)) e λp q c d g _ _ k=>JC a o d g c k
 | _=>contradiction
def MC{lo hi}(h:SE P n pe nms e c)(j:SPt P n pe nms lo cl)(o:SPt P n pe nms hi ch):SE P n pe nms (.Subscript e (.Slice lo hi Nm p) pos) (.xn c cl ch):=by
 intro A ρ W H s Q X at_ q
 refine Subscript_ (cf (h A ρ W H s _ X at_ q) λW₁ H₁ s₁ x t a=>Mine.ah a λv w q=>wpAny_Slice (dP t (j A ρ W₁ H₁ s₁ _ X (at_.step t) q) λW₂ H₂ s₂ l d a=>Mine.ah a λu y q=>?_));haveI i:=t.trans d;refine dP i (o A ρ W₂ H₂ s₂ _ X (at_.step i) q) λW₃ H₃ s₃ r b a=>Mine.ah a λC f q=>?_;haveI k:=i.trans b;refine NC ?_;haveI m:=at_.step k;haveI J:=Trans.jJ m.hr { cls:=.type "slice",data:=.fields #[l,r,.none] };refine qT (k.trans J) (ah (aM q) ?_);intro z e q;refine(Ma (X:=X) m e ((w.mono d.mono).mono b.mono) (y.mono b.mono) f q).elim λg a=>a.elim λT a=>a.elim λid a=>a.elim λB j=>?_;exact tail_any B j g (by induction lo<;>induction hi<;>rfl)
end
noncomputable def vtW(cA:eX->OO):VT->Nz
 |.none=>.type "NoneType" |.bool=>.type "bool" |.int=>.type "int" |.list=>.type "list" |.dict=>.type "dict" |.own c=>.ref (cA c)
noncomputable def tyW(cA:eX->OO):Ty->Nz
 |.bool=>.type "bool" |.int=>.type "int" |.list=>.type "list" |.dict=>.type "dict" |.own c=>.ref (cA c)
abbrev vtV(P:bx):VT->Nz:=vtW P.cA
abbrev M1(P:bx):Ty->Nz:=tyW P.cA
structure PC(P:bx)(K:PS):Prop where
 iF:K.In P.B0
 get:∀c nm,plainGet K (P.cA c) nm=Nk
 D9:∀c,hasDictIn K (P.cA c)=Nk
 fld:∀c f,f∈aG c->∃attr,P0 K (.ref (P.cA c)) (az f)=xV attr/\noGet K attr=Nk
 isi:∀vt ty,kitOne K (vtV P vt) (M1 P ty)=xV (lV vt ty)
 cls:∀c,P0 K (.ref (P.cA c)) "__class__" = xV (xV (.builtin "object.__class__"))
 aaZ:specialIn K (.builtin "object.__class__") "__get__" = xV (xV (.builtin "getset_descriptor.__get__"))
 aa0:takesIn K (.builtin "object.__class__")=xV Nk
 acC:∀c,P0 K (.ref (P.cA c)) "__setattr__" = xV (xV (.builtin "object.__setattr__"))
 over:∀c,plainOver K (P.cA c)=Nk
 take:∀c f,f∈aG c->takerIn K (P.cA c) (az f)=xV Nm
 mro:∀c,mroIn K (P.cA c) (.type "object")=xV Nk
section
variable {P:bx}{K:PS}{mg mb:NX->Nt Nz}{n:Nu}{pe:NO}{nms:Ni NX}{A:Oj}{ρ:Env}{W:Wd}{H:ae}{s:NJ}{Q:av}{X:Prop}
def PC.here(pc:PC P K)(hr:HR P W H s.heap):K.In s.heap:=λa o e=>hr.lS (pc.iF a o e)
def Cr:∀{F}{fs},GX w cA fz F fs es->AI f F fs=xV u->f∈F/\∃y,RY es (az f)=xV y/\VR w cA fz u y:=by
 intro i;induction i with
 |nil=>intro _ _ e;contradiction
 |cons g F c=>
  intro j;induction j with
  |nil=>intro _ e;contradiction
  |cons v fs=>
   intro h e;refine A2 h ?_;clear h;intro d k;refine ah d ?_;clear d;intro y m l;haveI e:(if f=g then xV v else AI f F fs)=xV u:=e;by_cases q:f=g
   ·replace e:=(Np q)▸e
    injection e with e;clear c tail_ih;subst e
    rw[q];exact⟨.head _,y,m,l⟩
   ·rw[Nl q] at e
    refine A2 (c k e) λa b=>?_;exact⟨.tail _ a,b⟩
def sM(hd:o.data=.dict es m)(e:RY es name=xV y):Wj name o=xV (xV y):=by unfold Wj;rw[hd];dsimp only;unfold RY findBy at e;rw[<- U2,N2] at e;refine ah e ?_;clear e;intro z b a;rw[b];dsimp only;rw[a];rfl
def iG(hd:o.data=.dict es m)(hk:StrKeys es)(e:RY es name=Nm):Wj name o=xV Nm:=by unfold Wj;rw[hd];dsimp only;unfold RY findBy at e;rw[<- U2,map_eq_none_iff] at e;rw[e];dsimp only;rw[Nl];rfl;intro h;rw[Tb] at h;refine ah h ?_;clear h;intro z b a;refine X2 (hk z (by simpa using b)) λ_ _ q=>?_;unfold DictEntry.refKey at a;replace a:=(q)▸a;contradiction
set_option tactic.hygienic true in
def VR.handed(h:VR w cA fz v x):handedIn x=Nk:=by
 induction v using Mine.V.casesOn
 case none=>rw[h.none_inv];rfl
 case bool b=>rw[h.bool_inv];rfl
 case int i=>refine X1 h.int_inv λt d=>?_;clear h;subst d;rfl
 case str l=>refine ah h.str_inv λt d _=>?_;clear h;subst d;rfl
 case bytes l=>refine bo h.bR λc t e _=>?_;clear h;subst e;rfl
 case ref a=>rw[h.ct];rfl
 case tup=>obtain⟨a,_,_,rfl,_⟩:=h;rfl
 case lst=>obtain⟨a,_,_,rfl,_⟩:=h;rfl
 case ec=>obtain⟨a,_,_,rfl,_⟩:=h;rfl
 case obj=>obtain⟨a,_,_,_,_,_,rfl,_⟩:=h;rfl
 case mN=>obtain⟨a,_,_,_,_,rfl,_⟩:=h;rfl
def iZ(e:h.get? a=xV o)(c:o.cls=.ref C)(hd:o.dict=xV dx)(d:o.data=.plain)(b:h.get? dx=xV od):InstAt h a o C (xV od):=by
 refine⟨e,c,?_,?_⟩
 ·unfold notCls;rw[d];rfl
 ·rw[hd];exact b
set_option tactic.hygienic true in
def IF(pc:PC P K)(a:At P A n pe nms W H s ρ)(e:pJ v f H=xV u)(E:VR P.w P.cA W.fz v x)(q:Q u H):
  bk P A (getAttr x (az f) b) (bC P W H s (SV P Q)) (cy P A W H s X) s:=by
 have hr:=a.hr;have D:=pc.here hr;induction v using Mine.V.casesOn<;>(try cases e;done)
 case obj c fs=>
  obtain⟨x,o,dx,L,es,m,rfl,p,t,i,B,l,F,I,G,r,g⟩:=E;refine(Cr g e).elim λC j=>j.elim λy j=>j.elim λd h=>?_;refine ah (pc.fld c f C) λattr k1 k2=>?_;exact get_value D (iZ (hr.fz _ _ p) t i B (hr.fz _ _ l)) (Uk (pc.get c (az f))).1 (findObj_own (pc.D9 c) k1 k2 (sM F d)) h.handed (cQ hr h q)
 case ref c=>
  refine E.ct.symm▸?_;have e:sA (H c) f=xV u:=e;induction z:H c with
  |none=>rw[z] at e;cases e
  |some y=>
  rw[z] at e;induction y with
  |list=>cases e
  |dict=>cases e
  |inst c fs=>refine ky e λC e=>?_;obtain⟨o,J,p,t,i,m,⟨L,es,k,B,l,F,_,I⟩,G,r⟩:=hr.live _ _ z;refine ah (pc.fld c f (by simpa using C)) λattr k1 k2=>?_;refine ah (G f u e) λy g d=>?_;exact get_value D (iZ J p t i B) (Uk (pc.get c (az f))).1 (findObj_own (pc.D9 c) k1 k2 (sM l ((I _).trans g))) d.handed (cQ hr d q)
noncomputable def eQ(e:Expr):NF:=e.ctorIdx !=16
def gE(h:eQ e=Nk):attributeBase e attr pe w=w:=by induction e using NZ<;>first|rfl|exact Oh h
def I9(pc:PC P K)(g:nm=az f)(a:eQ e=Nk)(h:SE P n pe nms e c):SE P n pe nms (.Attribute e nm pos) (.attr c f):=by
 intro A ρ W H s Q X at_ q
 rw[g];show bk P A (eval _ _) _ _ _;rw[arm_eval_Attribute];rw[gE a];refine Nq (cf (h A ρ W H s _ X at_ q) λW₁ H₁ s₁ x t b=>Mine.ah b λv d q=>Nq (PH (Nq (OW ?_))));refine ah (aM q) λu e q=>?_;exact N4 (IF pc (at_.step t) e d q) (λy s₂ z=>Nq (wpAny_letTemporaryGo (NC (z.up t)))) λ_ _ z=>z.up t
end
section
variable {P:bx}{K:PS}{mg mb:NX->Nt Nz}{n:Nu}{pe:NO}{nms:Ni NX}{A:Oj}{ρ:Env}{W W₁:Wd}{H H₁:ae}{s s₁:NJ}{Q:av}{X:Prop}
def hO.move{h t}{W'}{a}{y}(e:H a=xV y)(k:∀b o,aW W H b->h.get? b=xV o->t.get? b=xV o)(s:∀b o,W.fz b=xV o->W'.fz b=xV o)(kd:W'.dx a=W.dx a)(l:hO P W h a y):hO P W' t a y:=by
 have j:=λo=>k a o (.inl ⟨y,e⟩);induction y with
 |list vs=>obtain⟨xs,n,g,C,i⟩:=l;exact⟨xs,n,j _ g,C,aB.mono s _ _ i⟩
 |dict ks vs=>refine A3 l ?_;clear l;intro g p q;exact⟨g,p,q.at j s⟩
 |inst c fs=>obtain⟨o,g,p,q,i,m,d,B,A⟩:=l;refine gC d ?_;clear d;intro w es u E r;haveI kx:=λo=>k (W.dx a) o (.inr ⟨a,c,fs,e,rfl⟩);refine⟨o,j _ g,p,by rw[kd];exact q,i,m,by rw[kd];exact⟨w,es,u,kx _ E,r⟩,λf v e=>?_,A⟩;refine ah (B f v e) λz D x=>?_;exact⟨z,D,x.mono s⟩
def Trans.adopt(T:Trans P W H s W₁ H₁ s₁){D}{o}{g}{t}(p:s.heap.get? D=Nm)(v:P.B.get? D=Nm)(m:¬ f6 W₁ H₁ D)(r:Po D s₁.heap g)(w:g.get? D=xV o):
  Trans P W H s (W₁.add D o) H₁ { s₁ with heap:=g,toks:=t }:=by
 haveI l:W₁.fz D=Nm:=by
  induction e:W₁.fz D with
  |none=>rfl
  |some o=>exact NK (.inr ⟨o,e⟩) m
 haveI j:=Wd.bQ (o:=o) l;have k:=r.2;haveI u:∀b o,aW W₁ H₁ b->s₁.heap.get? b=xV o->g.get? b=xV o:=λb o d e=>(k b λq=>m (.inl (q▸d))).trans e;have x:=T.hr;refine⟨⟨λa c e=>j _ _ (x.b0 a c e),λb c e=>(k b λq=>by rw[q,v] at e;exact nomatch e).trans (x.base b c e),λa c e=>?_,λa y e=>(x.live a y e).move e u j rfl,x.fy,λb d=>?_,x.apart,x.inj⟩,T.os,T.gens,λa c e=>j _ _ (T.mono _ _ e),T.dx,
  λb c d e=>?_,λb d=>?_,λb c e=>?_⟩
 ·haveI e:(if a=D then xV o else W₁.fz a)=xV c:=e
  by_cases q:a=D
  ·replace e:=(Np q)▸e;injection e with e;subst e;rw[q];exact w
  ·replace e:=(Nl q)▸e;exact(k a q).trans (x.fz _ _ e)
 ·refine(?_:(if b=D then xV o else W₁.fz b)=Nm)
  rw[Nl (λ(q:b=D)=>m (.inl (q▸d)))];exact x.dZ b d
 ·haveI q:b≠D:=λq=>by rw[q,p] at e;exact nomatch e
  rw[k b q];exact T.keep b c d e
 ·by_cases q:b=D
  ·rw[q];exact .inr p
  ·refine T.own b ?_
   refine ND (d) (λn=>?_) (λh=>?_)
   ·haveI d:=n
    exact .inl d
   ·refine X1 h ?_;clear h;intro c e
    haveI e:(if b=D then xV o else W₁.fz b)=xV c:=e;rw[Nl q] at e;exact .inr ⟨c,e⟩
 ·have q:b≠D:=λq=>by rw[q,p] at e;exact nomatch e
  refine X1 (T.big b c e) λf i=>?_;exact⟨f,(k b q).trans i⟩
def Trans.KJ(T:Trans P W H s W₁ H₁ s₁){D}{y}{i}{t}(A:s.heap.get? D=Nm)(F:P.B.get? D=Nm)(v:¬ f6 W₁ H₁ D)(I:Po D s₁.heap i)(p:gZ y)(u:hO P W₁ i D y):
  Trans P W H s W₁ (H₁.set D y) { s₁ with heap:=i,toks:=t }:=by
 have m:W₁.fz D=Nm:=by
  induction e:W₁.fz D with
  |none=>rfl
  |some o=>exact NK (.inr ⟨o,e⟩) v
 have k:=I.2;haveI K:∀b o,aW W₁ H₁ b->s₁.heap.get? b=xV o->i.get? b=xV o:=λb o f e=>(k b λq=>v (.inl (q▸f))).trans e;have x:=T.hr;haveI M:H₁ D=Nm:=by
  induction e:H₁ D with
  |none=>rfl
  |some y=>exact NK (.inl (.inl ⟨y,e⟩)) v
 have out:∀{a},a≠D->(H₁.set D y) a=H₁ a:=λh=>Nl h;have d:∀a c fs,(H₁.set D y) a=xV (.inst c fs)->a≠D/\H₁ a=xV (.inst c fs):=by
  intro a c fs e;haveI e:(if a=D then xV y else H₁ a)=xV (.inst c fs):=e;by_cases q:a=D
  ·replace e:=(Np q)▸e;injection e with e;clear u out;subst e;exact p.elim
  ·replace e:=(Nl q)▸e;exact⟨q,e⟩
 haveI L:∃o,i.get? D=xV o:=by
  clear out d;induction y with
  |list vs=>obtain⟨_,_,G,_⟩:=u;exact⟨_,G⟩
  |dict ks vs=>exact u.2.2.there
  |inst c fs=>exact p.elim
 refine⟨⟨x.b0,λb g e=>(k b λq=>by rw[q,F] at e;exact nomatch e).trans (x.base b g e),λa g e=>(k a λq=>by rw[q,m] at e;exact nomatch e).trans (x.fz _ _ e),λa z e=>?_,λb f=>?_,λb f=>?_,λa c fs e=>?_,λa c fs E C l e J q=>?_⟩,T.os,T.gens,T.mono,T.dx,
  λb g f e=>?_,λb f=>?_,λb g e=>?_⟩
 ·by_cases q:a=D
  ·haveI e:(if a=D then xV y else H₁ a)=xV z:=e
   replace e:=(Np q)▸e;injection e with e;subst e;rw[q];exact u
  ·replace e:=(out q)▸e;exact(x.live a z e).move e K (λ_ _ e=>e) rfl
 ·refine ND (aW.set p f) (λq=>?_) (λq=>?_)
  ·rw[q];exact F
  ·exact x.fy b q
 ·refine ND (aW.set p f) (λq=>?_) (λq=>?_)
  ·rw[q];exact m
  ·exact x.dZ b q
 ·refine A2 (d a c fs e) λq e=>?_
  rewrite [out λr=>?_]
  ·exact x.apart a c fs e
  ·exact v (.inl (.inr ⟨a,c,fs,e,r⟩))
 ·exact x.inj a c fs E C l (d a c fs e).2 (d E C l J).2 q
 ·haveI q:b≠D:=λq=>by rw[q,A] at e;exact nomatch e
  rw[k b q];exact T.keep b g f e
 ·by_cases q:b=D
  ·rw[q];exact .inr A
  ·refine T.own b ?_
   refine ND (f) (λf=>?_) (λf=>?_)
   ·refine ND (aW.set p f) (λw=>?_) (λw=>?_)
    ·exact NK w q
    ·exact .inl w
   ·exact .inr f
 ·have q:b≠D:=λq=>by rw[q,A] at e;exact nomatch e
  refine X1 (T.big b g e) λj n=>?_;exact⟨j,(k b q).trans n⟩
def PG.room(g:PG P mg mb)(hr:HR P W H s.heap):(s.heap.objs.size==RI)=Nr:=by
 haveI:=(hr.ns0 g.g).lt;haveI e:=this;haveI:RI<=O3:=by decide
 simp only[Sg,ne_eq];intro q;replace e:=(q)▸e;exact NK e (Pt.mpr this)
def Jd(g:PG P mg mb){pos}:SE P n pe nms (.Dict [] [] pos) .rF:=by intro A ρ W H s Q X a q;refine wpAny_Dict_empty ?_;refine⟨_,_,Trans.live (y:=.dict [] []) a.hr trivial ⟨g.room a.hr,by simp[aL],.inl ⟨[],[],rfl,Heap.DictOf.new _,⟨rfl,by(decide)⟩,aB.nil⟩⟩,.ref s.heap.objs.size,VR.qi _,q _ a.hr.J2⟩
def zj{K:Type}[OY K]{a}{k:K}{v}(h:k∉a.map (·.1)):S0 a k v=a++[(k,v)]:=by unfold S0;rw[Nl];rfl;intro q;rw[Tb] at q;refine ah q ?_;clear q;intro b d c;exact h (mem_map.mpr ⟨b,d,by exact N0 c⟩)
def uo{K:Type}[OY K]:∀(a acc:Ni (K×Nz)),((acc++a).map (·.1)).Nodup->merged acc a=acc++a:=by
 intro d;induction d with
 |nil=>intro acc _;exact(N9 _).symm
 |cons c a b=>intro acc h;haveI f:=h;rw[N7,N3,So] at h;have e:c.1∉acc.map (·.1):=λq=>h.2.2 _ q _ (.head _) rfl;refine(?_:merged (S0 acc c.1 c.2) a=_);rw[zj e];rw[b (acc++[(c.1,c.2)]) (by simpa using f)];exact append_assoc ..
noncomputable def qU(P:bx)(n:Nu)(pe:NO)(nms:Ni NX):Ni Expr->cS->Prop
 |[],.nil=>Sl
 |e::es,.cons c cs=>SE P n pe nms e c/\qU P n pe nms es cs
 | _,_=>OH
noncomputable def Ft(pe:NO)(pos:XM):Ni Expr->Ni Expr->Ni (XQ Nz×XQ Nz)
 |k::ks,v::vs=>(eval k pe,do let x <- eval v pe;WX pos;pure x)::Ft pe pos ks vs
 | _,_=>[]
def Cs(pos):∀ks vs,(evalEachOpt (ks.map xV) pe).zip ((evalEach vs pe).map λv=>do let x <- v;WX pos;pure x)=(Ft pe pos ks vs).map λp=>(xV p.1,p.2):=by
 intro b;induction b with
 |nil=>
  intro _
  (rfl)
 |cons k ks a=>
  intro c;induction c using Nw with
  |nil=>(rfl)
  |cons v vs=>haveI:=a vs;exact NN (XN _) this
def Ky{T:Type}[OY T]{w:Px}(knd:Q4 prog w T)(pe:NO)(e:Expr)(k:T):Prop:=
 ∀A s (Q:Nz->NJ->Prop) (E:Nz->NJ->Prop),(∀key t,knd.is k key=Nk->Q key { s with toks:=t })->ON (PJ prog w) A (eval e pe) Q E s
noncomputable def r5{T:Type}[OY T]{w:Px}(knd:Q4 prog w T)(pe:NO):Ni Expr->Ni T->Prop
 |[],[]=>Sl
 |e::es,k::ks=>Ky knd pe e k/\r5 knd pe es ks
 | _,_=>OH
def EC{w}{k}{c}{kd}{pos}(h:aw k=c):Ky (OD prog w) pe (.Constant (.str c) kd pos) (aw k):=by intro A s Q E q;subst h;exact Vb (q _ _ (de _ s.toks))
def EB{w}{k}{kd}{pos}:Ky (SW prog w) pe (.Constant (.int k) kd pos) k:=by intro A s Q E q;exact wpAny_mkInt (q _ _ (fh _ s.toks))
def At.tok(a:At P A n pe nms W H s ρ)(t):At P A n pe nms W H { s with toks:=t } ρ:=a.step (Trans.tok a.hr t)
theorem wN{T:Type}[OY T]{knd:Q4 prog P.w T}{pos}:∀kx vx ks cs W H s Q,r5 knd pe kx ks->qU P n pe nms vx cs->kx.length=vx.length->At P A n pe nms W H s ρ ->
  mn (call n) cs ρ H Q X ->
  bk P A (evalPairs (Ft pe pos kx vx)) (bC P W H s λps W' H' _=>∃b vs,Carries knd ps b/\b.map (·.1)=ks/\aB P.w P.cA W'.fz vs (b.map (·.2))/\Q vs H') (cy P A W H s X) s
 |[],[],[],.nil=>λW H s Q _ _ _ a q=>by exact evalPairs_nil (bC.here a.hr ⟨[],[],trivial,rfl,aB.nil,q⟩)
 |e::kx,v::vx,k::ks,.cons c cs=>λW H s Q hk f j a q=>by refine evalPairs_cons (hk.1 A s _ _ λkey t g=>?_);have y:=a.tok t;haveI l:=Trans.tok a.hr t;refine Nq (dP l (f.1 A ρ W H _ _ X y q) λW₁ H₁ s₁ x B h=>Mine.ah h λv' i o=>Nq (PH (NC ?_)));haveI d:=l.trans B;refine dP d (wN kx vx ks cs W₁ H₁ s₁ _ hk.2 f.2 (by simpa using j) (a.step d) o) λW₂ H₂ s₂ ps m h=>Mine.e9 h λb vs r u z p=>?_;refine⟨W₂,H₂,d.trans m,(k,x)::b,v'::vs,⟨g,rfl,r⟩,by rw[N3];rw[u];rfl,aB.cons (i.mono m.mono) z,p⟩
 |[],_::_,_,_=>λ_ _ _ _ _ _ j _ _=>by contradiction
 | _::_,[],_,_=>λ_ _ _ _ _ _ j _ _=>by contradiction
 |[],[],_::_,_=>λ_ _ _ _ hk _ _ _ _=>hk.elim
 | _::_,_::_,[],_=>λ_ _ _ _ hk _ _ _ _=>hk.elim
 |[],[],[],.cons _ _=>λ_ _ _ _ _ f _ _ _=>f.elim
 | _::_,_::_,_::_,.nil=>λ_ _ _ _ _ f _ _ _=>f.elim
def wR(pos):∀ks vs,ks.length=vs.length->(Ft pe pos ks vs).length=ks.length:=by
 intro c;induction c with
 |nil=>
  intro a;induction a with
  |nil=>intro _;exact rfl
  |cons _ _=>intro h;contradiction
 |cons k ks b=>
  intro a;induction a using Nw with
  |cons v vs=>intro h;exact NN (·+1) (b vs (Q3 h))
  |nil=>intro h;contradiction
def sv{T:Type}[OY T]{knd:Q4 prog P.w T}(g:PG P mg mb){pos}{kx vx}{ks}{cs}{S}{Q}(hk:r5 knd pe kx ks)(hv:qU P n pe nms vx cs)(k:kx.length=vx.length)(h0:kx≠[])(j:kx.length<=15)(h:ks.Nodup)(a:At P A n pe nms W H s ρ)(q:mn (call n) cs ρ H Q X)(fin:∀W₁ H₁ s₁ D d t vs b,Trans P W H s W₁ H₁ s₁->s.heap.get? D=Nm->P.B.get? D=Nm->(D==RI)=Nr->¬ f6 W₁ H₁ D->Po D s₁.heap d->d.DictOf knd D b->b.map (·.1)=ks->aB P.w P.cA W₁.fz vs (b.map (·.2))->Q vs H₁ ->
   bC P W H s S (.ref D) { s₁ with heap:=d,toks:=t }):
  bk P A (eval (.Dict (kx.map xV) vx pos) pe) (bC P W H s S) (cy P A W H s X) s:=by
 haveI J:=Trans.jJ a.hr { cls:=.type "dict",data:=.dict #[] };haveI hD:s.heap.get? s.heap.objs.size=Nm:=eK _;haveI nO:¬ f6 W H s.heap.objs.size:=by
  refine A3 a.hr.cI λ_ n2 n3=>?_;rintro(q|⟨o,q⟩)
  ·exact n3 q
  ·replace q:=(n2)▸q;contradiction
 haveI hp:Ft pe pos kx vx≠[]:=by intro q;haveI:=wR (pe:=pe) pos kx vx k;replace this:=(q)▸this;exact h0 (OI this.symm)
 refine wpAny_Dict_pairs (knd:=knd) (Cs pos kx vx) hp (by rw[wR pos kx vx k];exact j) ?_;refine dP J (wN kx vx ks cs W H _ Q hk hv k (a.step J) q) λW₁ H₁ s₁ ps T1 z_=>Mine.e9 z_ λb vs h1 h2 h3 h4=>?_;haveI i:=T1.fV nO (Oy _ rfl);refine⟨b,h1,?_,λd hd sb=>?_⟩
 ·refine(Heap.DictOf.new s.heap).at λo e=>?_
  refine ND (T1.keep _ o (λz=>nO (.inl z)) e) (λl=>?_) (λm=>?_)
  ·have z:=l
   exact z
  ·have z:=(m).1
   haveI:=Oy s.heap (o:={ cls:=.type "dict",data:=.dict #[] }) rfl;haveI f:=e;replace f:=(this)▸f;injection f with f;subst f;contradiction
 ·replace hd:=(uo b [] (by simpa [h2] using h))▸hd
  exact fin W₁ H₁ s₁ _ d _ vs b (J.trans T1) hD a.hr.cI.1 (g.room a.hr) i sb hd h2 h3 h4
def Jb(g:PG P mg mb){pos}{kx vx}{ks}{cs}(hk:r5 (OD prog P.w) pe kx (ks.map aw))(C:qU P n pe nms vx cs)(E:kx.length=vx.length)(y:kx≠[])(f:kx.length<=15)(j:(ks.map aw).Nodup)(p:∀k∈ks,k.length<=aL):
  SE P n pe nms (.Dict (kx.map xV) vx pos) (.ye ks cs):=by
 intro A ρ W H s Q X a q;refine sv g hk C E y f j a q λW₁ H₁ s₁ D O t vs b T L I i r B hd d m q=>?_;refine Mine.bO hd λo es v z o2 N l=>?_;refine Mine.A3 l λJ K x=>?_;haveI c:b.length<=aL:=by
  haveI u:=NN OZ d;haveI G:∀kx ks,r5 (OD prog P.w) pe kx ks->ks.length=kx.length:=by
   intro kx;induction kx with
   |nil=>intro ks h;induction ks with
    |nil=>rfl
    |cons _ _=>exact h.elim
   |cons e kx M=>intro ks h;induction ks with
    |nil=>exact h.elim
    |cons k ks=>rw[Nn];rw[Nn];rw[M ks h.2];rfl
  haveI F:=G _ _ hk;rw[NR] at u;simp only[aL];exact cR [R0 V1 (zc 15),R2 V0 V2,R2 V2 V1] V0 (zc 1073741824) rfl f u F
 refine⟨_,_,T.adopt L I r B z,.ec ks vs,?_,q⟩;refine⟨D,o,b,rfl,Wd.bP ..,i,⟨es,v,o2,N,J,K,x⟩,c,⟨d,p⟩,m.mono (Wd.bQ ?_) _ _⟩;induction e:W₁.fz D with
 |none=>rfl
 |some o=>exact NK (.inr ⟨o,e⟩) r
def Jc(g:PG P mg mb){pos b}{i}{kd}{e}{c}(h:SE P n pe nms e c):SE P n pe nms (.Dict [xV (.Constant (.int i) kd b)] [e] pos) (.DD i c):=by
 intro A ρ W H s Q X a q;refine sv (kx:=[.Constant (.int i) kd b]) (ks:=[i]) (cs:=.cons c .nil) (Q:=λvs H=>match vs with|[v]=>∀a,H a=Nm->Q (.ref a) (H.set a (.dict [.int i] [v]))| _=>OH) g ⟨EB,trivial⟩ ⟨h,trivial⟩ rfl (by intro h;injection h) (QG _) (by simp) a (q) λW₁ H₁ s₁ D h' t vs f T r p d m o hd j k q=>?_;split at q
 ·rename_i v
  refine⟨_,_,T.KJ (y:=.dict [.int i] [v]) r p m o trivial ⟨d,by exact QG _,.inr ⟨[i],f,rfl,hd,j,k⟩⟩,.ref D,VR.qi _,q _ ?_⟩;induction e:H₁ D with
  |none=>rfl
  |some y=>exact NK (.inl (.inl ⟨y,e⟩)) m
 ·exact q.elim
end
section
variable {P:bx}{K:PS}{mg mb:NX->Nt Nz}{n:Nu}{pe:NO}{nms:Ni NX}{A:Oj}{ρ:Env}{W W₁:Wd}{H H₁:ae}{s s₁:NJ}{Q:av}{X:Prop}
def LK(a:At P A n pe nms W H s ρ)(e:abZ v H=xV u)(f:VR P.w P.cA W.fz v x):Q u H->bk P A (Ot (.builtin "len") [x]) (bC P W H s (SV P Q)) (cy P A W H s X) s:=by
 have hr:=a.hr;have LV:∀i o t,Q (.int i) H->bC P W H s (SV P Q) (.int i o) { s with toks:=t }:=λi o t q=>cQ hr (VR.bV i o) q;have lst:(bj v H).map (λl=>V.int l.length)=xV u->Q u H->bk P A (Ot (.builtin "len") [x]) (bC P W H s (SV P Q)) (cy P A W H s X) s:=λe=>jr e λl p q=>by refine bO (hr.list p f) λc xs m j k g r1=>?_;clear f;subst j;have d:=r1.length;replace d:=(NW)▸d;simp only[aL] at g;refine Calls.call_len_list (aZ k) (zI [_] [] [R0 V0 (zc 1073741824)] (S1 (zu V0)) (zc (2 ^ 63)) [1,1] rfl g) ?_;rw[d];exact LV _ _ _ q
 induction v using Mine.V.casesOn with
 |bytes b=>refine aN e λq=>?_;revert q;refine VR.gH f λarr t h d q=>?_;clear e f lst;subst h;simp only[aL] at d;refine len_bytes (Nj d (by decide)) ?_;rw[NR,NW] at q;exact LV _ _ _ q
 |str b=>refine aN e λq=>?_;refine VR.mS f λt d=>?_;simp only[aL] at d;exact PySem.P.len_str (by rw[cC];exact ll [R0 V0 (zc 1073741824)] (R4 (zc (2 ^ 63)) (zu V0)) rfl d) (LV _ _ _ q)
 |tup b=>refine aN e λq=>?_;refine VR.qP f λc xs m k g r1=>?_;have d:=r1.length;rw[NW] at d;simp only[aL] at g;refine PyProof.Rows.len_tuple ⟨_,hr.fz _ _ k,rfl,m,rfl⟩ (zI [_] [] [R0 V0 (zc 1073741824)] (S1 (zu V0)) (zc (2 ^ 63)) [1,1] rfl g) ?_;rw[d];exact LV _ _ _ q
 | _=>exact lst e
def BZ(i):aw (au i)=Str.ofString (toString i):=by
 haveI q:(Str.ofString (toString i)).cps.toList=(au i):=by
  rw[signs_ofString];induction i with
  |ofNat m=>haveI:=PySem.W.KIN.signs_num m;rw[signs_ofString] at this;rw[this];rfl
  |negSucc m=>haveI e:toString (N6.negSucc m) = "-" ++ Nu.repr (m+1):=rfl;unfold au aA;rw[Np (VO m)];rw[Ue.toList_append];rw[N7];rw[toList_repr];rfl
 unfold aw;refine bB (NU q) ?_;rfl
def vV(i)(h:i.natAbs<10 ^ 200):(au i).length<=aL:=by
 haveI e:(aA i.natAbs).length<=201:=by unfold aA;rw[NR];exact(Tw (by decide) (by decide)).mpr (NY h (PK (by decide) (by decide:200<=201)))
 unfold au;split<;>simp only[Nn,aL]<;>lia
section
variable {v v' v'' u:V}{x x' x'':Nz}
def MY(a:At P A n pe nms W H s ρ)(hi:i.natAbs<10 ^ 200)(q:Q (.str (au i)) H):bk P A (Ot (.type "str") [.int i t]) (bC P W H s (SV P Q)) (cy P A W H s X) s:=by
 refine PySem.P.str_of_int ?_ ?_
 ·by_cases b:i.natAbs=0
  ·rw[b];decide
  ·exact(log2_lt b).mpr (NY hi (by decide +kernel))
 ·rewrite [<- BZ];exact cQ a.hr (VR.fW (vV i hi) _) q
def KH(a:At P A n pe nms W H s ρ)(q:Q (.int i.natAbs) H):bk P A (Ot (.builtin "abs") [.int i t]) (bC P W H s (SV P Q)) (cy P A W H s X) s:=by refine call_abs_int λu tk=>cQ a.hr ?_ q;rw[show(if i<0 then -i else i)=((i.natAbs:Nu):N6) from by split<;>lia];exact VR.bV _ _
def Mb(a:At P A n pe nms W H s ρ)(e:ach l=xV u):Q u H->bk P A (Ot (.builtin "ord") [.str (aw l) t]) (bC P W H s (SV P Q)) (cy P A W H s X) s:=
 match l,e with
 |[],e=>gA e
 |[c],e=>aN e λq=>PySem.P.ord_of_char (cQ a.hr (VR.bV _ _) q)
 | _::_::_,e=>gA e
def Lf(a:At P A n pe nms W H s ρ)(h:l≠[]/\l.length<=20/\l.all (λc=>48<=c&&c<=57))(q:Q (.int (cF l)) H):bk P A (Ot (.type "int") [.str (aw l) t]) (bC P W H s (SV P Q)) (cy P A W H s X) s:=by
 haveI e:(aw l).cps.toList=l:=by(rfl)
 haveI b:(aw l).length<=20:=by exact h.2.1
 refine PySem.W.KIN.call_text (intText_digits ?_ ?_ (Nj b (by decide))) (Nj b (by decide)) ?_
 ·intro c d
  haveI:=all_eq_true.mp h.2.2 c d;simpa using this
 ·exact h.1
 ·exact cQ a.hr (VR.bV _ _) q
def Kf[Pw c]{t u}:VR w cA fz (.int (if c then i else j)) (if c then .int i t else .int j u):=by split<;>exact VR.bV _ _
def VR.yW{t u v}(h:fz D=xV { cls:=Qy "range",data:=Data.fields #[S6 i t,S6 j u,S6 k v] })(ok:Ko i j k):VR w cA fz (.mN i j k) (.ref D):=by exact⟨D,_,t,u,v,rfl,h,rfl,ok⟩
def Cy(a:At P A n pe nms W H s ρ)(h:(iN i&&iN j&&iN k&&decide (0<k))=Nk)(q:Q (.mN i j k) H):bk P A (Ot (.type "range") [.int i t,.int j t',.int k t'']) (bC P W H s (SV P Q)) (cy P A W H s X) s:=by simp only[Od,N8,iN] at h;haveI b:=Sp h.2;exact PySem.call_range_3 b ⟨_,H,(Trans.alloc a.hr rfl).trans (Trans.tok (Trans.alloc a.hr rfl).hr _),.mN _ _ _,VR.yW (Wd.bP ..) ⟨by exact cZ [R0 (S1 V0) (zc (2 ^ 28))] (S1 V0) (zc 1152921504606846976) rfl h.1.1.1,by exact cZ [R0 (S1 V0) (zc (2 ^ 28))] (S1 V0) (zc 1152921504606846976) rfl h.1.1.2,by exact h.2,by exact cZ [R0 (S1 V0) (zc (2 ^ 28))] (S1 V0) (zc 1152921504606846976) rfl h.1.2⟩,q⟩ (Or.inl (PyProof.noPylong_small (cZ [R0 (S1 V0) (zc (2 ^ 28))] (S1 V0) (zc 1073741824) rfl h.1.2)))
def FP(a:At P A n pe nms W H s ρ)(e:FN vs=xV u)(b:aB P.w P.cA W.fz vs xs):Q u H->bk P A (Ot (.type "range") xs) (bC P W H s (SV P Q)) (cy P A W H s X) s:=
 match vs,e,b with
 |[],e,_=>gA e
 |[v],e,b=>aB.eA b λy r c b=>aB.kO b (cH e c λi t e=>b9 e λh q=>PySem.call_range_1 ⟨_,H,(Trans.alloc a.hr rfl).trans (Trans.tok (Trans.alloc a.hr rfl).hr _),.mN _ _ _,VR.yW (Wd.bP ..) ⟨by decide,i9 h,by decide,by decide⟩,q⟩)
 |[v,v'],e,b=>aB.eA b λy r c b=>aB.eA b λo r d b=>aB.kO b (cH e c λi t e=>cH e d λj f e=>b9 e λh q=>PySem.call_range_2 ⟨_,H,(Trans.alloc a.hr rfl).trans (Trans.tok (Trans.alloc a.hr rfl).hr _),.mN _ _ _,VR.yW (Wd.bP ..) ⟨i9 (NQ.mp h).1,i9 (NQ.mp h).2,by decide,by decide⟩,q⟩)
 |[v,v',v''],e,b=>aB.eA b λy r c b=>aB.eA b λo r d b=>aB.eA b λg r l b=>aB.kO b (cH e c λi t e=>cH e d λj f e=>cH e l λk m e=>b9 e λh q=>Cy a h q)
 | _::_::_::_::_,e,_=>gA e
def Gy(a:At P A n pe nms W H s ρ)(h:l.length<=lim)(i:VR P.w P.cA W.fz (.lst l) x)(q:Q (.tup l) H):bk P A (Ot (.type "tuple") [x]) (bC P W H s (SV P Q)) (cy P A W H s X) s:=by refine bO (a.hr.list rfl i) λc xs m b j f r1=>?_;subst b;have e:=r1.length;rw[NW] at e;refine call_tuple_list (aZ j) (λg hk=>?_) (by rw[e];exact bH h);haveI T:=Trans.of_keeps (s₁:={ s with heap:=g }) a.hr hk rfl rfl;haveI d:=Trans.alloc T.hr (o:={ cls:=.type "tuple",data:=.seq xs }) rfl;exact⟨_,_,T.trans d,.tup l,VR.uu (Wd.bP ..) f (r1.mono d.mono _ _),q⟩
def Ii(a:At P A n pe nms W H s ρ)(h:l.length<=lim)(e:VR P.w P.cA W.fz (.lst l) x)(q:Q (.lst l) H):bk P A (Ot (.type "list") [x]) (bC P W H s (SV P Q)) (cy P A W H s X) s:=by
 refine bO (a.hr.list rfl e) λc xs m b r g r1=>?_;clear e;subst b;have d:=r1.length;rw[NW] at d;refine call_list_seq c (.inl rfl) r rfl rfl (λi u hk hd=>?_) (by rw[d];exact bH h);haveI T:=Trans.of_keeps (s₁:={ s with heap:=i }) a.hr hk rfl rfl;refine A3 a.hr.cI λp f k=>?_;haveI j:¬ f6 W H s.heap.objs.size:=by
  rintro(z|⟨o,z⟩)
  ·exact k z
  ·replace z:=(f)▸z;contradiction
 exact⟨_,_,T.adopt (eK _) p j (PO _ _) hd,.lst l,VR.LS (Wd.bP ..) g (r1.mono (Wd.bQ f) _ _),q⟩
end
def mK:∀{vs}{xs}{b},aB w cA fz vs xs->dD vs=xV b->IntsAre xs (b.map λ(c:Nu)=>(c:N6))/\∀c∈b,c<256:=by
 intro f;induction f with
 |nil=>intro xs b h e;exact aB.kO h (aN e ⟨.nil,λ_ h=>(by contradiction)⟩)
 |cons v vs a=>
  intro xs b h e;refine aB.eA h λy r j k=>?_;haveI e:=e;refine cH e j λi t e=>?_;refine ky e λhi e=>?_;refine jr e λc e=>?_;have g:=a k e;refine⟨?_,λd hd=>?_⟩
  ·rw[N3];rw[QD hi.1];exact .cons _ _ g.1
  ·rcases NH.mp hd with q|hd
   ·rw[q];exact cZ [R0 V0 (zc 255)] (S1 V0) (zc 256) rfl (OU.mpr (f9 [R4 (S1 V0) (zc 256)] V0 (zu (zc 255)) rfl hi.2))
   ·exact g.2 d hd
def Dp(a:At P A n pe nms W H s ρ)(r:bj v H=xV l)(e:l.length<=lim)(j:dD l=xV b)(h:VR P.w P.cA W.fz v x)(q:Q (.bytes b) H):bk P A (Ot (.type "bytes") [x]) (bC P W H s (SV P Q)) (cy P A W H s X) s:=by
 refine bO (a.hr.list r h) λc xs m f u y r1=>?_;clear h;subst f;have k1:=(mK r1 j).1;haveI k2:=(mK r1 j).2;haveI o:=r1.length;refine call_bytes_ints (aZ u) k1 ?_ (by rw[o];exact bH e) a.cx.hd λz t k hk=>⟨W,H,Trans.of_keeps a.hr hk rfl rfl,.bytes b,?_,q⟩
 ·intro i hi
  refine ah (mem_map.mp hi) λd hd g=>?_;clear hi;subst g;haveI:=k2 d hd;exact⟨zI [_] [] [] K0 (zu V0) [1] rfl,zI [_] [] [R0 (S1 V0) (zc 256)] (S1 (zu V0)) (zc 256) [1,1] rfl this⟩
 ·haveI p:b.length=l.length:=by haveI:=k1.length;rw[NR] at this;exact V8 this.symm o
  refine⟨_,t,rfl,?_,?_⟩
  ·rw[UD];rw[Oo];rw[Oo]
   conv=>rhs;rw[<- map_id b]
   refine map_congr_left λd hd=>?_;haveI:=k2 d hd;dsimp only[Q5,Q6,id];rw[RR.toNat_ofNat'];lia
  ·rw[byteArr_size];rw[NR];dsimp only[aL];dsimp only[lim] at e;exact cj [R0 V1 (zc 16000000),R2 V0 V1] V0 (zc 1073741824) rfl e p
end
def Bv:U0 (.type "bytes") "__bytes__" = pure (xV (.builtin "bytes.__bytes__")):=by kernel_rfl
def kJ(b)(t):Xs (Pq.«bytes.__new__» ⟨[.type "bytes",.bytes b t],[]⟩) (λ_ R s=>R (.ok (.ret (.bytes b t))) s):=by refine .of_wp λprog w A R s h=>?_;haveI hT:s.TypeIs (.bytes b t) "bytes" :=Oa s b t;refine Nq (P5 (a:=true) rfl ?_);refine VM rfl ?_;refine Nq (P5 Xv ?_);refine VM rfl ?_;refine Nq (P5 (F.bm_bind _) ?_);refine Nq (P5 (a:=()) rfl ?_);refine Nq (P5 (a:=()) rfl ?_);refine VM rfl ?_;refine Nq (PT hT Bv ?_);refine Nq (Wg ?_);refine Nq (Ro hT ?_);exact bm_if_true rfl (NC ⟨_,rfl,h⟩)
section
variable {P:bx}{K:PS}{mg mb:NX->Nt Nz}{n:Nu}{pe:NO}{nms:Ni NX}{A:Oj}{ρ:Env}{W W₁:Wd}{H H₁:ae}{s s₁:NJ}{Q:av}{X:Prop}
def xK(a:At P A n pe nms W H s ρ)(hx:VR P.w P.cA W.fz (.bytes b) x)(q:Q (.bytes b) H):bk P A (Ot (.type "bytes") [x]) (bC P W H s (SV P Q)) (cy P A W H s X) s:=by haveI hx':=hx;refine bo hx.bR λarr t e2_ _=>?_;clear hx;subst e2_;exact callType_new F.bm_called (by decide) (F.bm_typeCall _) (F.bm_newCall _) (λobj=>F.args_object_init_2 obj _) F.bm_entry (kJ arr t) ⟨Oa _ _ _,C5 a.hr hx' q⟩
def EL:∀a b,mF a b=Nk->mF b a=Nk->a=b:=by
 intro ii_
 induction ii_ with
 |nil=>
  intro jj_;induction jj_ with
  |nil=>intro _ _;exact rfl
  |cons _ _=>intro _ h;contradiction
 |cons x a ih0_=>
  intro jj_;induction jj_ using Nw with
  |nil=>intro h _;contradiction
  |cons y b=>
   intro h h';simp only[pT,um,lY] at h h';by_cases c:x<y
   ·rw[Nl (by exact nG [R0 (S1 V1) V0] (R0 (S1 V0) V1) rfl c),Np c] at h';exact NK h' (by decide)
   ·rw[Nl c] at h
    by_cases d:y<x
    ·replace h:=(Np d)▸h;exact NK h (by decide)
    ·rw[Nl d] at h
     rw[Nl d,Nl c] at h';rw[ih0_ b h h'];rw[show x=y from by exact zE [_,_] [] [R1 (S1 V1) V0,R1 (S1 V0) V1] V0 V1 [1,1,0] [1,0,1] rfl rfl d c];rfl
def B7:∀a b,mF a b=Nr->mF b a=Nk:=by
 intro ii_
 induction ii_ with
 |nil=>intro _ h;contradiction
 |cons x a ih0_=>
  intro jj_;induction jj_ using Nw with
  |nil=>intro _;exact rfl
  |cons y b=>
   intro h;simp only[pT,um,lY] at h ⊢;by_cases c:x<y
   ·replace h:=(Np c)▸h;injection h
   ·rw[Nl c] at h
    by_cases d:y<x
    ·rw[Np d];rfl
    ·rw[Nl d] at h
     rw[Nl d];rw[Nl c];exact ih0_ b h
theorem lZ:∀a b c,mF a b=Nk->mF b c=Nk->mF a c=Nk
 |[],_,_=>λ_ _=>rfl
 | _::_,[],_=>λh _=>by exact nomatch h
 | _::_,_::_,[]=>λ_ h=>by exact nomatch h
 |x::a,y::b,z::c=>λh h'=>by
  simp only[pT,um,lY] at h h' ⊢;refine(NG (x<y)).elim (λc1=>?_) (λc1=>?_)
  ·refine(NG (y<z)).elim (λc2=>?_) (λc2=>?_)
   ·rw[Np (by exact L4 c1 c2)];rfl
   ·replace h':=(Nl c2)▸h'
    refine(NG (z<y)).elim (λd2=>?_) (λd2=>?_)
    ·replace h':=(Np d2)▸h';injection h'
    ·rw[Np (by exact cR [R0 (S1 V0) V2,R1 (S1 V1) V2] (S1 V0) V1 rfl c1 d2)];rfl
  ·replace h:=(Nl c1)▸h
   refine(NG (y<x)).elim (λd1=>?_) (λd1=>?_)
   ·replace h:=(Np d1)▸h;exact(by contradiction)
   ·replace h:=(Nl d1)▸h
    refine(NG (y<z)).elim (λc2=>?_) (λc2=>?_)
    ·rw[Np (by exact cR [R1 (S1 V2) V0,R0 (S1 V2) V1] (S1 V0) V1 rfl d1 c2)];rfl
    ·replace h':=(Nl c2)▸h'
     refine(NG (z<y)).elim (λd2=>?_) (λd2=>?_)
     ·replace h':=(Np d2)▸h';contradiction
     ·replace h':=(Nl d2)▸h'
      rw[Nl (by exact zN [_,_,_] [] [R1 (S1 V0) V2,R1 (S1 V2) V1] (R0 (S1 V0) V1) [1,1,1] rfl c1 c2)];rw[Nl (by exact zN [_,_,_] [] [R1 (S1 V2) V1,R1 (S1 V0) V2] (R0 (S1 V0) V1) [1,1,1] rfl d1 d2)];exact lZ a b c h h'
def sE(x):∀l,(nk x l).Perm (x::l):=by
 intro ii_
 induction ii_ with
 |nil=>exact .refl _
 |cons y l ih0_=>
  rw[d7];split
  ·exact .refl _
  ·exact((ih0_).cons y).trans (.swap x y l)
def qI:∀l,(bK l).Perm l:=by
 intro ii_
 induction ii_ with
 |nil=>exact .refl _
 |cons x l ih0_=>exact(sE x (bK l)).trans ((ih0_).cons x)
def vU(x):∀l,l.Pairwise (λa b=>mF a b=Nk)->(nk x l).Pairwise (λa b=>mF a b=Nk):=by
 intro ii_
 induction ii_ with
 |nil=>intro _;simp[ue,d7]
 |cons y l ih0_=>
  intro h;rw[d7];rw[PI] at h;split
  ·rename_i q
   refine PI.mpr ⟨λz hz=>?_,PI.mpr h⟩;rcases NH.mp hz with rfl|hz
   ·exact q
   ·exact lZ _ _ _ q (h.1 z hz)
  ·rename_i q
   refine PI.mpr ⟨λz hz=>?_,ih0_ h.2⟩;rcases NH.mp ((sE x l).mem_iff.mp hz) with rfl|hz
   ·exact B7 _ _ (by simpa using q)
   ·exact h.1 z hz
def uK:∀l,(bK l).Pairwise (λa b=>mF a b=Nk):=by
 intro ii_
 induction ii_ with
 |nil=>exact .nil
 |cons x l ih0_=>exact vU x _ (ih0_)
theorem sN:∀a b,Spec.ltCps a b=Nr->mF b a=Nk
 | _,[]=>λ_=>by induction ‹Ni Nu›<;>rfl
 |[],_::_=>λh=>by cases h
 |x::a,y::b=>λh=>by
  unfold Spec.ltCps at h;simp only[pT,um,lY];by_cases c:y<x
  ·rw[Np c];rfl
  ·rw[Nl c]
   by_cases d:x<y
   ·simp[d] at h
   ·rw[Nl d]
    have:x=y:=by lia
    clear c d;subst this;exact sN a b (by simpa using h)
def wZ:∀p l,risingS p l=Nk->(p.cps.toList::l.map (·.cps.toList)).Pairwise (λa b=>mF a b=Nk):=by
 intro p ii_;induction ii_ generalizing p with
 |nil=>intro _;exact N0 ‹_›
 |cons x r ih0_=>
  intro h;simp only[risingS,Od,Qp] at h;have ih:=ih0_ x h.2;have q:=sN _ _ h.1;refine PI.mpr ⟨λz hz=>?_,ih⟩;rcases NH.mp hz with rfl|hz
  ·exact q
  ·exact lZ _ _ _ q ((PI.mp ih).1 z hz)
def xe(l)(h:sortedS l=Nk):(l.map (·.cps.toList)).Pairwise (λa b=>mF a b=Nk):=by
 induction l with
 |nil=>exact .nil
 |cons x r=>exact wZ x r h
def xf(hp:ss.Perm (ks.map aw))(hs:sortedS ss=Nk):ss=(bK ks).map aw:=by
 haveI e1:(ss.map (·.cps.toList)).Perm ks:=by
  haveI:=hp.map (·.cps.toList);rw[Oo] at this
  rwa [show ks.map ((λx:NX=>x.cps.toList)∘aw)=ks from by
   conv=>rhs;rw[<- map_id ks]
   exact map_congr_left λk _=>by(rfl)] at this
 haveI e2:ss.map (·.cps.toList)=bK ks:=Ni.Perm.eq_of_pairwise (λa b _ _ h h'=>EL a b h h') (xe ss hs) (uK ks) (e1.trans (qI ks).symm);refine bB (NU e2) ?_;rw[Oo]
 conv=>lhs;rw[<- map_id ss]
 exact map_congr_left λk _=>by(rfl)
def uN:∀{kvs:Ni (NX×Nz)}{vs:Ni Nz},vs.length=kvs.length->(∀(j:Nu) v,vs[j]?=xV v->∃k x,kvs[j]?=xV (k,x)/\(OD prog w).is k v=Nk)->StrsAre vs (kvs.map (·.1)):=by
 intro ii_
 induction ii_ with
 |nil=>
  intro jj_;induction jj_ with
  |nil=>intro _ _;exact .nil
  |cons _ _=>intro h _;contradiction
 |cons kv kvs ih0_=>
  intro jj_;induction jj_ using Nw with
  |nil=>intro h _;contradiction
  |cons v vs=>
   intro h k;refine bo (k 0 v (by(rfl))) λk' x e1 e2=>?_;injection e1 with e1
   rw[e1];refine X1 (UE e2) λt e1_=>?_;clear e2;subst e1_;exact .cons _ _ (ih0_ (by simpa using h) λj v hv=>by simpa using k (j+1) v (by exact hv))
def Gl:∀{ks:Ni (Ni Nu)}{xs:Ni Nz}{ss:Ni NX},StrsAre xs ss->ss=ks.map aw->(∀k∈ks,k.length<=aL)->aB w cA fz (ks.map V.str) xs:=by
 intro ii_
 induction ii_ with
 |nil=>
  intro _ _ jj_;induction jj_ with
  |nil=>intro _ _;exact aB.nil
  |cons _ _ _=>intro h _;contradiction
 |cons k ks ih0_=>
  intro _ _ jj_;induction jj_ with
  |nil=>intro h _;contradiction
  |cons y t r=>intro h z;rw[N3,R8] at h;rw[N3];rw[h.1];exact aB.cons (VR.fW (z k (.head _)) t) (ih0_ r h.2 λk' hk=>z k' (.tail _ hk))
def CN(a:At P A n pe nms W H s ρ)(h64:ks.length<64)(hx:VR P.w P.cA W.fz (.ec ks vs) x)(q:Q (.lst ((bK ks).map V.str)) H):bk P A (Ot (.builtin "sorted") [x]) (bC P W H s (SV P Q)) (cy P A W H s X) s:=by
 haveI hr:=a.hr;obtain⟨d,o,kvs,rfl,f1,z1,z6_,z2,z8_,r1⟩:=hx;obtain⟨es,ep,d1,d2,d3,d4,d5⟩:=z6_;have hk:=(z8_).1;haveI hkz:=(z8_).2;haveI D:s.heap.DictAt (OD prog P.w) d kvs ep:=⟨o,es,hr.fz _ _ f1,d1,d2,d3,d4,d5⟩;haveI hlen:kvs.length=ks.length:=by haveI:=NN OZ hk;simpa using this
 refine call_function_entry kind_sorted plain_sorted entry_sorted (args_sorted1 _) ?_;refine Nq (m:=checkCount "sorted" 1 1 _) (NC ?_);refine Nq (kdu_collect (A:=A.in1) (kdl_dict z1) a.cx.hd D (bH (by dsimp only[lim];exact cj [R0 (S1 V1) (zc 64),R2 V0 V1] V0 (zc 16000000) rfl h64 hlen)) λh' tk acc hk' hacc=>?_);have hl:acc.toList.length=kvs.length:=by exact hacc.1
 have hS:StrsAre acc.toList (kvs.map (·.1)):=uN (w:=P.w) hl λj v e=>hacc.2 j v (by refine bB (NU (Ov)) ?_;exact e);refine Nq (wpAny_newList ?_ (by rw[hl];exact bH (by simp only[lim];exact cj [R0 (S1 V1) (zc 64),R2 V0 V1] V0 (zc 16000000) rfl h64 hlen)));haveI T1:=Trans.of_keeps (s₁:={ s with heap:=h',toks:=tk }) hr hk' rfl rfl;refine A3 T1.hr.cI λn1 n2 n3=>?_;haveI J:=Trans.jJ T1.hr { cls:=.type "list",data:=.seq acc.toList.toArray };haveI hoL:(h'.push { cls:=.type "list",data:=.seq acc.toList.toArray }).get? h'.objs.size=xV (seqObj "list" acc.toList.toArray 0):=Oy _ rfl;refine Nq (OW (wpAny_call_entry slot_list_sort ⟨_,hoL,rfl⟩ entry_list_sort (list_sort_treeK strKind_oneLt hoL hS.keysOf (λv₁ v₂ rest e=>keyKind_strs (by refine bB (NU e) ?_;exact hS)) (by rw[hl];rw[hlen];exact h64) λst' a1 a2=>⟨_,rfl,?_⟩) (args_list_sort _)));refine NC ⟨_,rfl,?_⟩;refine a9 (sorted_out_str hS a1 a2) λss' b1 b2 b3=>?_;rw[hk] at b2;haveI b4:=xf b2 b3;refine X1 (sortedHeap_at (vs:=acc.toList) (out:=Vz (λx=>x.2) (arrOf st')) hoL) λc hc=>?_;haveI old:∀b o,h'.get? b=xV o->(sortedHeap (h'.push { cls:=.type "list",data:=.seq acc.toList.toArray }) h'.objs.size acc.toList (Vz (λx=>x.2) (arrOf st'))).get? b=xV o:=by intro b o e;haveI hlt:=Oz e;rw[sortedHeap_old (OV hlt) (by rw[Pe];exact Q7 hlt)];exact NI _ e
 haveI T2:=Trans.of_keeps (s₁:={ s with heap:=sortedHeap (h'.push { cls:=.type "list",data:=.seq acc.toList.toArray }) h'.objs.size acc.toList (Vz (λx=>x.2) (arrOf st')),toks:=tk }) T1.hr old rfl rfl;haveI nO:¬ f6 W H h'.objs.size:=by
  rintro(z|⟨o,z⟩)
  ·exact n3 z
  ·replace z:=(n2)▸z;injection z
 refine⟨_,_,T1.trans (T2.adopt (t:=tk) (eK _) n1 nO (PO _ _) hc),.lst ((bK ks).map V.str),?_,q⟩;haveI hperm:=qI ks;refine⟨_,_,_,rfl,Wd.bP ..,?_,Gl b1 b4 λk hk=>hkz k (hperm.mem_iff.mp hk)⟩;haveI:=b1.length;rw[b4,NR,hperm.length_eq,NW] at this;haveI e2:(Vz (λx=>x.2) (arrOf st')).size<64:=by exact cj [R0 (S1 V1) (zc 64),R2 V0 V1] (S1 V0) (zc 64) rfl h64 this
 simp only[aL];exact cj [R0 (S1 V1) (zc 64),R2 V0 V1] V0 (zc 1073741824) rfl h64 this
end
section
variable {P:bx}{K:PS}{mg mb:NX->Nt Nz}{n:Nu}{pe:NO}{nms:Ni NX}{A:Oj}{ρ:Env}{W W₁:Wd}{H H₁:ae}{s s₁:NJ}{Q:av}{X:Prop}
set_option tactic.hygienic true in
def Lj(pc:PC P K)(a:At P A n pe nms W H s ρ)(e:isA ty v H=xV b)(f:VR P.w P.cA W.fz v x)(q:Q (.bool b) H):
  bk P A (Ot (.builtin "isinstance") [x,M1 P ty]) (bC P W H s (SV P Q)) (cy P A W H s X) s:=by
 have hr:=a.hr;have g:=pc.here hr;have fin:∀tk,bC P W H s (SV P Q) (.bool b) { s with toks:=tk }:=λtk=>Fh hr q;have own:∀(y:OO) c o dx h,s.heap.get? y=xV o->o.cls=.ref (P.cA c)->o.dict=xV dx->o.data=.plain->s.heap.get? dx=xV h->lV (.own c) ty=b->bk P A (Ot (.builtin "isinstance") [.ref y,M1 P ty]) (bC P W H s (SV P Q)) (cy P A W H s X) s:=
  λy c o dx h D l u i B C=>Tx (kitx_own (pc.get c "__class__") (pc.D9 c) (pc.cls c) pc.aaZ pc.aa0 (pc.mro c)) g (iZ D l u i B) (C▸pc.isi (.own c) ty) nofun fin
 have z:∀{k},xV (lV k ty)=xV b->kitOne K (vtV P k) (M1 P ty)=xV b:=λ{k} e=>N1 e▸pc.isi k ty;induction v using Mine.V.casesOn<;>(try cases e;done)
 case none=>exact f.none_inv.symm▸Tx kitx_none g trivial (z e) nofun fin
 case bool c=>exact f.bool_inv.symm▸Tx kitx_bool g trivial (z e) nofun fin
 case int c=>refine X1 f.int_inv λt G=>?_;clear f;subst G;exact Tx kitx_int g trivial (z e) nofun fin
 case lst vs=>
  refine bO (hr.list rfl f) λc xs m F r J r1=>?_;clear f;subst F;exact Tx kitx_list g ⟨_,r,rfl⟩ (z e) nofun fin
 case ec ks vs=>
  obtain⟨d,o,I,rfl,r,J,⟨es,Y,M,_⟩,_⟩:=f;exact Tx kitx_dict g ⟨o,hr.fz _ _ r,M.1⟩ (z e) nofun fin
 case obj c fs=>
  obtain⟨y,o,dx,h,es,m,rfl,l,u,i,B,C,N,O,Z,T,U⟩:=f;exact own y c o dx h (hr.fz _ _ l) u i B (hr.fz _ _ C) (N1 e)
 case ref c=>
  refine f.ct.symm▸?_;have e:abm (H c) ty=xV b:=e;induction p:H c with
  |none=>rw[p] at e;cases e
  |some y=>
  rw[p] at e;induction y with
  |list vs=>obtain⟨xs,m,r,_,_⟩:=hr.live _ _ p;exact Tx kitx_list g ⟨_,r,rfl⟩ (z e) nofun fin
  |dict ks vs=>refine A3 (hr.live _ _ p) λ_ _ d=>?_;exact Tx kitx_dict g (d.elim (λz=>by obtain⟨_,_,_,j,_,_⟩:=z;refine jc j ?_;clear j;intro o _ _ E o2 _;exact⟨o,E,o2.1⟩) λz=>by obtain⟨_,_,_,j,_,_⟩:=z;refine jc j ?_;clear j;intro o _ _ E o2 _;exact⟨o,E,o2.1⟩) (z e) nofun fin
  |inst L fs=>obtain⟨o,D,l,u,i,m,⟨h,es,k,B,C,N,_,O⟩,_⟩:=hr.live _ _ p;exact own c L o _ h D l u i B (N1 e)
def hG:∀{es},es.all aR=Nk->(Rl pos (PW es pe)).any (·.1)=Nr:=by
 intro b;induction b with
 |nil=>intro _;exact rfl
 |cons e es a=>intro h;rw[Vh,Od] at h;rw[cg h.1];refine(?_:(Nr||(Rl pos (PW es pe)).any (·.1))=Nr);rw[a h.2];rfl
def b6{Q:Args->NJ->Prop}(a:es.all aR=Nk)(h:ON M A (WV (Rl pos (PW es pe))) (λvs s'=>Q ⟨vs,[]⟩ s') E s):
  ON M A (evalArgs f Nk (Rl pos (PW es pe)) []) Q E s:=by
 induction es using Nw with
 |nil=>refine Nq (N4 h (λvs s' z=>?_) λ_ _ z=>z);exact Nq (NC (OW (Nq (NC (Nq (NC (NC z)))))))
 |cons e es=>rw[Vh,Od] at a;rw[cg a.1] at h ⊢;exact evalArgs_plain h
def kG{Q}{E}(d:Xw f=pure .machine)(c:es.all aR=Nk)(h:bk P A (WV (Rl pos (PW es pe))) (λvs s'=>bk P A (Ot f vs) Q E s') E s):bk P A (Wk pos f [] (Rl pos (PW es pe)) []) Q E s:=by refine SG (P:=λ_=>Sl) (by rw[hG c];rfl) (λh _=>⟨.machine,.inr (.inl rfl),RP d⟩) (b6 c (N4 h (λvs s' z=>⟨trivial,z⟩) λ_ _ z=>z))
noncomputable def Dg:tb->NX
 |.len=> "len" |.abs=> "abs" |.str=> "str" |.int=> "int" |.chr=> "chr" |.ord=> "ord" |.bytes=> "bytes" |.tuple=> "tuple" |.list=> "list" |.sorted=> "sorted" |.max=> "max" |.min=> "min" |.range=> "range" |.bA _=> "isinstance"
noncomputable def KO:tb->Nz
 |.len=>.builtin "len" |.abs=>.builtin "abs" |.str=>.type "str" |.int=>.type "int" |.chr=>.builtin "chr" |.ord=>.builtin "ord" |.bytes=>.type "bytes" |.tuple=>.type "tuple" |.list=>.type "list" |.sorted=>.builtin "sorted" |.max=>.builtin "max"
 |.min=>.builtin "min" |.range=>.type "range" |.bA _=>.builtin "isinstance"
def JQ(f:tb):(Dg f,KO f)∈Di:=by
 haveI h:∀i (h:i<Di.length),Di[i]∈Di:=λi h=>getElem_mem h;induction f
 ·exact h 0 (by decide)
 ·exact h 1 (by decide)
 ·exact h 2 (by decide)
 ·exact h 3 (by decide)
 ·exact h 4 (by decide)
 ·exact h 5 (by decide)
 ·exact h 6 (by decide)
 ·exact h 7 (by decide)
 ·exact h 8 (by decide)
 ·exact h 9 (by decide)
 ·exact h 10 (by decide)
 ·exact h 11 (by decide)
 ·exact h 12 (by decide)
 ·exact h 13 (by decide)
def th(f:tb):Xw (KO f)=pure .machine:=by induction f<;>rfl
def Bw(a:At P A n pe nms W H s ρ)(e:Dn v H=xV u)(d:VR P.w P.cA W.fz v x):Q u H->bk P A (Ot (.type "bytes") [x]) (bC P W H s (SV P Q)) (cy P A W H s X) s:=by
 have any:(match bj v H with|some l=>if l.length<=lim then(dD l).map V.bytes else Nm|none=>Nm)=xV u->Q u H->bk P A (Ot (.type "bytes") [x]) (bC P W H s (SV P Q)) (cy P A W H s X) s:=by
  intro e;induction c:bj v H with
  |none=>replace e:=(c)▸e;exact gA e
  |some l=>replace e:=(c)▸e;exact ky e λg e=>jr e λb f q=>Dp a c g f d q
 induction v using Mine.V.casesOn with
 |bytes b=>exact aN e λq=>xK a d q
 | _=>exact any e
def Fj(a:At P A n pe nms W H s ρ)(o:∀t,f≠.bA t)(e:cp f vs H=xV u)(d:aB P.w P.cA W.fz vs xs):Q u H ->
  bk P A (Ot (KO f) xs) (bC P W H s (SV P Q)) (cy P A W H s X) s:=by
 induction f with
 |len=>exact jK e d λv y e h=>LK a e h
 |abs=>exact jK e d λv y e h=>cH e h λi t e=>aN e λq=>KH a q
 |str=>exact jK e d λv y e h=>cH e h λi t e=>b9 e λc q=>MY a c q
 |int=>exact jK e d λv y e h=>B6 e h λl t e _=>b9 e λc q=>Lf a c q
 |chr=>exact jK e d λv y e h=>cH e h λi t e=>b9 e λc q=>PySem.P.chr_of_int (by lia) (cQ a.hr (VR.fW (by exact QG _) _) q)
 |ord=>exact jK e d λv y e h=>B6 e h λl t e _=>Mb a e
 |bytes=>exact jK e d λv y e h=>Bw a e h
 |tuple=>exact jK e d λv y e h=>abK e (λl e h=>b9 e λc q=>Gy a c h q) h
 |list=>exact jK e d λv y e h=>abK e (λl e h=>b9 e λc q=>Ii a c h q) h
 |sorted=>exact jK e d λv y e h=>aeD e (λks vs e h=>b9 e λc q=>CN a c h q) h
 |max=>exact abt e d λv v' y m e h g=>cH e h λi t e=>cH e g λj k e=>aN e λq=>PySem.max_two_ints a.cx.hd λg tk hk=>⟨W,H,Trans.of_keeps a.hr hk rfl rfl,.int _,Kf,q⟩
 |min=>exact abt e d λv v' y m e h g=>cH e h λi t e=>cH e g λj k e=>aN e λq=>PySem.min_two_ints a.cx.hd λg tk hk=>⟨W,H,Trans.of_keeps a.hr hk rfl rfl,.int _,Kf,q⟩
 |range=>exact FP a e d
 |bA t=>exact NK rfl (o t)
def FZ(g:PG P mg mb)(l:∀t,f≠.bA t)(i:x=Dg f)(hk:pe.kindOf x=xV .globalImplicit)(hd:aK x=Nk)(k:es.all aR=Nk)(h:Bi P n pe nms es cs):
  SE P n pe nms (.Call (.Name x p) es [] pos) (.ao f cs):=by
 intro A ρ W H s Q X a q;subst i;haveI c:=(g.bi _ _ (JQ f)).1;haveI j:=(g.bi _ _ (JQ f)).2;refine Call_Name rfl (gW a g hk c j (kG (th f) k ?_) hd);refine cf (h A ρ W H s _ X a q pos) λW₁ H₁ s₁ ys t b=>Mine.a9 b λvs d _ q=>qT t ?_;refine ah (aM q) λu e q=>?_;exact Fj (a.step t) l e d q
def xA(P:bx)(mg mb:NX->Nt Nz)(x:NX)(ty:Ty):Prop:=mg x=xV (M1 P ty)\/(mg x=Nm/\mb x=xV (M1 P ty))
def CD(g:PG P mg mb)(pc:PC P K){x:NX}{e}(w:x = "isinstance")(hk:pe.kindOf x=xV .globalImplicit)(hd:aK x=Nk)(l:xA P mg mb y ty)(d:pe.kindOf y=xV .globalImplicit)(f:aK y=Nk)(j:aR e=Nk)(h:SE P n pe nms e c):SE P n pe nms (.Call (.Name x p) [e,.Name y p'] [] pos) (.ao (.bA ty) (.cons c .nil)):=by
 intro A ρ W H s Q X a q;subst w;have r:=(g.bi "isinstance" (.builtin "isinstance") (by(decide))).1;have C:=(g.bi "isinstance" (.builtin "isinstance") (by(decide))).2;refine Call_Name rfl (gW a g hk r C (kG rfl (by rw[Vh];rw[j];rfl) ?_) hd);rw[cg j];rw[cg rfl];refine Sn (cf (h A ρ W H s _ X a q) λW₁ H₁ s₁ v t o=>Mine.ah o λu D q=>?_);haveI i:=a.step t;refine Sn ?_;haveI F:∀{Q}{E},Q (M1 P ty) s₁->bk P A (eval (.Name y p') pe) Q E s₁:=by
  intro Q E k;rcases l with z|⟨m,B⟩
  ·exact dn i g d z k f
  ·exact gW i g d m B k f
 refine F (Uh ?_);refine qT t ?_;haveI q:eY ((isA ty u H₁).map V.bool) (λv=>Q v H₁):=q;induction e:isA ty u H₁ with
 |none=>replace q:=(e)▸q;exact q.elim
 |some b=>replace q:=(e)▸q;exact Lj pc i e D q
end
section
variable {P:bx}{K:PS}{mg mb:NX->Nt Nz}{n:Nu}{pe:NO}{nms:Ni NX}{A:Oj}{ρ:Env}{W W₁:Wd}{H H₁:ae}{s s₁:NJ}{Q:av}{X:Prop}
def e8(P:bx)(A:Oj)(W:Wd)(H:ae)(s:NJ)(Q:av)(X:Prop)(id:Ue)(x:Nz)(xs:Ni Nz):Prop:=
 bk P A (Ot (.builtin id) (x::xs)) (bC P W H s (SV P Q)) (cy P A W H s X) s
def Fx{xs:O8 Nz}(r:aB w cA fz l xs.toList)(h:VR w cA fz v x):aB w cA fz (l++[v]) (xs.push x).toList:=by rw[toList_push];exact r.append (aB.cons h aB.nil)
def fG(hr:HR P W H s.heap)(f)(d:H c=xV (.list l))(g:s.heap.get? c=xV { cls:=.type "list",data:=.seq xs m })(b:f xs=ys)(e:ys.size<=aL)(r:aB P.w P.cA W.fz l' ys.toList):
  Trans P W H s W (H.set c (.list l')) { s with heap:=s.heap.update c (Wl f) }:=by
 haveI a:=IsL.update g f;rw[b] at a;exact Trans.change (y:=.list l') hr d trivial trivial (Sf ..) ⟨ys,_,a,e,r⟩
def Bl(a:At P A n pe nms W H s ρ)(g:H c=xV (.list l))(d:l.length<lim)(h:VR P.w P.cA W.fz v x)(q:Q .none (H.set c (.list (l++[v])))):e8 P A W H s Q X "list.append" (.ref c) [x]:=by obtain⟨xs,m,e,i,f⟩:=a.hr.live _ _ g;haveI b:=f.length;replace b:=(NW)▸b;refine Rc Su ⟨_,e,rfl⟩ UG (Ul _ _) (list_append c xs m x (by rw[b];exact bH (Pf d))) ⟨e,?_⟩;exact⟨_,_,fG a.hr (λz=>z.push x) g e rfl (by rw[size_push];simp only[aL];dsimp only[lim] at d;exact cj [R0 (S1 V1) (zc 16000000),R2 V0 V1] (S1 V0) (zc 1073741824) rfl d b) (Fx f h),.none,VR.of_none,q⟩
def IU(a:At P A n pe nms W H s ρ)(i:H c=xV (.list l))(g:l.getLast?=xV v)(o:l.length<=lim)(q:Q v (H.set c (.list l.dropLast))):e8 P A W H s Q X "list.pop" (.ref c) []:=by
 obtain⟨xs,m,h,k,d⟩:=a.hr.live _ _ i;haveI b:=d.length;replace b:=(NW)▸b;replace g:=(Ni.getLast?_eq_getElem?)▸g;refine ah (d.get g) λy e r=>?_;rw[Ov,<- b] at e;refine Rc VP ⟨_,h,rfl⟩ F.entry_list_pop (F.args_list_pop_1 _) (list_pop_last c xs m y e (by rw[b];exact bH o)) ⟨h,?_⟩;refine⟨_,_,fG a.hr (λz=>z.eraseIdxIfInBounds (xs.size - 1)) i h ?_ (by rw[size_pop];exact cR [R0 V2 V1,R0 V0 V2] V0 V1 rfl k (QR _ _)) ?_,v,r,q⟩
 ·refine(NG (xs.size=0)).elim (λf=>?_) (λf=>?_)
  ·haveI:xs=#[]:=S2 f
   rw[this];rfl
  ·rw[O8.eraseIdxIfInBounds];rw[dif_pos (cj [R2 (S1 V0) V1] (S1 V0) V1 rfl (NT (cZ [R0 (S1 K0) V0] K1 V0 rfl (PD f))))]
   apply O8.ext';rw[toList_eraseIdx];rw[toList_pop];rw[Ni.eraseIdx_eq_take_drop_succ];rw[drop_of_length_le (by rw[NW];exact cj [R0 V0 (S1 V1)] V0 (S1 V1) rfl (mV _ _))];rw[N9];rw[Rz];rw[NW];rfl
 ·haveI j:xs.pop.toList=xs.toList.take (l.length - 1):=by rw[O8.toList_pop];rw[Rz];rw[NW];rw[b];rfl
  rw[j];rw[Rz];exact d.take _
def BO(a:At P A n pe nms W H s ρ)(i:H c=xV (.list l))(j:VR P.w P.cA W.fz (.lst l') x)(f:l.length+l'.length<lim)(q:Q .none (H.set c (.list (l++l')))):e8 P A W H s Q X "list.extend" (.ref c) [x]:=by
 obtain⟨xs,m,g,t,p⟩:=a.hr.live _ _ i;refine bO (a.hr.list rfl j) λb ys k h r u o=>?_;clear j;subst h;haveI e:=p.length;haveI d:=o.length;rw[NW] at e d;simp only[lim] at f;refine Rc Sv ⟨_,g,rfl⟩ UH (Um _ _) (AutoSeq1.list_extend_list_list_0 c xs m b ys k ?_ (by rw[O0];exact cR [R0 (S1 (zp V1 V2)) (zc 16000000),R2 V0 V1] V0 (zc 16777216) rfl f e) (by rw[O0];exact gb [R0 (S1 (zp V2 V3)) (zc 16000000),R2 V0 V2,R2 V1 V3] (zp V0 V1) (S1 (zc 16777216)) rfl f e d)) ⟨g,r,?_⟩
 ·simp only[Od,not_and,Vt]
  intro _;unfold Pq.List.listTooLong;rw[decide_eq_false_iff_not];rw[O0];exact zN [_,_,_,_] [] [R0 (S1 (zp V2 V3)) (zc 16000000),R2 V0 V2,R2 V1 V3] (R0 (S1 (zc 16777216)) (zp V0 V1)) [1,1,1,1] rfl f e d
 ·refine⟨_,_,fG a.hr (λz=>z++ys) i g rfl (by rw[VL];dsimp only[aL];exact gb [R0 (S1 (zp V2 V3)) (zc 16000000),R2 V0 V2,R2 V1 V3] (zp V0 V1) (zc 1073741824) rfl f e d) ?_,.none,VR.of_none,q⟩
  rw[UO];exact p.append o
def Gg(a:At P A n pe nms W H s ρ)(j:VR P.w P.cA W.fz (.str l) x)(d:VR P.w P.cA W.fz (.str [32]) y)(h:l.contains 32=Nr)(q:Q (.lst [.str l]) H):e8 P A W H s Q X "str.split" x [y]:=by
 refine ah j.str_inv λt b m=>?_;clear j;subst b;refine ah d.str_inv λu b _=>?_;clear d;subst b;haveI fin:bC P W H s (SV P Q) (.ref s.heap.objs.size) { s with heap:=s.heap.push { cls:=.type "list",data:=.seq #[.str (aw l) t] } }:=by refine⟨_,_,Trans.alloc a.hr rfl,.lst [.str l],?_,q⟩;refine⟨_,_,_,rfl,Wd.bP ..,by exact QG _,aB.cons (VR.fW m t) aB.nil⟩
 induction g:(decide ((aw l).length<(aw [32]).length)||decide (UI (aw l)<UI (aw [32])))
 ·refine Rc Tc (U1 _ _ _) Vi (U3 _ _) (meets_str_split_not_found (aw l) (aw [32]) t u g rfl ?_) fin
  haveI e:=PySem.StrLaws.occ_chain (aw l) (aw [32]) ((aw l).length+1);refine X1 e ?_;clear e;intro f e;induction o:Rh (aw l) (aw [32]) 0 (aw l).length ((aw l).length+1) using Nw with
  |nil=>rfl
  |cons i r=>rw[o] at e;refine A3 e ?_;clear e;intro _ c _;refine A2 c ?_;clear c;intro p k;haveI:=(PySem.StrLaws.found_iff (aw l) (aw [32])).mpr ⟨i,p,k⟩;rw[ua,h] at this;injection this
 ·exact Rc Tc (U1 _ _ _) Vi (U3 _ _) (meets_str_split_cannot_occur (aw l) (aw [32]) t u g) fin
def IE(c):∀l k i j,(l.filter (·==c)).length=1->jm c l k=xV j->l[i]?=xV c->k+i=j:=by
 intro f;induction f with
 |nil=>intro _ _ _ _ _ h;contradiction
 |cons x l d=>
  intro k i j e a b;simp only[DT,DU] at a;by_cases q:x=c
  ·replace a:=(Np q)▸a
   injection a with a;subst a
   rw[RS,Np (by simpa using q),Nn] at e;haveI g:=OI (Q3 e);induction i using Qn with
   |zero=>rfl
   |succ i=>simp at b;haveI:=mem_of_getElem? b;haveI z:=QU.mp g c this;simp at z
  ·replace a:=(Nl q)▸a
   rw[RS,Nl (by simpa using q)] at e;induction i using Qn with
   |zero=>injection b with b;exact NK b q
   |succ i=>simp at b;haveI:=d (k+1) i j e a b;exact zE [_,_,_] [] [R2 (zp (S1 V0) V1) V2,R3 (zp (S1 V0) V1) V2] (zp V0 (S1 V1)) V2 [1,1,0] [1,0,1] rfl rfl this this
def Eh(a:At P A n pe nms W H s ρ)(B:VR P.w P.cA W.fz (.str l) x)(p:VR P.w P.cA W.fz (.str [c]) y)(h:(l.filter (·==c)).length=1)(E:jm c l 0=xV k)(q:Q (.int (k:N6)) H):e8 P A W H s Q X "str.index" x [y]:=by
 refine ah B.str_inv λt d j=>?_;clear B;subst d;refine ah p.str_inv λu d _=>?_;clear p;subst d;refine X1 (PySem.StrLaws.occ_chain (aw l) (aw [c]) 1) λf e=>?_;have hm:l.contains c=Nk:=by
  haveI:l.filter (·==c)≠[]:=λz=>by replace h:=(z)▸h;injection h
  refine X1 (exists_mem_of_ne_nil _ this) λz j=>?_;rw[VQ] at j;rw[Uj];haveI:z=c:=by exact N0 j.2
  induction this;exact NP j.1
 haveI b:=ua l c;replace b:=(hm)▸b;induction o:Rh (aw l) (aw [c]) 0 (aw l).length 1 using Nw with
 |nil=>replace b:=(o)▸b;injection b
 |cons i r=>
  replace e:=(o)▸e;refine A3 e ?_;clear e;intro _ g _;have G:=(g).1;have m:=(g).2;refine SC.index o (cQ a.hr ?_ q);haveI hi:l[i]?=xV c:=by
   unfold Pq.Str.subAt at m;rw[Ob] at m;haveI C:=NN Vc m;dsimp only[aw,cC,extract_eq_take_drop] at C;haveI F:(WK (i+[c].length - i) (WL i l))=[c]:=by simpa [PySem.Str.length] using C
   haveI D:(WK (i+[c].length - i) (WL i l))[0]?=xV c:=by rw[F];rfl
   simpa using D
  haveI:=IE c l 0 i k h E hi;rw[show k=i from by exact zE [_,_] [] [R3 (zp K0 V1) V0,R2 (zp K0 V1) V0] V0 V1 [1,1,0] [1,0,1] rfl rfl this this];exact VR.bV _ _
end
def oK:U0 (.type "bytes") "__buffer__" = pure (xV (.builtin "bytes.__buffer__")):=by kernel_rfl
def KQ:U0 (.type "bytes") "__release_buffer__" = pure Nm:=by kernel_rfl
section
variable {M:VK}{A:Oj}{E:Nz->NJ->Prop}{s:NJ}
def Dh(h:Q Nk s):ON M A (Pq.Bytes.slotIsOwn (.bytes b t) "__buffer__") Q E s:=by refine Nq (PT (Oa s b t) oK ?_);dsimp only;rw[show(("bytes.__buffer__" : Ue).endsWith ("." ++ "__buffer__"))=Nk from by decide +kernel];rw[show(("bytes.__buffer__" : Ue).dropRight (("__buffer__" : Ue).length+1)) = "bytes" from by decide +kernel];exact VA (Oa s b t) Xv h
def G2(h:Q Nr s):ON M A (Pq.Bytes.ownRelease (.bytes b t)) Q E s:=by refine Nq (Nq (PT (Oa s b t) KQ ?_));exact NC (NC h)
def Br{id}(h:Q (xV b) s):ON M A (Pq.Bytes.buffer? id (.bytes b t) full) Q E s:=by refine Nq (PT (Oa s b t) oK ?_);refine Nq (Dh ?_);refine Nq (PT (Oa s b t) oK ?_);refine Nq (G2 ?_);exact Nq (P5 (a:=b) rfl (NC h))
def G3{id}(h:Q (xV (b,Nm)) s):ON M A (Pq.Bytes.takeBufferQuiet? id (.bytes b t) 0) Q E s:=by refine Nq (wpAny_attempt ?_);refine Nq (PT (Oa s b t) oK ?_);refine Nq (Dh ?_);refine Nq (PT (Oa s b t) oK ?_);refine Nq (Br (NC ?_));exact NC h
end
def ib:Slot "bytes" "join" "bytes.join" :=
 .of (owner:= "bytes") (n:= "join") (by kernel_rfl) (by decide +kernel) (by decide +kernel) (by decide +kernel)
  (by first|exact .inl (by decide +kernel)|exact .inr (by decide +kernel)) (by kernel_rfl)
def nF:WY (.builtin "bytes.join")=pure (.type "method_descriptor"):=by show builtinType _=_;rw[builtinType_eq_fast];kernel_rfl
def lK:entryFor table "bytes.join" = xV Pq.«bytes.join»:=entryFor_of_tree (by kernel_rfl)
def mW(a b):argsOk "bytes.join" ⟨[a,b],[]⟩:=by kernel_rfl
noncomputable def gd(l:Ni (O8 RR×Tok)):Ni Nz:=l.map λp=>.bytes p.1 p.2
def wK(l:Ni (O8 RR×Tok)):((l.map λp=>((SH p.1 p.2:Nz),(Nm:Nt Nz))).any (·.1.onHeap))=Nr:=by
 induction l with
 |nil=>rfl
 |cons x l ih=>rw[N3];rw[Ui];rw[ih];rfl
section
variable {M:VK}{A:Oj}{E:Nz->NJ->Prop}{s:NJ}
def wh(l:Ni (O8 RR×Tok))(keep)(h:Q () s):ON M A (Td (l.map λp=>((SH p.1 p.2:Nz),(Nm:Nt Nz))) keep) Q E s:=by
 induction l with
 |nil=>exact NC h
 |cons x l ih=>unfold Td;exact Nq (wpAny_letGo ih)
end
def jm1(h:items.size≠1):Builtin.Bytes.joinM.match_1 motive items a b=b items:=by unfold Builtin.Bytes.joinM.match_1;rw[dif_neg h];rfl
def K6{β:Type}{M:VK}{f:Nu->β->XQ (ForInStep β)}{N:Nu}{st:Nu->β}{Q:β->NJ->Prop}(h:∀i,i<N->ON M A (f i (st i)) (λr s'=>r=.yield (st (i+1))/\s'=s) E s)(q:Q (st N) s):∀k i,i+k=N->ON M A (forIn (QY i k) (st i) f) Q E s:=by
 intro k;induction k with
 |zero=>intro i e;haveI d:i=N:=e;rw[d];exact NC q
 |succ k a=>intro i e;rw[Ni.range'_succ];rw[Ni.forIn_cons];refine Nq (N4 (h i (e▸Nu.lt_add_of_pos_right (QG k))) (λr s' c=>?_) λ_ _ z=>z);refine A2 c ?_;clear c;intro c d;subst c;clear h q;subst d;exact a (i+1) ((succ_add i k).trans e)
def l4(sep:O8 RR)(ts)(D)(l)(ob)(n)(hob:ob.data=.seq (gd l).toArray n)(hcl:ob.cls=.type "list")(hz:(l.map (·.1)).toArray.foldl (·+·.size) (sep.size * (l.length - 1))<=QX)(hj:(Qq sep (l.map (·.1))).size<=QX):
  Xs (Pq.«bytes.join» ⟨[.bytes sep ts,.ref D],[]⟩) (λ_ R s=>s.heap.get? D=xV ob/\∀t' k,R (.ok (.ret (.bytes (Qq sep (l.map (·.1))) t'))) { s with toks:=k }):=by
 refine .of_wp λprog w A R s z_=>Mine.A2 z_ λho h=>?_;clear z_;refine(NG (l.length=1)).elim (λh1=>?_) (λh1=>?_)
 ·refine X1 (length_eq_one_iff.mp h1) λp e1_=>?_;clear hz hj h1;subst e1_
  haveI hT:s.TypeIs (.ref D) "list" :=⟨ob,ho,hcl⟩;refine Nq (P5 (a:=(SH sep ts,PQ D)) rfl ?_);refine Nq ?_;refine Nq (Ro hT ?_);refine NC ?_;refine Nq (Rp ho hob ?_);refine Nq (Ro (Oa s p.1 p.2) ?_);refine Nq (Wg (NC ⟨_,rfl,?_⟩));refine(?_:R (.ok (.ret (.bytes p.1 p.2))) s);haveI:=h p.2 s.toks;simpa [Qq] using this
 ·haveI hT:s.TypeIs (.ref D) "list" :=⟨ob,ho,hcl⟩
  refine Nq (P5 (a:=(SH sep ts,PQ D)) rfl ?_);refine Nq ?_;refine Nq (Ro hT ?_);refine NC ?_;refine Nq (Rp ho hob ?_);dsimp only;haveI hsz:(gd l).toArray.size=l.length:=by exact NR _
  rw[jm1 (by rw[hsz];exact h1)];rw[Std.Legacy.Range.forIn_eq_forIn_range'];refine Nq ?_;refine K6 (N:=l.length) (st:=λi=>(((l.map (·.1)).take i).toArray,(l.take i).map λp=>((SH p.1 p.2:Nz),(Nm:Nt Nz)))) (λx hlt=>?_) ?_ _ 0 (by simp[hsz])
  ·refine Nq (Rp ho hob ?_)
   dsimp only;rw[wK];haveI hx:(gd l).toArray.getD x Tu=.bytes l[x].1 l[x].2:=by simp[gd,hlt]
   rw[hx];refine Nq (OW (G3 ?_));refine Nq (Rp ho hob ?_);dsimp only;rw[Nl (by simp)];refine NC ⟨?_,rfl⟩;rw[Vj];rw[Vj];simp[hlt];rw[Vj];simp[hlt]
  ·rw[P1 (by simp)];rw[P1 (by simp)]
   refine Nq (P5 (a:=sep) rfl ?_);rw[Nl (by
    haveI e:(l.map (·.1)).toArray.size=l.length:=by simp
    unfold Pq.Bytes.tooLong;simpa using hz)]
   refine Nq (wpAny_mkBytes ?_ hj);refine Nq (OW (wpAny_point ?_));refine Nq (wh l _ ?_);exact NC ⟨_,rfl,h _ _⟩
def wb(sep):∀(ps:Ni (O8 RR)) (k:Nu) (out:O8 RR),0<k ->
  ((ps.zipIdx k).foldl (λout (p:O8 RR×Nu)=>(if p.2>0 then out++sep else out)++p.1) out).toList=out.toList++(ps.map λp=>sep.toList++p.toList).flatten:=by
 intro ii_
 induction ii_ with
 |nil=>intro _ _ _;exact(N9 _).symm
 |cons p ps ih0_=>intro k out h;rw[zipIdx_cons];rw[Ra];rw[ih0_ (k+1) _ (by exact aaj)];simp[h]
noncomputable def xg(sep:Ni Nu)(ps:Ni (Ni Nu)):Ni Nu:=(ps.map (sep++·)).flatten
theorem jI(sep x):∀r,ef sep (x::r)=x++xg sep r
 |[]=>by exact(N9 _).symm
 |y::r=>by rw[kz];rw[jI sep y r];simp[xg]
def B4(sep)(ps:Ni (O8 RR)):(Qq sep ps).toList.map Om=ef (sep.toList.map Om) (ps.map λp=>p.toList.map Om):=by
 induction ps using Nw with
 |nil=>rfl
 |cons p ps=>rw[N3];rw[jI];haveI:=wb sep ps 1 (#[]++p) (by exact NA _);haveI e:(Ni.foldl (λout (x:O8 RR×Nu)=>match x with|(p,i)=>(if i>0 then out++sep else out)++p) (match (p,0) with|(p,i)=>(if i>0 then #[]++sep else #[])++p) (ps.zipIdx (0+1))).toList=(#[]++p).toList++(ps.map λp=>sep.toList++p.toList).flatten:=this;rw[e];simp only[UO,OX,N7,xg,Ni.map_flatten,Oo,Function.comp_def]
theorem sG(sep):∀ss,(ef sep ss).length<=dj ss+sep.length * ss.length
 |[]=>by simp[Eu,Ew,kz]
 |x::r=>by
  rw[jI];have:(xg sep r).length=dj r+sep.length * r.length:=by
   clear x;induction r with
   |nil=>(rfl)
   |cons y r ih=>simp only[xg,dj,N3,WZ,Nv,Vk,Nn] at ih ⊢;rw[ih];rw[Wm];exact ady
  rw[Nv];rw[this];simp only[dj,N3,Vk,Nn,Wm];exact adz
def yt(ps:Ni (O8 RR))(k):ps.foldl (·+·.size) k=k+dj (ps.map λp=>p.toList.map Om):=by
 induction ps generalizing k with
 |nil=>(rfl)
 |cons p ps ih=>rw[Ra];rw[ih];simp[dj];exact Qx _ _ _
section
variable {w:Px}{cA:eX->OO}{fz:Fz}
def xN:∀{vs}{xs}{bs},aB w cA fz vs xs->dy vs=xV bs->∃l:Ni (O8 RR×Tok),xs=gd l/\bs=l.map λp=>p.1.toList.map Om:=by
 intro ii_
 induction ii_ with
 |nil=>intro xs bs h e;exact aB.kO h (aN e ⟨[],rfl,rfl⟩)
 |cons v vs ih0_=>intro xs bs h e;refine aB.eA h λy r h1 h2=>?_;haveI e:kB v (λs=>(dy vs).map (s::·))=xV bs:=e;refine HX e h1 λarr t e _=>?_;refine jr e λb e=>?_;refine ah (ih0_ h2 e) λl e1 e2=>?_;exact⟨(arr,t)::l,by rw[e1];rfl,by rw[e2];rfl⟩
def Gn:∀{vs}{xs}{bs},aB w cA fz vs xs->bX vs=xV bs->∃l:Ni (NX×Tok),xs=strValues l/\l.map (·.1)=bs.map aw:=by
 intro ii_
 induction ii_ with
 |nil=>intro xs bs h e;exact aB.kO h (aN e ⟨[],rfl,rfl⟩)
 |cons v vs ih0_=>intro xs bs h e;refine aB.eA h λy r h1 h2=>?_;haveI e:kS v (λs=>(bX vs).map (s::·))=xV bs:=e;refine B6 e h1 λs t e _=>?_;refine jr e λb e=>?_;refine ah (ih0_ h2 e) λl e1 e2=>?_;exact⟨(aw s,t)::l,by rw[e1];rfl,NN (aw s::·) e2⟩
end
def Ey(sep):∀ss,Txt.join (aw sep) (ss.map aw)=aw (ef sep ss):=by
 intro ss;refine(?_:Pq.Str.glued _ _=_);rw[PySem.StrLaws.glued_eq_join];induction ss with
 |nil=>rfl
 |cons x r ih=>
  induction r using Nw with
  |nil=>rfl
  |cons y r=>rw[N3,N3] at *;refine(?_:aw x++aw sep++NX.join (aw sep) (aw y::r.map aw)=_);rw[ih];rw[kz];rw[iJ];rw[iJ];rfl
section
variable {P:bx}{K:PS}{mg mb:NX->Nt Nz}{n:Nu}{pe:NO}{nms:Ni NX}{A:Oj}{ρ:Env}{W W₁:Wd}{H H₁:ae}{s s₁:NJ}{Q:av}{X:Prop}
def Et(a:At P A n pe nms W H s ρ)(hx:VR P.w P.cA W.fz (.bytes sep) x)(hy:VR P.w P.cA W.fz v y)(hl:bj v H=xV l)(hs:dy l=xV ss)(hz:dj ss+sep.length * ss.length<=lim)(q:Q (.bytes (ef sep ss)) H):
  e8 P A W H s Q X "bytes.join" x [y]:=by
 refine aO hx.bR λarr t e2_ e3_ _=>?_;subst e2_;subst e3_;refine bO (a.hr.list hl hy) λc xs m e3_ f1 z1 r1=>?_;clear hy;subst e3_;refine ah (xN r1 hs) λL e1 e2_=>?_;clear hs;subst e2_;haveI ej:=B4 arr (L.map (·.1));replace ej:=(Oo)▸ej;haveI ej':(λp:O8 RR=>p.toList.map Om)∘(λp:O8 RR×Tok=>p.1)=λp=>p.1.toList.map Om:=rfl;haveI len:=sG (arr.toList.map Om) (L.map λp=>p.1.toList.map Om);haveI size:(Qq arr (L.map (·.1))).size=(ef (arr.toList.map Om) (L.map λp=>p.1.toList.map Om)).length:=by refine bB (NU ej) ?_;simp
 simp only[NR,NW] at hz len;refine Rc ib (Oa _ _ _) lK (mW _ _) (l4 arr t c L { cls:=.type "list",data:=.seq xs m } m (by refine bB (NU e1) ?_;rw[RT];rfl) rfl ?_ ?_) ⟨f1,λt' k=>cQ a.hr (v:=.bytes _) ?_ q⟩
 ·rewrite [<- O8.foldl_toList];rw[UD];rw[yt];rw[Oo];rw[ej']
  refine bH (Nj ?_ hz);haveI:arr.size * (L.length - 1)<=arr.size * L.length:=TM _ (QR _ _);exact cR [R0 V0 V2] (zp V0 V1) (zp V1 V2) rfl this
 ·rw[size];exact bH (Nj len hz)
 ·exact⟨_,t',rfl,ej,by dsimp only[aL];dsimp only[lim] at hz;exact gb [R2 V0 V1,R0 (zp V2 V3) (zc 16000000),R0 V1 (zp V2 V3)] V0 (zc 1073741824) rfl size hz len⟩
def Ex(a:At P A n pe nms W H s ρ)(hx:VR P.w P.cA W.fz (.str sep) x)(hy:VR P.w P.cA W.fz v y)(hl:bj v H=xV l)(hs:bX l=xV ss)(hz:dj ss+sep.length * ss.length<=lim)(q:Q (.str (ef sep ss)) H):
  e8 P A W H s Q X "str.join" x [y]:=by
 refine ah hx.str_inv λt e1_ _=>?_;clear hx;subst e1_;refine bO (a.hr.list hl hy) λc xs m e3_ f1 z1 r1=>?_;clear hy;subst e3_;refine ah (Gn r1 hs) λL e1 e2=>?_;haveI len:=sG sep ss;refine SC.join (l:=L) (by refine bB (NU e1) ?_;rw[RT];exact aZ f1) e2 ?_ λt' k=>?_
 ·unfold JoinOk
  rw[PySem.StrLaws.joinTotal];rw[Qp];haveI e3:(Wn (λx:NX=>x.length) (ss.map aw)).sum=dj ss:=by
   rw[Oo]
   congr 1
  rw[e3];rw[NR];rw[cC];refine N5 ?_;haveI:=bH hz;rw[Tr] at this;exact Pt.mpr this
 ·rw[Ey]
  exact cQ a.hr (VR.fW (by simp only[aL];dsimp only[lim] at hz;exact Nj len (Nj hz (by decide))) t') q
end
def yz(h:Q Nr s):ON M A (Pq.List.listLengthHint (.bytes b t)) Q E s:=by
 haveI d:=Oa s b t;refine Nq (PT d FB.slot_bytes_len.lookup ?_);generalize c:("bytes.__len__" : Ue)=e
 wp_delta
 rw[show splitId e=xV ("bytes", "__len__") from by subst c;decide +kernel];subst c;refine Nq (VA d Xv ?_);refine R9 (λa=>NK a (by decide)) (λ_=>?_);refine R9 (λ_=>?_) (λa=>NK (by decide +kernel) a);refine Nq (Ro d ?_);exact NC h
def MS{St}(W:UP prog w A I fp wr n P St)(xs:O8 Nz):
  UP prog w A I fp wr (xs.size+n) (λj v=>(j<xs.size->xs[j]?=xV v)/\(xs.size<=j->P (j - xs.size) v)) (λj h=>xs.size<=j/\St (j - xs.size) h) where
 sub:=W.sub
 frame:=λi h c st hk=>⟨st.1,W.frame _ _ _ st.2 hk⟩
 item:=λi s Q E hi st a=>W.item (i - xs.size) s Q E (gb [R0 (S1 V2) (zp V3 V1),R2 (zp V0 V3) V2] (S1 V0) V1 rfl hi (NT (st.1))) st.2 λv c tk d e hk=>a v c tk ⟨λq=>by exact(Rb (zF [_,_] [] [R0 V0 V1,R0 (S1 V1) V0] [1,1] rfl st.1 q)),λ_=>d⟩ ⟨by exact cj [R0 V0 V1] V0 (S1 V1) rfl st.1,by rw[show i+1 - xs.size=i - xs.size+1 from by exact succ_sub st.1];exact e⟩ hk
 done:=λs Q E st a=>W.done s Q E (by rw[show n=xs.size+n - xs.size from by exact adA];exact st.2) a
 self:=λi s Q E st a=>W.self _ s Q E st.2 a
def jO(S)(xs:O8 Nz)(g)(b)(t)(J:xs.size+b.size<=QX):
  MeetsIn prog w (Pq.«list.extend» ⟨[.ref S,.bytes b t],[]⟩) (λA R s=>A.handled=Nm/\s.heap.get? S=xV { cls:=.type "list",data:=.seq xs g } /\
   ∀p tk a k,(∀b o,b≠S->s.heap.get? b=xV o->p.get? b=xV o)->p.get? S=xV { cls:=.type "list",dict:=Nm,data:=.seq a k,slots:=#[] }->a.size=xs.size+b.size->(∀j,j<xs.size->a[j]?=xs[j]?)->(∀j c,b[j]?=xV c->∃u,a[xs.size+j]?=xV (.int (c.toNat:N6) u)) ->
    R (.ok (.ret .none)) { s with heap:=p,toks:=tk }):=by
 intro A R s ⟨E,z,G⟩;haveI y:=OV (Oz z);haveI n:S∉[s.heap.objs.size]:=by simp only[NH,SI,Wo];exact y
 haveI W:=MS (KBw.walks (w:=w) (A:=A.in1) E s.heap.objs.size b t) xs;refine Nq (NC ?_);refine Nq (Ro (Oa s b t) ?_);haveI K:Pq.List.listSameRef (.ref S) (.bytes b t)=Nr:=rfl;haveI M:(Qy "bytes" == Qy "list")=Nr:=by decide
 haveI L:(Qy "bytes" == Qy "tuple")=Nr:=by decide
 refine Nq (KBw.pyIter_bytes ?_);haveI i:=NI { cls:=.type "bytes_iterator",data:=.fields #[.bytes b t,.int 0 0] } z;refine Nq (OW (yz ?_));refine R9 (λq=>?_) (λ_=>?_)
 ·exact NK q (by decide +kernel)
 ·refine NC ⟨plainId_quiet PySem.F.plain_extend_loop _,?_⟩
  refine codeAny_extend_loopS W.toS J S n .none b.size xs.size _ xs g (aak) (aal) ⟨NA _,by rw[Nu.sub_self];exact⟨_,Oy _ rfl,rfl,rfl⟩⟩ i ⟨rfl,λj v e=>⟨λ_=>e,λq=>?_⟩⟩ λs' a k hm x d=>?_
  ·haveI:=(Qc.mp e).1;exact NK this (Pt.mpr q)
  ·rw[Moved.eq_with hm]
   refine G s'.heap s'.toks a k (λb o D e=>hm.heap b o (λf=>?_) (NI _ e)) x d.1 (λj C=>?_) (λj c B=>?_)
   ·refine ND (NH.mp f) (λI=>?_) (λf=>?_)
    ·exact D I
    ·exact NK (Oz e) (by rw[mem_singleton.mp f];exact P4 _)
   ·haveI h:j<a.size:=by rw[d.1];exact Nj C (NV _ _)
    haveI e:a[j]?=xV a[j]:=by simp[h]
    rw[e];exact((d.2 j _ e).1 C).symm
   ·haveI r:=(Qc.mp B).1
    haveI h:xs.size+j<a.size:=by rw[d.1];exact OQ r _
    haveI e:a[xs.size+j]?=xV a[xs.size+j]:=by simp[h]
    refine bo ((d.2 _ _ e).2 (aal)) λk u l H=>?_;rw[show xs.size+j - xs.size=j from by exact aak,B] at l;injection l with l;subst l
    exact⟨u,by rw[e];rw[H];rfl⟩
section
variable {s:NJ}
def Trans.G9(x:HR P W H s.heap)(w:H a=xV y₀)(j:gZ y₀)(t:gZ y)(k:∀b o,b≠a->s.heap.get? b=xV o->h'.get? b=xV o)(v:hO P W h' a y):
  Trans P W H s W (H.set a y) { s with heap:=h',toks:=tk }:=by
 have g:aW W H a:=.inl ⟨_,w⟩;haveI E:∀b o,¬ aW W H b->s.heap.get? b=xV o->h'.get? b=xV o:=λb o f e=>k b o (λq=>f (q▸g)) e;have h:∀c cl fs,H c=xV (.inst cl fs)->c≠a/\W.dx c≠a:=λc cl fs e=>
  ⟨λq=>by rw[q,w] at e;injection e with e;subst e;exact j.elim,λq=>by have:=x.apart c cl fs e;rw[q,w] at this;cases this⟩
 have d:∀b c fs,(H.set a y) b=xV (.inst c fs)->b≠a/\H b=xV (.inst c fs):=by
  intro b c fs e;haveI e:(if b=a then xV y else H b)=xV (.inst c fs):=e;by_cases q:b=a
  ·replace e:=(Np q)▸e;injection e with e;clear v;subst e;exact t.elim
  ·rw[Nl q] at e;exact⟨q,e⟩
 refine⟨⟨x.b0,λb o e=>k b o (λq=>by rw[q,x.fy a g] at e;exact nomatch e) (x.base b o e),λb o e=>k b o (λq=>by rw[q,x.dZ a g] at e;exact nomatch e) (x.fz b o e),λb z e=>?_,λb f=>?_,λb f=>?_,
  λb c fs e=>?_,λb c fs C B p e A q=>?_⟩,rfl,rfl,λ_ _ e=>e,λ_ _=>rfl,λb o f e=>.inl (E b o f e),λb f=>?_,λb o e=>?_⟩
 ·by_cases q:b=a
  ·haveI e:(if b=a then xV y else H b)=xV z:=e
   replace e:=(Np q)▸e;injection e with e;subst e;rw[q];exact v
  ·haveI e:(if b=a then xV y else H b)=xV z:=e
   replace e:=(Nl q)▸e;haveI l:=x.live b z e;induction z with
   |list vs=>obtain⟨xs,n,i,r,u⟩:=l;exact⟨xs,n,k b _ q i,r,u⟩
   |dict ks vs=>refine A3 l ?_;clear l;intro i r u;exact⟨i,r,u.at (λo e=>k b o q e) λ_ _ e=>e⟩
   |inst c fs=>obtain⟨o,i,r,u,D,m,F,G⟩:=l;haveI nd:=(h b c fs e).2;refine⟨o,k b _ q i,r,u,D,m,F.at (λI A=>k _ _ nd A),G⟩
 ·refine ND (aW.set t f) (λq=>?_) (λq=>?_)
  ·rw[q];exact x.fy a g
  ·exact x.fy b q
 ·refine ND (aW.set t f) (λq=>?_) (λq=>?_)
  ·rw[q];exact x.dZ a g
  ·exact x.dZ b q
 ·refine A2 (d b c fs e) λq e=>?_
  exact(Nl (h b c fs e).2).trans (x.apart b c fs e)
 ·exact x.inj b c fs C B p (d b c fs e).2 (d C B p A).2 q
 ·rcases f with f|f
  ·refine ND (aW.set t f) (λq=>?_) (λq=>?_)
   ·rw[q];exact .inl (.inl g)
   ·exact .inl (.inl q)
  ·exact .inl (.inr f)
 ·by_cases q:b=a
  ·have:∃o,h'.get? a=xV o:=by
    clear d;induction y with
    |list vs=>obtain⟨_,_,i,_⟩:=v;exact⟨_,i⟩
    |dict ks vs=>exact v.2.2.there
    |inst c fs=>exact t.elim
   rw[q];exact this
  ·exact⟨o,k b o q e⟩
end
section
variable {P:bx}{K:PS}{mg mb:NX->Nt Nz}{n:Nu}{pe:NO}{nms:Ni NX}{A:Oj}{ρ:Env}{W W₁:Wd}{H H₁:ae}{s s₁:NJ}{Q:av}{X:Prop}
def aB.of_get:∀{vs}{xs},xs.length=vs.length->(∀(i:Nu)(v:V),vs[i]?=xV v->∃x,xs[i]?=xV x/\VR w cA fz v x)->aB w cA fz vs xs:=by
 intro c;induction c with
 |nil=>
  intro a;induction a with
  |nil=>intro _ _;exact aB.nil
  |cons _ _=>intro h _;contradiction
 |cons v vs b=>
  intro a;induction a using Nw with
  |nil=>intro h _;contradiction
  |cons x xs=>
   intro h k;refine ah (k 0 v (by(rfl))) λy e r=>?_;injection e with e;rw[e]
   exact aB.cons r (b (by simpa using h) λi u d=>by simpa using k (i+1) u (d))
def yo(a:At P A n pe nms W H s ρ)(B:H c=xV (.list l))(J:VR P.w P.cA W.fz (.bytes b) x)(p:l.length+b.length<lim)(q:Q .none (H.set c (.list (l++b.map λ(c:Nu)=>V.int c)))):e8 P A W H s Q X "list.extend" (.ref c) [x]:=by
 obtain⟨xs,m,z,O,D⟩:=a.hr.live _ _ B;refine aO J.bR λarr t h k _=>?_;subst h;subst k;haveI f:=D.length;replace f:=(NW)▸f;simp only[lim,NR,NW] at p;refine call_meetsIn Sv ⟨_,z,rfl⟩ UH (Um _ _) (jO c xs m arr t (by rw[O0];exact cR [R2 V0 V2,R0 (S1 (zp V2 V1)) (zc 16000000)] (zp V0 V1) (zc 16777216) rfl f p)) ⟨a.cx.hd,z,λN tk g I hk E C M L=>?_⟩;haveI K:aB P.w P.cA W.fz (l++(arr.toList.map Om).map λ(c:Nu)=>V.int c) g.toList:=by
  refine aB.of_get (by rw[NW];rw[C];simp[f]) λi v j=>?_;rcases W6 i l.length with hi|hi
  ·rw[Ni.getElem?_append_left hi] at j
   refine ah (D.get j) λy e r=>?_;replace e:=(Ov)▸e;exact⟨y,by rw[Ov];rw[M i (cR [R3 V1 V2,R0 (S1 V0) V2] (S1 V0) V1 rfl f hi)];exact e,r⟩
  ·rw[Ni.getElem?_append_right hi,OB,OB,Ov,Nt.map_map,N2] at j
   refine ah j ?_;clear j;intro d hd h;subst h;refine X1 (L _ _ hd) λu e=>?_;refine⟨_,?_,VR.bV _ u⟩;rw[Ov];rw[show i=xs.size+(i - l.length) from by exact zE [_,_,_,_] [] [R3 V1 V3,R0 V0 (zp V2 V3),R2 V1 V3,R2 (zp V2 V3) V0] V0 (zp V1 V2) [1,1,1,0,0] [1,0,0,1,1] rfl rfl f (mV _ _) f (NT (cj [R0 V0 V1] V0 V1 rfl hi))];rw[e];rfl
 exact⟨W,_,Trans.G9 (y:=.list _) a.hr B trivial trivial (λb o G e=>hk b o G e) ⟨g,I,E,by rw[C];simp only[aL];exact cR [R2 V0 V2,R0 (S1 (zp V2 V1)) (zc 16000000)] (zp V0 V1) (zc 1073741824) rfl f p,K⟩,.none,VR.of_none,q⟩
noncomputable def EX:ip->NX
 |.append=> "append" |.extend=> "extend" |.pop=> "pop" |.join=> "join" |.split=> "split" |.index=> "index"
noncomputable def mT:ip->V->Ue
 |.append,_=> "list" |.extend,_=> "list" |.pop,_=> "list" |.join,.bytes _=> "bytes" |.join,_=> "str" |.split,_=> "str" |.index,_=> "str"
noncomputable def mId:ip->V->Ue
 |.append,_=> "list.append" |.extend,_=> "list.extend" |.pop,_=> "list.pop" |.join,.bytes _=> "bytes.join" |.join,_=> "str.join" |.split,_=> "str.split" |.index,_=> "str.index"
set_option tactic.hygienic true in
def yR(m:ip)(o):PlainAttrs (mT m o)/\Slot (mT m o) (EX m) (mId m o)/\WY (.builtin (mId m o))=pure (.type "method_descriptor"):=by
 induction m
 case append=>exact⟨SJ,Su,F.type_list_append⟩
 case extend=>exact⟨SJ,Sv,F.type_list_extend⟩
 case pop=>exact⟨SJ,VP,F.type_list_pop⟩
 case split=>exact⟨Te,Tc,F.type_str_split⟩
 case index=>exact⟨Te,F.slot_str_index,F.type_str_index⟩
 case join=>
  induction o using Mine.V.casesOn
  case bytes b=>exact⟨FB.plainAttrs_bytes,ib,nF⟩
  all_goals exact⟨Te,F.slot_str_join,F.type_str_join⟩
def abp{M:V->Prop}(h:isR v k=Nk)(K:∀a,k a=Nk->M (.ref a)):M v:=by induction v using Mine.V.casesOn<;>first|exact K _ h|exact Oh h
def J5{M:V->Prop}(h:isT v=Nk)(K:∀a,M (.str a)):M v:=by induction v using Mine.V.casesOn<;>first|exact K _|exact Oh h
def abn(h:yF o=Nk):∃l,o=xV (.list l):=by
 induction o with
 |none=>contradiction
 |some o=>
  induction o with
  |list l=>exact⟨l,rfl⟩
  | _=>contradiction
def sO(hr:HR P W H s.heap){o}{x}(h:js m o H=Nk)(d:VR P.w P.cA W.fz o x):s.TypeIs x (mT m o)/\∀a,x=.ref a->∃g,s.heap.get? a=xV g/\g.dict=Nm:=by
 have lst:isR o (λa=>yF (H a))=Nk->s.TypeIs x "list" /\ ∀b,x=.ref b->∃g,s.heap.get? b=xV g/\g.dict=Nm:=by intro h;refine abp (M:=λo=>VR P.w P.cA W.fz o x->_) h (λa h d=>VR.Kn d ?_) d;refine X1 (abn h) λvs e=>?_;obtain⟨xs,k,j,_,_⟩:=hr.live _ _ e;exact⟨⟨_,j,rfl⟩,λb z=>by injection z with z;subst z;exact⟨_,j,rfl⟩⟩
 have str:∀l,VR P.w P.cA W.fz (.str l) x->s.TypeIs x "str" /\ ∀a,x=.ref a->∃g,s.heap.get? a=xV g/\g.dict=Nm:=λl d=>VR.mS d λt _=>⟨U1 _ _ _,λb z=>(by contradiction)⟩;induction m with
 |append=>exact lst h
 |extend=>exact lst h
 |pop=>exact lst h
 |split=>exact J5 (M:=λo=>VR P.w P.cA W.fz o x->s.TypeIs x "str" /\ _) h str d
 |index=>exact J5 (M:=λo=>VR P.w P.cA W.fz o x->s.TypeIs x "str" /\ _) h str d
 |join=>
  induction o using Mine.V.casesOn with
  |str l=>exact str l d
  |bytes l=>exact VR.gH d λc t _ _=>⟨Oa _ _ _,λb z=>(by contradiction)⟩
  | _=>contradiction
def L6(a:At P A n pe nms W H s ρ)(f:H c=xV (.list l))(e:(ext v λl'=>if l.length+l'.length<lim then xV (.none,H.set c (.list (l++l'))) else Nm)=xV r)(g:VR P.w P.cA W.fz v y):Q r.1 r.2->e8 P A W H s Q X "list.extend" (.ref c) [y]:=by
 induction v using Mine.V.casesOn with
 |lst l'=>exact b9 e λd q=>BO a f g d q
 |bytes b=>exact b9 e λd q=>yo a f g (by rw[NR] at d;exact d) q
 | _=>exact gA e
def IG(a:At P A n pe nms W H s ρ)(f:bj v H=xV l)(e:J6 o l H=xV r)(g:VR P.w P.cA W.fz o x)(h:VR P.w P.cA W.fz v y):Q r.1 r.2->e8 P A W H s Q X (mId .join o) x [y]:=by
 induction o using Mine.V.casesOn with
 |str d=>exact oM (e:(bX l).bind _=_) λi b e=>b9 e λc q=>Ex a g h f b c q
 |bytes d=>exact oM (e:(dy l).bind _=_) λi b e=>b9 e λc q=>Et a g h f b c q
 | _=>exact gA e
def Fi{s}{M:Ni Nu->Prop}(h:LW s k=xV r)(K:∀c,k c=xV r->M [c]):M s:=
 match s,h with
 |[],h=>gA h
 |[c],h=>K c h
 | _::_::_,h=>gA h
def IH(a:At P A n pe nms W H s ρ){m:ip}{x:Nz}(e:cT m o vs H=xV r)(b:VR P.w P.cA W.fz o x)(d:aB P.w P.cA W.fz vs xs):Q r.1 r.2 ->
  e8 P A W H s Q X (mId m o) x xs:=by
 induction m with
 |append=>exact LG e b λc e=>jK e d λv y e h=>BX e λl f e=>b9 e λi q=>Bl a f i h q
 |extend=>exact LG e b λc e=>jK e d λv y e h=>BX e λl f e=>L6 a f e h
 |pop=>
  refine LG e b λc e=>BX e λl f e=>?_;induction vs using Nw with
  |nil=>exact aB.kO d (oM (e:l.getLast?.bind _=_) λv g e=>b9 e λi q=>IU a f g i q)
  |cons v vs=>exact gA e
 |join=>exact jK e d λv y e h=>oM (e:(bj v H).bind _=_) λl g e=>IG a g e b h
 |split=>exact rL e (λl e b=>jK e d λv y e h=>rL e (λcs e h=>Fi (M:=λcs=>VR P.w P.cA W.fz (.str cs) y->Q r.1 r.2->_) e (λc e h=>b9 e λz q=>by haveI j:=z.1;clear e;subst j;exact Gg a b h z.2 q) h) h) b
 |index=>exact rL e (λl e b=>jK e d λv y e h=>rL e (λcs e h=>Fi (M:=λcs=>VR P.w P.cA W.fz (.str cs) y->Q r.1 r.2->_) e (λc e h=>ky e λz e=>jr (e:(jm c l 0).map _=xV r) λk hk q=>Eh a b h z hk q) h) h) b
def rP{Q}(e:Xw f=pure .machine)(c:es.all aR=Nk)(h:bk P A (WV (Rl pos (PW es pe))) (λvs s'=>bk P A (Ot f (d::vs)) Q E s') E s):bk P A (Wk pos f [d] (Rl pos (PW es pe)) []) Q E s:=by refine SG (P:=λ_=>Sl) (by rw[hG c];rfl) (λh _=>⟨.machine,.inr (.inl rfl),RP e⟩) (b6 c (N4 h (λvs s' z=>⟨trivial,z⟩) λ_ _ z=>z))
def me:∀{es},es.all aR=Nk->(Rl pos (PW es pe)).all (λx=>!x.1)=Nk:=by
 intro b;induction b with
 |nil=>intro _;exact rfl
 |cons e es a=>intro h;rw[Vh,Od] at h;rw[cg h.1];refine(?_:(Nk&&(Rl pos (PW es pe)).all (λx=>!x.1))=Nk);rw[a h.2];rfl
def F0(B:nm=EX m)(u:eQ o=Nk)(d:(apos.endLine==pos.line)=Nk)(p:es.all aR=Nk)(f:es.length<29)(h:SE P n pe nms o c)(i:Bi P n pe nms es cs):
  SE P n pe nms (.Call (.Attribute o nm apos) es [] pos) (.aH m c cs):=by
 intro A ρ W H s Q X a q;refine B▸?_;refine wpAny_Call_method_late (gE u) ?_ d rfl ?_
 ·rw[me p];exact NP (Q7 f)
 refine cf (h A ρ W H s _ X a q) λW₁ H₁ s₁ x t j=>Mine.a9 j λv k hm q=>?_;haveI g:=a.step t;refine A3 (yR m v) λC y w=>?_;haveI z:=(sO g.hr hm k).1;haveI D:=(sO g.hr hm k).2;refine⟨_,_,C,y,w,z,D,?_⟩;refine rP rfl p (dP t (i A ρ W₁ H₁ s₁ _ X g q pos) λW₂ H₂ s₂ ys b j=>Mine.a9 j λvs l _ q=>qT (t.trans b) ?_);refine ah (aM q) λr e q=>?_;exact IH (g.step b) e (k.mono b.mono) l q
end
section
variable {s:NJ}
def vH(j:A.frames=xV (g::r))(b:g.frame=xV L)(x:pG P (g::r) s.heap e)(h:∀f,pG P (g::r) f e->(∃a d,e=.ref a/\UX P.B (g::r) a (.ref P.qR) d L f)->s.heap.UpToSlots f->Q () { s with heap:=f }):ON M A (WM e g) Q E s:=by
 obtain⟨a,d,rfl,x⟩|⟨a,d,rfl,u,D,n,k,c,x⟩|⟨a,d,rfl,y,o,z,F,vs,q,v,l,m,C⟩:=x
 ·exact wpAny_looks_onW j b x λf i w=>h f (.held a d rfl g r L rfl b i) ⟨a,d,rfl,i⟩ w
 ·injection k with k;subst k
  haveI:n=L:=by replace c:=(b)▸c;injection c with c;subst c;rfl
  subst this;exact Tz b x.2.2.2 (h s.heap (.held a d rfl g r n rfl b x) ⟨a,d,rfl,x⟩ (Heap.UpToSlots.refl _))
 ·unfold WM
  simp only[b];refine Nq (SK q l m ?_);refine wpAny_entryW j z b q y o l (Qc.mp m).1 C λf p=>?_;refine A4 p ?_;clear p;intro k1 k2 k3 t;haveI i:UX P.B (g::r) a (.ref P.qR) d L f:=⟨k1,o,k2,by rw[v] at k3;exact k3⟩;exact h f (.held a d rfl g r L rfl b i) ⟨a,d,rfl,i⟩ t
def BN(g:A.frames=xV (o::r))(d:o.frame=xV L)(x:pG P (o::r) s.heap e)(h:∀c,pG P r c e->s.heap.UpToSlots c->Q () { s with heap:=c }):ON M A (leaving o e) Q E s:=by
 obtain⟨a,k,rfl,x⟩|⟨a,k,rfl,q,F,w,m,b,x⟩|⟨a,k,rfl,z,p,C,G,vs,B,y,u,v,D⟩:=x
 ·exact wpAny_leaves_onW g d x λc t n=>h c (.fly a k rfl t) n
 ·injection m with m;subst m
  haveI:w=L:=by replace b:=(d)▸b;injection b with b;subst b;rfl
  subst this;refine Nq (Tz d x.2.2.2 ?_);refine W7 x λc f n=>?_;refine A4 f ?_;clear f;intro k1 k2 j l;refine A3 j ?_;clear j;intro _ _ k3;exact h c (.fly a k rfl ⟨k1,k2,k3,l⟩) n
 ·refine wpAny_leaving_firstW g C d B z p u v D λc hL=>?_
  refine A4 hL ?_;clear hL;intro k1 i k3 l;refine A3 i ?_;clear i;intro _ _ k2;exact h c (.fly a k rfl ⟨k1,p,k2,by rw[y] at k3;exact k3⟩) l
def DP(p:u.frame=xV L)(x:UX P.B (u::r) a (.ref P.qR) a0 L s.heap)(h:∀v,pG P (u::r) v (.ref a)->s.heap.UpToSlots v->E (.ref a) { s with heap:=v }):cameBackBy M A u E (.ref a) s:=by
 refine A4 x ?_;clear x;intro F C z y;obtain⟨H,vs,T,I,ts,he,m,hd,t,n,k,w,g,G⟩:=y;haveI i:=(Qc.mp G).1;refine Nq (SK he hd t ?_);rw[p];have d:∀b,b≠T->(s.heap.update T (VW.mapFields (·.setIfInBounds 3 ((xV L:Nt OO).elim Tu λf=>rawInt f)))).get? b=s.heap.get? b:=
  λb e=>Rq _ _ (OG e)
 haveI c:∀b o,s.heap.get? b=xV o->(∀vs,o.data≠.fields vs)->b≠T:=λb o e j q=>by rw[q,w] at e;replace e:=N1 e;subst e;exact j ts g
 first
  |refine Nq (SK he hd t ?_)
  |(refine Nq (NC ?_);refine Nq (SK he hd t ?_))
 refine wpAny_setField w g i (h _ (.held a a0 rfl u r L rfl p ⟨λb o l=>(d b λq=>by rw[q,n] at l;contradiction).trans (F b o l),C,?_,?_⟩) λb o e D=>⟨o.slots,(d b (c b o e D)).trans e⟩)
 ·exact z.of_keeps λb o e j=>⟨o,(d b (c b o e j)).trans e,rfl⟩
 ·exact⟨H,vs,T,_,_,(d a (OG k)).trans he,m,hd,t,n,k,Pa _ w (VW.isFreed_of_fields (U4 g _)),U4 g _,by simp[i]⟩
end
section
variable {P:bx}{K:PS}{mg mb:NX->Nt Nz}{n:Nu}{pe:NO}{nms:Ni NX}{A:Oj}{ρ:Env}{W W₀:Wd}{H H₀:ae}{s s₀:NJ}{X:Prop}
def K7(pe:NO)(b:OO):Prop:=b=pe.locals\/∃x,pe.cells.lookup x=xV b
structure TF(P:bx)(pe:NO)(W:Wd)(H:ae)(s:NJ)(W':Wd)(H':ae)(s':NJ):Prop where
 hr:HR P W' H' s'.heap
 os:s'.os=s.os
 gens:s'.gens=s.gens
 mono:∀a o,W.fz a=xV o->W'.fz a=xV o
 dx:∀a,(∃o,s.heap.get? a=xV o)->W'.dx a=W.dx a
 keep:∀b o,¬ K7 pe b->¬ aW W H b->s.heap.get? b=xV o->fw o (s'.heap.get? b)
 own:∀b,f6 W' H' b->f6 W H b\/s.heap.get? b=Nm
 big:∀b o,s.heap.get? b=xV o->∃o',s'.heap.get? b=xV o'
def TF.of(T:Trans P W H s W' H' s'):TF P pe W H s W' H' s':=⟨T.hr,T.os,T.gens,T.mono,T.dx,λb o _=>T.keep b o,T.own,T.big⟩
def TF.refl(h:HR P W H s.heap):TF P pe W H s W H s:=.of (Trans.refl h)
section
variable {W₁ W₂ W₃:Wd}{H₁ H₂ H₃:ae}{s₁ s₂ s₃:NJ}
def TF.gY(x:TF P pe W₁ H₁ s₁ W₂ H₂ s₂)(d:¬ aW W₁ H₁ b)(e:s₁.heap.get? b=xV o):¬ aW W₂ H₂ b:=by
 intro c;rcases x.own b (.inl c) with(q|⟨f,q⟩)|q
 ·exact d q
 ·have:=x.hr.dZ b c
  replace this:=(x.mono _ _ q)▸this;exact nomatch this
 ·replace q:=(e)▸q;exact nomatch q
def TF.fV(x:TF P pe W₁ H₁ s₁ W₂ H₂ s₂)(a:¬ f6 W₁ H₁ b)(e:s₁.heap.get? b=xV o):¬ f6 W₂ H₂ b:=by
 intro c;refine ND (x.own b c) (λq=>?_) (λq=>?_)
 ·exact a q
 ·replace q:=(e)▸q;contradiction
def TF.trans(x:TF P pe W₁ H₁ s₁ W₂ H₂ s₂)(y:TF P pe W₂ H₂ s₂ W₃ H₃ s₃):TF P pe W₁ H₁ s₁ W₃ H₃ s₃:=by
 refine⟨y.hr,y.os.trans x.os,y.gens.trans x.gens,λa o e=>y.mono _ _ (x.mono _ _ e),λa h=>Mine.X1 h λo e=>?_,λb o g d e=>?_,λb d=>?_,λb o e=>?_⟩
 ·rw[y.dx a (x.big a o e)];rw[x.dx a ⟨o,e⟩];rfl
 ·exact(x.keep b o g d e).trans λc q=>y.keep b c g (x.gY d e) q
 ·refine ND (y.own b d) (λq=>?_) (λq=>?_)
  ·exact x.own b q
  ·refine .inr ?_
   induction e:s₁.heap.get? b with
   |none=>rfl
   |some o=>refine X1 (x.big b o e) λc f=>?_;replace q:=(f)▸q;contradiction
 ·refine X1 (x.big b o e) λc f=>?_;exact y.big b c f
end
def TF.store(x:HR P W H s.heap)(m:K7 pe D)(l:P.B.get? D=Nm)(h:¬ f6 W H D)(i:Po D s.heap h')(there:∃o,h'.get? D=xV o):TF P pe W H s W H { s with heap:=h',toks:=t }:=by
 haveI d:W.fz D=Nm:=by
  induction e:W.fz D with
  |none=>rfl
  |some o=>exact NK (.inr ⟨o,e⟩) h
 have k:=i.2;haveI j:∀b o,aW W H b->s.heap.get? b=xV o->h'.get? b=xV o:=λb o g e=>(k b λq=>h (.inl (q▸g))).trans e;refine⟨⟨x.b0,λb c e=>(k b λq=>by rw[q,l] at e;exact nomatch e).trans (x.base b c e),λa c e=>(k a λq=>by rw[q,d] at e;exact nomatch e).trans (x.fz _ _ e),λa y e=>(x.live a y e).move e j (λ_ _ e=>e) rfl,x.fy,x.dZ,x.apart,x.inj⟩,rfl,rfl,λ_ _ e=>e,λ_ _=>rfl,
  λb c f g e=>?_,λ_ q=>.inl q,λb c e=>?_⟩
 ·rw[k b λq=>f (q▸m)];rw[e];exact fw.refl c
 ·by_cases q:b=D
  ·rw[q];exact there
  ·exact⟨c,(k b q).trans e⟩
def Cx.store(x:Cx P A n W H s.heap)(a:Po D s.heap h')(hd:∃o,h'.get? D=xV o/\∀vs,o.data≠.fields vs)(g:∀l,A.frames=xV l->∀e∈l,e.frame=xV D->GK h' D/\NoC h' D):Cx P A n W H h':=by
 refine a9 x.frames λl f h j=>?_;refine⟨x.hd,x.depth,x.units,⟨l,f,?_,j⟩,λl' c e he L hL=>?_⟩
 rotate_left
 ·by_cases q:L=D
  ·clear a hd;subst q;exact g l' c e he hL
  ·refine A2 (x.lP l' c e he L hL) λt y=>?_
   exact⟨λo e=>t o (by refine bB (NU (a.2 L q)) ?_;exact e),λo u e=>y o u (by refine bB (NU (a.2 L q)) ?_;exact e)⟩
 clear f j;induction l with
 |nil=>trivial
 |cons e r z=>
  refine A3 h ?_;clear h;intro hk b hr;refine e9 b ?_;clear b;intro L o k i v d;refine⟨hk,?_,z hr⟩;by_cases q:L=D
  ·clear a g;subst q;refine ah hd ?_;clear hd;intro m w p;exact⟨L,m,k,i,w,p⟩
  ·exact⟨L,o,k,i,(a.2 L q).trans v,d⟩
def FR.store(F:FR P pe nms W H s.heap ρ)(f:nms[i]?=xV x)(hk:pe.kindOf x=xV .local)(o:VR P.w P.cA W.fz v y)(k:∀m,s.heap.Ns pe.locals m->h'.Ns pe.locals (λz=>if z=x then xV y else m z))(g:Po pe.locals s.heap h'):FR P pe nms W H h' (ρ.set i (xV v)):=by
 refine ah F.ns λm n t=>?_;have one:∀j z,nms[j]?=xV z->z=x->j=i:=by intro j z e q;clear hk k;subst q;exact(SM (Ou.mp e).1 F.nodup).mp (e.trans f.symm)
 refine⟨F.kind,F.yv,F.blt,⟨_,k m n,λj z e b=>?_⟩,λj z e b=>?_,F.wF,λz a e=>?_,F.vi,F.nodup⟩
 ·by_cases q:z=x
  ·have:=one j z e q
   rw[this];rw[Np q];rw[Rr];rw[Np rfl];split
   ·exact⟨y,rfl,o⟩
   ·trivial
  ·rw[Nl q];rw[PM (λc=>q (by subst c;replace e:=(f)▸e;injection e with e;clear q;subst e;rfl))]
   exact t j z e b
 ·have q:z≠x:=λq=>by cases q;replace b:=(hk)▸b;rcases b with b|b<;>contradiction
  refine aO (F.cell j z e b) λa u l r p=>?_;rw[PM (λc=>q (by subst c;replace e:=(f)▸e;injection e with e;clear b q;subst e;rfl))];exact⟨a,u,l,r.sameBut g (F.jF z a l).2.1,p⟩
 ·refine(F.jF z a e).elim λB d=>d.elim λh d=>d.elim λu A=>?_
  exact⟨B,h,u,A.sameBut g h⟩
def FR.MW(F:FR P pe nms W H s.heap ρ)(l:nms[i]?=xV x)(hk:pe.kindOf x=xV .cell)(d:pe.cells.lookup x=xV c)(A:VR P.w P.cA W.fz v y)(o:h'.IsCell c (xV y))(h:Po c s.heap h'):FR P pe nms W H h' (ρ.set i (xV v)):=by
 refine ah F.ns λm t D=>?_;haveI one:∀j z,nms[j]?=xV z->z=x->j=i:=by intro j z e q;clear hk d;subst q;exact(SM (Ou.mp e).1 F.nodup).mp (e.trans l.symm)
 have g:=(F.jF x c d).2.1;refine⟨F.kind,F.yv,F.blt,⟨m,t.sameBut h (OG g),λj z e f=>?_⟩,λj z e f=>?_,F.wF,λz a e=>?_,F.vi,F.nodup⟩
 ·have q:z≠x:=λq=>by clear d one;subst q;replace f:=(hk)▸f;contradiction
  rw[PM (λc=>q (by subst c;replace e:=(l)▸e;injection e with e;clear q;subst e;rfl))];exact D j z e f
 ·by_cases q:z=x
  ·haveI:=one j z e q
   refine this▸?_;rw[q];rw[Rr];rw[Np rfl];refine⟨c,xV y,d,o,?_⟩;split
   ·exact⟨y,rfl,A⟩
   ·trivial
  ·refine aO (F.cell j z e f) λa u p C B=>?_
   rw[PM (λc=>q (by subst c;replace e:=(l)▸e;injection e with e;clear f;subst e;rfl))];exact⟨a,u,p,C.sameBut h λb=>q (F.vi z x c (b▸p) d),B⟩
 ·refine(F.jF z a e).elim λr k=>k.elim λn k=>k.elim λu E=>?_
  by_cases q:a=c
  ·clear d h g;subst q;exact⟨r,n,_,o⟩
  ·exact⟨r,n,u,E.sameBut h q⟩
structure M6(P:bx)(A:Oj)(pe:NO):Prop where
 loc:P.B.get? pe.locals=Nm
 cel:∀x a,pe.cells.lookup x=xV a->P.B.get? a=Nm
 frs:∃r,A.frames=xV (pe::r)
 fra:pe.frame=xV pe.locals
def gv(B:M6 P A pe)(a:At P A n pe nms W H s ρ)(F:nms[i]?=xV x)(hk:pe.kindOf x=xV .local\/pe.kindOf x=xV .cell)(J:VR P.w P.cA W.fz v y)(h:∀s',TF P pe W H s W H s'->At P A n pe nms W H s' (ρ.set i (xV v))->Q () s'):bk P A' (Uz pe x y) Q E s:=by
 refine ND (hk) (λhk=>?_) (λhk=>?_)
 ·refine ah a.fr.ns λm b C=>?_
  haveI Z:(pe.scope.kind==.class||(pe.scope.kind==.module&&pe.locals !=pe.globals))=Nr:=by rw[a.fr.kind];rfl
  refine dH hk b (λo e=>by refine X1 B.frs ?_;intro r hr;exact(a.cx.lP _ hr pe (.head _) _ B.fra).1 o e) (λD G I d=>?_) Z;refine jc (id G) λo es ep p hd _=>?_;haveI j:TF P pe W H s W H { s with heap:=D,toks:=s.toks+1 }:=TF.store a.hr (.inl rfl) B.loc a.fr.wF d ⟨o,p⟩;refine h _ j ⟨j.hr,a.cx.store d ⟨o,p,λvs q=>by replace q:=(hd)▸q;cases q⟩ (λ_ _ _ _ _=>⟨I,.ns G⟩),a.fr.store F hk J (λm' k=>?_) d⟩;haveI:m'=m:=by
   refine bO k ?_;clear k;intro o1 V U Y T _ N;refine bO b ?_;clear b;intro o2 O L f g _ X;replace f:=(Y)▸f;injection f with f;subst f
   replace g:=(T)▸g;injection g with g;subst g
   funext z;rewrite [<- N];rewrite [<- X];rfl
  rw[this];exact G
 ·refine aO (a.fr.cell i x F (.inl hk)) λc u b C h3=>?_
  refine Uc a.fr.kind hk b C λD K d=>?_;refine ah (id K) λo p hd=>?_;haveI j:=TF.store (t:=s.toks) a.hr (.inr ⟨x,b⟩) (B.cel x c b) (a.fr.jF x c b).1 d ⟨o,p⟩;exact h _ j ⟨j.hr,a.cx.store d ⟨o,p,λvs q=>by replace q:=(hd)▸q;cases q⟩ (λl M e he hL=>by refine ah C ?_;clear C;intro o2 f g;exact NK g ((a.cx.lP l M e he _ hL).2 o2 _ f)),a.fr.MW F hk b J K d⟩
def SFl(P:bx)(A:Oj)(n:Nu)(pe:NO)(nms:Ni NX)(N:Env->ae->Prop)(R:av)(K:Env->ae->Prop):XR->Wd->ae->NJ->Prop:=λf W H s=>match f with
 |.next=>∃ρ,At P A n pe nms W H s ρ/\N ρ H
 |.ret y=>∃v,VR P.w P.cA W.fz v y/\R v H
 |.cont=>∃ρ,At P A n pe nms W H s ρ/\K ρ H
 |.brk=>OH
def M7(P:bx)(pe:NO)(W:Wd)(H:ae)(s:NJ)(S:β->Wd->ae->NJ->Prop):β->NJ->Prop:=λy s'=>∃W' H',TF P pe W H s W' H' s'/\S y W' H' s'
def fO(P:bx)(A:Oj)(pe:NO)(W:Wd)(H:ae)(s:NJ)(X:Prop):Nz->NJ->Prop:=
 λe s'=>X/\s'.os=s.os/\s'.gens=s.gens/\(∃l,A.frames=xV l/\pG P l s'.heap e) /\
  ∀b o,¬ K7 pe b->¬ aW W H b->s.heap.get? b=xV o->(∀vs,o.data≠.fields vs)->∃sl,s'.heap.get? b=xV { o with slots:=sl }
def fO.of(x:cy P A W H s X e s'):fO P A pe W H s X e s':=⟨x.1,x.2.1,x.2.2.1,x.2.2.2.1,λb o _=>x.2.2.2.2 b o⟩
section
variable {W':Wd}{H':ae}{s' s'':NJ}
def M7.up(x:TF P pe W H s W' H' s')(h:M7 P pe W' H' s' S y s''):M7 P pe W H s S y s'':=by refine bo h ?_;clear h;intro W₂ H₂ t r;exact⟨W₂,H₂,x.trans t,r⟩
def fO.up(x:TF P pe W H s W' H' s')(h:fO P A pe W' H' s' X e s''):fO P A pe W H s X e s'':=by
 refine A5 h ?_;clear h;intro n p r l j;refine⟨n,p.trans x.os,r.trans x.gens,l,λb o g c e i=>?_⟩;refine ND (x.keep b o g c e) (λf=>?_) (λa=>?_)
 ·haveI q:=f
  exact j b o g (x.gY c e) q i
 ·refine a.elim λ_ m=>m.elim λt q=>?_;clear a
  refine X1 (j b _ g (x.gY c e) q i) λd k=>?_;exact⟨d,k⟩
end
def SB(P:bx)(n:Nu)(pe:NO)(nms:Ni NX)(run:XQ XR)(c:aq):Prop:=
 ∀A ρ W H s (N:Env->ae->Prop) (R:av) (K:Env->ae->Prop) (X:Prop),M6 P A pe->At P A n pe nms W H s ρ->eW (call n) c ρ H N R K X ->
  bk P A run (M7 P pe W H s (SFl P A n pe nms N R K)) (fO P A pe W H s X) s
abbrev SS(P:bx)(n:Nu)(pe:NO)(nms:Ni NX)(st:QS)(c:aq):Prop:=SB P n pe nms (exec st pe) c
abbrev xw(P:bx)(n:Nu)(pe:NO)(nms:Ni NX)(st:Ni QS)(c:aq):Prop:=SB P n pe nms (execs st pe) c
def ML:xw P n pe nms [] .skip:=by intro A ρ W H s N R K X b a q;exact PU ⟨W,H,TF.refl a.hr,ρ,a,q⟩
def upF(x:TF P pe W H s W' H' s')(h:bk P A t (M7 P pe W' H' s' S) (fO P A pe W' H' s' X) s'):
  bk P A t (M7 P pe W H s S) (fO P A pe W H s X) s':=N4 h (λ_ _ q=>q.up x) λ_ _ q=>q.up x
def Jp{st}(h:SS P n pe nms st c)(k:xw P n pe nms rest cs):xw P n pe nms (st::rest) (.seq c cs):=by
 intro A ρ W H s N R K X e a q;refine P8 (N4 (h A ρ W H s _ _ _ _ e a q) (λf s' g=>Mine.bo g λW' H' b z=>?_) λ_ _ z=>z);clear g;induction f with
 |next=>refine ah z ?_;clear z;intro d j i;exact upF b (k A d W' H' s' N R K X e j i)
 |brk=>exact z.elim
 |cont=>exact⟨W',H',b,z⟩
 |ret v=>exact⟨W',H',b,z⟩
def MM{st}(h:SS P n pe nms st c):xw P n pe nms [st] c:=by
 intro A ρ W H s N R K X e a q;refine P8 (N4 (h A ρ W H s _ _ _ _ e a q) (λf s' d=>Mine.bo d λW' H' b z=>?_) λ_ _ z=>z);clear d;induction f with
 |next=>exact PU ⟨W',H',b,z⟩
 |brk=>exact z.elim
 |cont=>exact⟨W',H',b,z⟩
 |ret v=>exact⟨W',H',b,z⟩
def GL(h:SE P n pe nms e c)(T:TF P pe W₀ H₀ s₀ W H s)(a:At P A n pe nms W H s ρ)(q:cL (call n) c ρ H Q X)(k:∀W' H' s' y,TF P pe W₀ H₀ s₀ W' H' s'->At P A n pe nms W' H' s' ρ->(Trans P W H s W' H' s')->(∃v,VR P.w P.cA W'.fz v y/\Q v H')->Kk y s'):bk P A (eval e pe) Kk (fO P A pe W₀ H₀ s₀ X) s:=
 N4 (h A ρ W H s Q X a q) (λy s' b=>Mine.bo b λW' H' t z=>k W' H' s' y (T.trans (.of t)) (a.step t) t z) λ_ _ z=>(fO.of z).up T
def inT(h:lq P n pe nms e c)(T:TF P pe W₀ H₀ s₀ W H s)(a:At P A n pe nms W H s ρ)(q:rY (call n) c ρ H Q X)(k:∀W' H' s' b,TF P pe W₀ H₀ s₀ W' H' s'->At P A n pe nms W' H' s' ρ->Q b H'->Kk b s'):bk P A (isTrue e pe (eval e pe)) Kk (fO P A pe W₀ H₀ s₀ X) s:=
 N4 (h A ρ W H s Q X a q) (λy s' d=>Mine.bo d λW' H' t z=>k W' H' s' y (T.trans (.of t)) (a.step t) z) λ_ _ z=>(fO.of z).up T
noncomputable def cJ(e:Expr):NF:=Nu.ble e.ctorIdx 7||Nat.ble 11 e.ctorIdx
def gw(h:cJ e=Nk):swapsWith e t l pe=pure Nr:=by induction e using NZ<;>first|rfl|exact Oh h
def MI(m:nms[i]?=xV x)(hk:pe.kindOf x=xV .local\/pe.kindOf x=xV .cell)(o:cJ e=Nk)(h:SE P n pe nms e c):SS P n pe nms (.Assign [.Name x pos'] e pos) (.asg i c):=by intro A ρ W H s N R K X g a q;refine SN (GL h (TF.refl a.hr) a q λW' H' s' y f p _ k=>Mine.ah k λv l j=>?_) (gw o);exact gv g p m hk l λs'' b d=>⟨W',H',f.trans b,_,d,j⟩
def MN(h:SE P n pe nms e c):SS P n pe nms (.Return (xV e) pos) (.ret c):=by intro A ρ W H s N R K X j a q;exact wpAny_Return_some (GL h (TF.refl a.hr) a q λW' H' s' y d k _ g=>Mine.ah g λv i f=>⟨W',H',d,v,i,f⟩)
def Jt:SS P n pe nms (.Return Nm pos) (.ret .absent):=by intro A ρ W H s N R K X b a q;exact wpAny_Return_none ⟨W,H,TF.refl a.hr,.none,VR.of_none,q⟩
def MK(h:lq P n pe nms e c)(j:xw P n pe nms b x)(k:xw P n pe nms o y):SS P n pe nms (.If e b o pos) (.ite c x y):=by
 intro A ρ W H s N R K X f a q;refine wpAny_If (inT h (TF.refl a.hr) a q λW' H' s' b d i g=>?_);induction b with
 |true=>exact upF d (j A ρ W' H' s' N R K X f i g)
 |false=>exact upF d (k A ρ W' H' s' N R K X f i g)
def El(a:At P A n pe nms W H s ρ):SO pe=Nr:=by unfold SO;rw[a.fr.kind];rfl
def MJ(g:cJ e=Nk)(h:SE P n pe nms e c):SS P n pe nms (.Expr e pos) (.exp c):=by intro A ρ W H s N R K X j a q;refine wpAny_Expr_any (GL h (TF.refl a.hr) a q λW' H' s' y b i _ f=>Mine.ah f λv k d=>?_) (El a) (gw g);exact⟨W',H',b,ρ,i,d⟩
def Jq:SS P n pe nms (.Continue pos) .cont:=by intro A ρ W H s N R K X b a q;exact(λ_ _ _=>⟨W,H,TF.refl a.hr,ρ,a,q⟩)
end
noncomputable def GZ:Ni jx:=[.data,.at,.stop,.top,.places,.text,.octets,.isHex,.number,.generation,.mark,.items,.base,.shelf,.table,.trailer]
def ov:Ni NX:= "" :: GZ.map az
def j3(f):az f∈ov:=NB _ (mem_map.mpr ⟨f,by induction f<;>(decide),rfl⟩)
def lT(f)(v):∀fs g,ji g (eT f v fs)=if g=f then xV v else ji g fs:=by
 intro b;induction b with
 |nil=>intro g;dsimp only[eT,ji]
 |cons d r a=>
  obtain⟨h,u⟩:=d;intro g;simp only[Jx,Jy];by_cases q:f=h
  ·subst q
   rw[Np rfl];simp only[iX,iY];by_cases z:g=f<;>simp[z]
  ·rw[Nl q]
   simp only[iX,iY];rw[a g];by_cases z:g=h
   ·subst z;rw[Np rfl];rw[Np rfl];rw[Nl (λc=>q c.symm)];rfl
   ·rw[Nl z];rw[Nl z];rfl
section
variable {P:bx}{K:PS}{mg mb:NX->Nt Nz}{n:Nu}{pe:NO}{nms:Ni NX}{A:Oj}{ρ:Env}{W W₀:Wd}{H H₀:ae}{s s₀:NJ}{X:Prop}
def Trans.field(x:HR P W H s.heap)(C:H a=xV (.inst c fs))(hm:s.heap.Ns1 (W.dx a) m)(L:h'.Ns1 (W.dx a) (λz=>if z=az f then xV y else m z))(N:Po (W.dx a) s.heap h')(hv:VR P.w P.cA W.fz v y):
  Trans P W H s W (H.set a (.inst c (eT f v fs))) { s with heap:=h',toks:=tk }:=by
 have r:aW W H (W.dx a):=.inr ⟨a,c,fs,C,rfl⟩;have E:=x.apart a c fs C;have K:a≠W.dx a:=λq=>by rw[<- q,C] at E;contradiction
 have k:=N.2;have l:∀b,aW W (H.set a (.inst c (eT f v fs))) b↔aW W H b:=by
  intro b;constructor
  ·rintro(⟨z,e⟩|⟨d,i,h,e,q⟩)
   ·by_cases q:b=a
    ·rw[q];exact .inl ⟨_,C⟩
    ·exact .inl ⟨z,by rewrite [<- Nl (e:=H b) q];exact e⟩
   ·by_cases D:d=a
    ·refine bB (NU q) ?_;rw[D];exact r
    ·exact .inr ⟨d,i,h,by rewrite [<- Nl (e:=H d) D];exact e,q⟩
  ·rintro(⟨z,e⟩|⟨d,i,h,e,q⟩)
   ·by_cases q:b=a
    ·exact .inl ⟨_,Np q⟩
    ·exact .inl ⟨z,(Nl q).trans e⟩
   ·by_cases D:d=a
    ·exact .inr ⟨a,c,_,Np rfl,by refine bB (NU D) ?_;rw[q];rfl⟩
    ·exact .inr ⟨d,i,h,(Nl D).trans e,q⟩
 have inst:∀b n h,(H.set a (.inst c (eT f v fs))) b=xV (.inst n h)->∃j,H b=xV (.inst n j):=by
  intro b n h e;haveI e:(if b=a then xV (dQ.inst c (eT f v fs)) else H b)=xV (.inst n h):=e;by_cases q:b=a
  ·replace e:=(Np q)▸e;injection e with e;injection e with e;subst e;rw[q];exact⟨_,C⟩
  ·rw[Nl q] at e;exact⟨_,e⟩
 refine⟨⟨x.b0,λb o e=>(k b λq=>by rw[q,x.fy _ r] at e;exact nomatch e).trans (x.base b o e),λb o e=>(k b λq=>by rw[q,x.dZ _ r] at e;exact nomatch e).trans (x.fz b o e),λb z e=>?_,λb p=>x.fy b ((l b).mp p),λb p=>x.dZ b ((l b).mp p),
  λb n h e=>?_,λb n h Q I j e F q=>?_⟩,rfl,rfl,λ_ _ e=>e,λ_ _=>rfl,λb o p e=>.inl ((k b λq=>p (q▸r)).trans e),λb p=>?_,λb o e=>?_⟩
 ·by_cases q:b=a
  ·clear N r E l;subst q
   haveI e:(if b=b then xV (dQ.inst c (eT f v fs)) else H b)=xV z:=e;replace e:=(Np rfl)▸e;injection e with e;subst e
   obtain⟨o,X,h2,h3,V,m',Z,Y,h7⟩:=x.live b _ C;haveI:m'=m:=by
    refine Mine.gC Z λo1 es1 ep1 i B=>?_;refine Mine.A4 B λA _ _ e3=>?_;refine Mine.bO hm λo2 es2 U G J _ B=>?_;refine Mine.A2 B λ_ g3=>?_;replace G:=(i)▸G;injection G with G;subst G
    replace J:=(A)▸J;injection J with J;clear B;subst J
    funext z;rewrite [<- e3];rewrite [<- g3];rfl
   clear hm;subst this;refine⟨o,(k b K).trans X,h2,h3,V,_,L,λg u e=>?_,λz O=>?_⟩
   ·rw[lT] at e
    by_cases q:g=f
    ·replace e:=(Np q)▸e;injection e with e;subst e;cases q;exact⟨y,Np rfl,hv⟩
    ·rw[Nl q] at e
     refine ah (Y g u e) λu' i A=>?_;exact⟨u',(Nl λc=>q (vJ c)).trans i,A⟩
   ·by_cases q:z=az f
    ·exact⟨f,v,q,by rw[lT];rw[Np rfl];rfl⟩
    ·simp only[Nl q] at O
     refine bo (h7 z O) λg u i A=>?_;refine⟨g,u,i,?_⟩;rw[lT];rw[Nl λc=>q (by rw[i];rw[c];rfl)];exact A
  ·haveI e:(if b=a then xV (dQ.inst c (eT f v fs)) else H b)=xV z:=e
   rw[Nl q] at e;refine(x.live b z e).move (H:=H.erase a) ((Nl q).trans e:(H.erase a) b=xV z) (λd o hd F=>(k d λD=>?_).trans F) (λ_ _ e=>e) rfl;clear F;subst D;rcases hd with⟨z',i⟩|⟨d,n,h,i,A⟩
   ·haveI i:(if W.dx a=a then Nm else H (W.dx a))=xV z':=i
    rw[Nl (OG K),E] at i;contradiction
   ·haveI i:(if d=a then Nm else H d)=xV (.inst n h):=i
    by_cases M:d=a
    ·replace i:=(Np M)▸i;contradiction
    ·rw[Nl M] at i;exact M (x.inj d n h a c fs i C A)
 ·refine X1 (inst b n h e) λj F=>?_
  have:=x.apart b n j F;refine(?_:(if W.dx b=a then xV (dQ.inst c (eT f v fs)) else H (W.dx b))=Nm);rw[Nl λq=>by rw[q,C] at this;cases this];exact this
 ·refine X1 (inst b n h e) λ_ i=>?_
  refine X1 (inst Q I j F) λ_ A=>?_;exact x.inj b n _ Q I _ i A q
 ·rcases p with p|p
  ·exact .inl (.inl ((l b).mp p))
  ·exact .inl (.inr p)
 ·by_cases q:b=W.dx a
  ·refine gC L ?_;clear L;intro T _ _ ho _;rw[q];exact⟨T,ho⟩
  ·exact⟨o,(k b q).trans e⟩
set_option tactic.hygienic true in
def II(pc:PC P K)(a:At P A n pe nms W H s ρ)(e:gr o f v H=xV H')(Z:VR P.w P.cA W.fz o x)(hv:VR P.w P.cA W.fz v y)(q:∀s',Trans P W H s W H' s'->Q () s'):bk P A (setAttr x (az f) y) Q E s:=by
 have hr:=a.hr;have p:=pc.here hr;induction o using Mine.V.casesOn<;>(try cases e;done)
 case ref C=>
  have e:AV (H C) C f v H=xV H':=e;refine Z.ct.symm▸?_;induction i:H C with
  |none=>rw[i] at e;cases e
  |some yy=>
  rw[i] at e;induction yy with
  |list=>cases e
  |dict=>cases e
  |inst c fs=>
   refine ky e λhf e=>?_;cases e;obtain⟨X,F,G,u,D,m,r,h9,t⟩:=hr.live _ _ i;obtain⟨od,es,k,h5,h6,h7,_,h8⟩:=id r;have I:=iZ F G u D h5;refine set_plain p I (pc.acC c) (osa_open p I (pc.over c) (pc.take c f (by simpa using hf)) λb=>?_);refine ah (any_some (pc.D9 c)) λcd U l=>?_;obtain⟨B,h,j,-⟩:=I;obtain⟨oc,odi,oda,Y⟩:=X;dsimp only at h u;clear F G D j;subst h u;refine Nq (NC (Nq (Nq (Wq B (Nq (WN.here (looks_clsIn (p:K.In ({ s with toks:=s.toks+1 }:NJ).heap) U) ?_))))));rw[l];refine NC (Nq (NC (Nq ?_)));refine Vl r λh' d O=>?_;have T:=Trans.field (tk:=s.toks+1+1) hr i r d O hv;have N:Within (λz=>if z=az f then xV y else m z) ov:=by
    intro z J;by_cases q:z=az f
    ·rw[q];exact j3 f
    ·simp only[Nl q] at J
     refine bo (t z (isSome_iff_ne_none.mpr J)) λg _ e1 _=>?_;rw[e1];exact j3 g
   refine jc (d.count N) λo' L ep' k1 k2 k3=>?_;refine Nq (Tf k1 (by rw[k2];exact Tg (by rw[O0];have:ov.length=17:=rfl;lia)) ?_);exact NC (q _ T)
def Jl(pc:PC P K)(r:nm=az f)(l:cJ e=Nk)(w:SE P n pe nms o c)(he:SE P n pe nms e ce):SS P n pe nms (.Assign [.Attribute o nm pos'] e pos) (.c9 c f ce):=by intro A ρ W H s N R K X z a q;rw[r];refine QC (GL he (TF.refl a.hr) a q λW₁ H₁ s₁ y i d _ j=>Mine.ah j λv k q=>GL w i d q λW₂ H₂ s₂ x h b g j=>Mine.ah j λu p q=>?_) (gw l);refine ah (aM q) λH' m q=>?_;exact II pc b m p (k.mono g.mono) λs' t=>⟨_,_,h.trans (.of t),ρ,b.step t,q⟩
end
def pZ(l)(items)(n)(x)(u)(y)(d:0<=x)(f:x.toNat<items.size)(g:items.size<=1073741824):
  Xs (Pq.«list.__setitem__» ⟨[.ref l,.int x u,y],[]⟩) (λ_ R s=>s.heap.get? l=xV { cls:=.type "list",dict:=Nm,data:=.seq items n,slots:=#[] }/\R (.ok (.ret Tu)) { s with heap:=s.heap.update l (Wl (·.setIfInBounds x.toNat y)) }):=
 Xs.of_wp λprog w A R s h=>by
 have e:=(h).1;have h:=(h).2;haveI a:=fitsIndex_of d (zI [_] [_] [R4 V0 (zu V0),R0 V0 (zc 1073741823)] (S1 V0) (zc (2 ^ 63)) [1,1,1] rfl (QQ _) (OU.mpr (zI [_,_] [_] [R0 (S1 V0) V1,R0 V1 (zc 1073741824),R4 V0 (zu V0)] V0 (zu (zc 1073741823)) [1,1,1,1] rfl f g (QQ _))));haveI b:=O8.getElem?_eq_getElem f;refine(?_:ON _ _ (Pq.List.listSubscript? (.int x u) >>= _) _ _ s);refine Nq (wpAny_listSubscript_int a ?_);clear a;refine X1 (Sh d) λj c=>?_;subst c;refine Nq (Nq (wpAny_seqItemAt e rfl (NC ?_)));haveI b:=b;rw[b];refine Nq (wpAny_setSeqItemAt e rfl ?_)
 first
  |exact Nq (NC (NC ⟨.none,rfl,h⟩))
  |exact NC ⟨.none,rfl,h⟩
def aB.set{w}{cA}{fz:Fz}{v}{y}(j:VR w cA fz v y):∀{vs} {xs} i,aB w cA fz vs xs->aB w cA fz (vs.set i v) (xs.set i y):=by
 intro d;induction d with
 |nil=>intro _ _ h;cases(h:_=[]);exact aB.nil
 |cons u vs c=>
  intro _ e;induction e with
  |zero=>intro h;refine aO h ?_;clear h;intro z r b g f;subst b;exact aB.cons j f
  |succ i=>intro h;refine aO h ?_;clear h;intro z r b g f;clear a;subst b;exact aB.cons g (c i f)
section
variable {w:Px}{cA:eX->OO}{fz:Fz}
noncomputable def tX(x:NX):V:=.str x.cps.toList
def z6(a b):bb (tX a) (tX b)=decide (a=b):=by
 by_cases h:a=b
 ·rw[h];simp[H3,tX]
 ·obtain⟨a⟩:=a;obtain⟨b⟩:=b
  haveI c:a.toList≠b.toList:=λq=>h (by rw[toList_inj.mp q];rfl);rw[N5 h];simpa [H3,tX] using c
def z5(a b):bb (.int a) (.int b)=decide (a=b):=rfl
def AL{T:Type}[OY T]{c:T->V}(f:∀a b,bb (c a) (c b)=decide (a=b))(k:T):∀d:Ni (T×Nz),(d.map λg=>c g.1).any (bb · (c k))=d.any (λg=>g.1=k):=by
 intro h;induction h with
 |nil=>exact rfl
 |cons g d e=>rw[N3];rw[Ui];rw[Ui];rw[e];rw[f];rfl
def FC{T:Type}[OY T]{d:T->V}(i:∀a b,bb (d a) (d b)=decide (a=b)){k:T}{v}{y}:∀{c:Ni (T×Nz)}{us:Ni V},k∉c.map (·.1)->aB w cA fz us (c.map (·.2)) ->
  l8 (d k) v (c.map λf=>d f.1) us=us/\c.map (λf=>if f.1=k then(f.1,y) else f)=c:=by
 intro l;induction l with
 |nil=>intro us _ h;clear h;induction us<;>exact⟨rfl,rfl⟩
 |cons f c g=>
  intro m;induction m using Nw with
  |nil=>intro _ h;contradiction
  |cons u us=>
   intro j h;refine aO h ?_;clear h;intro z r e p o;injection e with e n;subst e n
   rw[N3,NH,Pl] at j;refine A2 (g j.2 o) λa b=>?_;rw[N3];rw[N3];rw[y5];rw[i];rw[Nl (by simpa using λq=>j.1 q.symm)];rw[Nl (λq=>j.1 q.symm)];rw[a];rw[b];exact⟨rfl,rfl⟩
def Kj{T:Type}[OY T]{d:T->V}(f:∀a b,bb (d a) (d b)=decide (a=b)){k:T}{v}{y}(s:VR w cA fz v y):∀{c:Ni (T×Nz)}{us:Ni V},(c.map (·.1)).Nodup->aB w cA fz us (c.map (·.2)) ->
  aB w cA fz (l8 (d k) v (c.map λg=>d g.1) us) ((c.map (λg=>if g.1=k then(g.1,y) else g)).map (·.2)):=by
 intro j;induction j with
 |nil=>intro us _ h;exact h
 |cons g c i=>
  intro l;induction l using Nw with
  |nil=>intro _ h;contradiction
  |cons u us=>
   intro o h;refine aO h ?_;clear h;intro z r e p n;injection e with e m;subst e m
   rw[N3,Ow] at o;rw[N3,N3,N3,y5,f];by_cases q:g.1=k
   ·rw[Np q];rw[Np (by simpa using q)];rw[(FC f (v:=v) (q▸o.1) n).2]
    exact aB.cons s n
   ·rw[Nl q];rw[Nl (by simpa using q)]
    exact aB.cons p (i o.2 n)
def wd{T:Type}[OY T](k:T)(y)(a:Ni (T×Nz)):(a.map (λb=>if b.1=k then(b.1,y) else b)).map (·.1)=a.map (·.1):=keys_map_store a k y
def BJ(c:Ni (Ni Nu))(a:Ni (NX×Nz))(h:a.map (·.1)=c.map aw):(a.map λb=>tX b.1)=c.map V.str:=by
 haveI:(a.map λb=>tX b.1)=(a.map (·.1)).map tX:=by rw[Oo];rfl
 rw[this];rw[h];rw[Oo];exact map_congr_left λk _=>by(rfl)
end
section
variable {P:bx}{K:PS}{mg mb:NX->Nt Nz}{n:Nu}{pe:NO}{nms:Ni NX}{A:Oj}{ρ:Env}{W W₀:Wd}{H H₀:ae}{s s₀:NJ}{X:Prop}
set_option tactic.hygienic true in
def IJ(a:At P A n pe nms W H s ρ){o k v:V}{x z y:Nz}{H'}{Q}{E}(e:cX o k v H=xV H')(L:VR P.w P.cA W.fz o x)(hk:VR P.w P.cA W.fz k z)(I:VR P.w P.cA W.fz v y)(q:∀s',Trans P W H s W H' s'->Q () s'):bk P A (setItem x z y) Q E s:=by
 have hr:=a.hr;refine LC e (λc u L=>?_) L
 ·clear e
  have:=L.ct;clear L;clear L;subst this;rcases G:H c with _|(vs|⟨ks,vs⟩|⟨c',fs⟩)<;>rw[G] at u
  ·exact gA u
  ·refine wc u (λi Z hk=>?_) hk
   clear u;have e:=Z;clear Z;refine ky e λJ e=>?_;refine A2 J ?_;clear J;intro X h1;cases e;obtain⟨xs,m,g,F,g3⟩:=hr.live _ _ G;refine X1 hk.int_inv λt f=>?_;clear hk;clear hk;subst f;have Y:=g3.length;rw[NW] at Y;simp only[aL] at F;unfold setItem
   try with_reducible refine OW ?_
   have U:s.TypeIs (.ref c) "list" :=⟨_,g,rfl⟩;refine Nq (wpAny_sequenceKey U (by decide) ?_);refine Nq (wpAny_callSpecial?_slot U Vm (Rc Vm U entry_list_setitem (args_list_setitem _ _ _) (pZ c xs m i t y X (zL [_,_,_] [_] [R4 (S1 V0) (zu V2),R3 V1 V2,R6 (zu V0) V0] (S1 V0) V1 [1,1,1,1] rfl h1 Y (QD (X))) F) ⟨g,?_⟩));refine NC (q _ (fG hr (λz=>z.setIfInBounds i.toNat y) G g rfl (by simpa [aL] using F) ?_));rw[toList_setIfInBounds];exact g3.set I _
  ·have e:=u
   clear u;refine ky e λT e=>?_;cases e;have C:=(NQ.mp T).1;have d:=N0 (NQ.mp T).2;clear T e;induction k using Mine.V.casesOn<;>(try cases C;done)
   case int i=>
    obtain⟨g,F,b,D,rfl,r⟩:=JU hr G C;refine X1 hk.int_inv λt f=>?_;clear hk;subst f;rw[NR,NR] at d;refine UJ (fh i t) D (λh' hd O=>?_) (by rw[O0];exact Pf (NY d (by decide)));have l:=D.elim λ_ z=>z.elim λ_ z=>z.elim λ_ z=>z.2.2.2.2.2;have B:(b.map (·.1)).map V.int=b.map λkv=>V.int kv.1:=by rw[Oo];rfl
    refine q _ (Trans.change hr G trivial (by split<;>trivial) O ?_);unfold S0 at hd;rw[B];rw[AL z5];split
    ·rename_i p
     rw[Np p] at hd;refine⟨g,by simpa using F,.inr ⟨b.map (·.1),_,by rw[B];rfl,hd,wd ..,?_⟩⟩;exact Kj z5 I l r
    ·rename_i p
     rw[Nl p] at hd;refine⟨g,by simp[aL];exact Pf (NY d (by decide)),.inr ⟨b.map (·.1)++[i],_,by rw[N7];rw[B];rfl,hd,by simp,?_⟩⟩;rw[N7];exact r.append (aB.cons I aB.nil)
   case str i=>
    obtain⟨g,F,h,b,D,rfl,⟨N,K⟩,r⟩:=JV hr G C;refine ah hk.str_inv λt f hz=>?_;subst f;rw[NR] at d;have j:b.length=h.length:=by have:=NN OZ N;simpa using this
    refine UJ (de _ t) D (λh' hd O=>?_) (by rw[O0];exact cj [R0 (S1 V1) (zc 1000),R2 V0 V1] V0 (zc 16777216) rfl d j);have l:=D.elim λ_ z=>z.elim λ_ z=>z.elim λ_ z=>z.2.2.2.2.2;have B:=BJ h b N;have ei:tX (aw i)=V.str i:=by simp[tX,aw]
    refine q _ (Trans.change hr G trivial (by split<;>trivial) O ?_);unfold S0 at hd;refine bB (NU B) (bB (NU ei) ?_);rw[AL z6];split
    ·rename_i p
     rw[Np p] at hd;refine⟨g,by simpa [j] using F,.inl ⟨h,_,B,hd,⟨by rw[wd];exact N,K⟩,?_⟩⟩;exact Kj z6 I l r
    ·rename_i p
     rw[Nl p] at hd;refine⟨g,by simp[aL];exact cj [R0 (S1 V1) (zc 1000),R2 V0 V1] V0 (zc 1073741823) rfl d j,.inl ⟨h++[i],_,by rw[N7];rw[B];rw[ei];rfl,hd,⟨by rw[N7];rw[N7];rw[N];rfl,λk hk=>?_⟩,?_⟩⟩
     ·rcases Of.mp hk with hk|hk
      ·exact K k hk
      ·rw[Oc.mp hk];exact hz
     ·rw[N7]
      exact r.append (aB.cons I aB.nil)
  ·exact gA u
def Jn{o i e}{c w B}{f pos}(D:cJ e=Nk)(G:SE P n pe nms o c)(hi:SE P n pe nms i w)(he:SE P n pe nms e B):SS P n pe nms (.Assign [.Subscript o i f] e pos) (.qW c w B):=by intro A ρ W H s N R K X I a q;refine wpAny_Assign_Subscript (GL he (TF.refl a.hr) a q λW₁ H₁ s₁ y p h _ g=>Mine.ah g λv C q=>GL G p h q λW₂ H₂ s₂ x l r j g=>Mine.ah g λu F q=>GL hi l r q λW₃ H₃ s₃ z m b d g=>Mine.ah g λk hk q=>?_) (gw D);refine ah (aM q) λH' E q=>?_;exact IJ b E (F.mono d.mono) hk ((C.mono j.mono).mono d.mono) λs' t=>⟨_,_,m.trans (.of t),ρ,b.step t,q⟩
end
section
variable {P:bx}{K:PS}{mg mb:NX->Nt Nz}{n:Nu}{pe:NO}{nms:Ni NX}{A:Oj}{ρ:Env}{W W₀:Wd}{H H₀:ae}{s s₀:NJ}{X:Prop}
def jR(f:M6 P A pe)(x:fO P A pe W H s X e s'):VY (PJ prog P.w) A pe (λe s''=>cameBackBy (PJ prog P.w) A pe (fO P A pe W H s X) e s'') e s':=by
 refine A5 x ?_;clear x;intro m q B d D;refine ah d ?_;clear d;intro l c C;refine X1 f.frs λr hr=>?_;replace c:=(hr)▸c;injection c with c;subst c
 refine vH hr f.fra C λF k1 k j=>Mine.bo k λa I k2 k3=>?_;refine k2▸?_;refine DP f.fra k3 λu v t=>?_;refine⟨m,q,B,⟨_,hr,v⟩,λb o E i e g=>?_⟩;refine X1 (D b o E i e g) λG z=>?_;refine X1 (j b _ z g) λy p=>?_;refine X1 (t b _ p g) λh n=>?_;exact⟨h,n⟩
def Js(h:lq P n pe nms e c)(hb:xw P n pe nms b x):SS P n pe nms (.While e b [] pos) (.loop c x):=by
 intro A ρ W H s N R K X f0 a q;refine X1 q ?_;clear q;intro k q;refine wpAny_While (codeAny_whileLoop (λk s'=>∃W' H' d,TF P pe W H s W' H' s'/\At P A n pe nms W' H' s' d/\gz (fun ρ H k=>rY (call n) c ρ H k X) (fun ρ H k=>eW (call n) x ρ H k R k X) k d H' N) (λk s' r=>Mine.jc r λW' H' d T' a' q'=>?_) k ⟨W,H,ρ,TF.refl a.hr,a,q⟩);induction k using Qn with
 |zero=>exact q'.elim
 |succ k=>
  refine N4 (inT h T' a' q' λW₂ H₂ s₂ b g l i=>⟨W₂,H₂,g,l,i⟩) (λb s₂ r=>Mine.aO r λW₂ H₂ g l i=>?_) λ_ _ z=>jR f0 z;induction b with
  |true=>
   dsimp only[VX] at i ⊢;refine N4 (hb A d W₂ H₂ s₂ _ R _ X f0 l i) (λf s₃ r=>Mine.bo r λW₃ H₃ t z=>?_) λ_ _ z=>jR f0 (z.up g);have T:=g.trans t;clear r;induction f with
   |next=>refine ah z ?_;clear z;intro j o m;exact⟨k,Oe k,W₃,H₃,j,T,o,m⟩
   |cont=>refine ah z ?_;clear z;intro j o m;exact⟨k,Oe k,W₃,H₃,j,T,o,m⟩
   |brk=>exact z.elim
   |ret v=>exact⟨W₃,H₃,T,z⟩
  |false=>exact PU ⟨W₂,H₂,g,d,l,i⟩
noncomputable def ku(v:Nz):NF:=match v with
 |.type n=>!["enumerate", "zip", "dict_itemiterator", "dict_reverseitemiterator", "odict_iterator", "itertools.zip_longest", "itertools.pairwise"].contains n&&decide (n ≠ "frame")
 | _=>Nr
structure r4(P:bx)(A:Oj)(W:Wd)(I:OO)(xs:Ni V)(St:Nu->Heap->Prop):Prop where
 item:∀i (s':NJ) (Q:Nt Nz->NJ->Prop) (E:Nz->NJ->Prop),i<xs.length->St i s'.heap ->
  (∀u y h' tk,xs[i]?=xV u->VR P.w P.cA W.fz u y->St (i+1) h'->(∀b o,b≠I->s'.heap.get? b=xV o->h'.get? b=xV o)->Q (xV y) { s' with heap:=h',toks:=tk })->bk P A (XC (.ref I)) Q E s'
 done:∀(s':NJ)(Q:Nt Nz->NJ->Prop)(E:Nz->NJ->Prop),St xs.length s'.heap ->
  (∀h' tk,(∀b o,b≠I->s'.heap.get? b=xV o->h'.get? b=xV o)->Q Nm { s' with heap:=h',toks:=tk })->bk P A (XC (.ref I)) Q E s'
 self:∀i (s':NJ) (Q:Nz->NJ->Prop) (E:Nz->NJ->Prop),St i s'.heap->Q (.ref I) s'->bk P A (pyIter (.ref I)) Q E s'
 keep:∀i h h',St i h->(∀o,h.get? I=xV o->h'.get? I=xV o)->(∀a o,W.fz a=xV o->h.get? a=xV o->h'.get? a=xV o)->St i h'
 cls:∀i h,St i h->∃o,h.get? I=xV o/\ku o.cls=Nk
def r4.of{St}(w:UP prog P.w A I [I] [I] k Pi St)(hk:k=xs.length)(p:∀i y,i<xs.length->Pi i y->∃u,xs[i]?=xV u/\VR P.w P.cA W.fz u y)(l:∀i h,St i h->∃o,h.get? I=xV o/\ku o.cls=Nk):r4 P A W I xs St:=
 have n:∀{b},b≠I->b∉[I]:=λa m=>a (mem_singleton.mp m)
 ⟨λi s' Q E hi st f=>w.item i s' Q E (hk▸hi) st λy d tk q g c=>(p i y hi q).elim λu e=>f u y d tk e.1 e.2 g λb o a=>c b o (n a),
  λs' Q E st f=>w.done s' Q E (hk▸st) λd tk c=>f d tk λb o a=>c b o (n a),
  w.self,λi h d st j _=>w.frame i h d st λb a o e=>(mem_singleton.mp a).symm▸j o (mem_singleton.mp a▸e),l⟩
def r4.of2{St}(w:UP prog P.w A I [I,f] [I] k Pi St)(hk:k=xs.length)(x:∀i y,Pi i y->∃u,xs[i]?=xV u/\VR P.w P.cA W.fz u y)(s:W.fz f=xV o)(j:f≠I)(v:∀i h,St i h->∃o,h.get? I=xV o/\ku o.cls=Nk):r4 P A W I xs (λi h=>St i h/\h.get? f=xV o):=
 have n:∀{b},b≠I->b∉[I]:=λc m=>c (mem_singleton.mp m)
 ⟨λi s' Q E hi st g=>w.item i s' Q E (hk▸hi) st.1 λy d tk z l a=>(x i y z).elim λu e=>g u y d tk e.1 e.2 ⟨l,a f o (n j) st.2⟩ λb o c=>a b o (n c),
  λs' Q E st g=>w.done s' Q E (hk▸st.1) λd tk a=>g d tk λb o c=>a b o (n c),
  λi s' Q E st=>w.self i s' Q E st.1,
  λi h d st t r=>⟨w.frame i h d st.1 λb c p e=>(NH.mp c).elim (λq=>q.symm▸t p (q▸e)) λq=>by induction mem_singleton.mp q;exact r _ p (s.trans (st.2.symm.trans e)) e,r _ _ s st.2⟩,λi h st=>v i h st.1⟩
def FV{hi st}:∀k lo i,i<(f5 k lo hi st).length->(f5 k lo hi st)[i]?=xV (.int (lo+i * st)):=by
 intro b;induction b with
 |zero=>intro _ _ h;exact(O1 _ h).elim
 |succ k a=>
  intro lo i h;haveI e:f5 (k+1) lo hi st=if lo<hi then .int lo::f5 k (lo+st) hi st else[]:=rfl
  by_cases q:lo<hi
  ·rw[e,Np q] at h
   rw[e];rw[Np q];induction i using Qn with
   |zero=>exact NN (λz=>xV (V.int z)) (by rw[N6.natCast_zero];rw[Rj];rw[Qj];rfl)
   |succ i=>exact(a (lo+st) i (QL h)).trans (NN (λz=>xV (V.int z)) (by rw[W8];rw[VJ];rw[VI];rw[UN];rw[N6.add_comm st];rfl))
  ·rw[e,Nl q] at h;exact(O1 _ h).elim
def lb{lo hi st}(h:¬ lo<hi)(b:0<st):PR lo hi st=0:=(Np b).trans (Nl h)
def qH{lo hi st}(h:lo<hi)(b:0<st):PR lo hi st=(hi - lo - 1) / st+1:=(Np b).trans (Np h)
def FW{hi st}(b:0<st):∀k lo,(hi - lo).toNat<=k->((f5 k lo hi st).length:N6)=PR lo hi st:=by
 intro c;induction c with
 |zero=>intro lo h;exact(lb (λq=>by exact zF [_] [_,_] [R0 V0 K0,R4 (S1 V0) V1,R4 (zs V1 V0) (zu V0)] [1,1,1] rfl h q (QQ _)) b).symm
 |succ k a=>
  intro lo h;haveI e:f5 (k+1) lo hi st=if lo<hi then .int lo::f5 k (lo+st) hi st else[]:=rfl
  by_cases q:lo<hi
  ·rw[e];rw[Np q];rw[qH q b]
   refine(W8 _).trans (NN (·+1) ?_);rw[a (lo+st) (adB b h)];by_cases d:lo+st<hi
   ·rw[qH d b];exact bB (NU (add_mul_ediv_right _ 1 (Sp b))) (NN (· / st) (adC))
   ·rw[lb d b];exact(ediv_eq_zero_of_lt (zI [] [_,_] [R4 (S1 V1) V0] K0 (zs (zs V0 V1) K1) [1,1] rfl q) (zI [] [_,_,_] [R5 (S1 (zp V1 V2)) V0] (S1 (zs (zs V0 V1) K1)) V2 [1,1] rfl d)).symm
  ·rw[e];rw[Nl q];rw[lb q b];rfl
def DW(b:-4611686018427387904<=i)(a:i<=4611686018427387904):Pq.Range.rangeFitsLong i=Nk:=
 NQ.mpr ⟨NP (O5 (by decide) b),NP (UZ a (by decide))⟩
def KI(h:i.natAbs<1152921504606846976):-1152921504606846976<=i/\i<=1152921504606846976:=by exact M4 h
def JA{lo hi st}(b:0<st):0<=PR lo hi st/\PR lo hi st<=max 0 (hi - lo):=by
 refine(NG (lo<hi)).elim (λh=>?_) (λh=>?_)
 ·rw[qH h b]
  haveI a:0<=hi - lo - 1:=by exact zI [] [_,_] [R4 (S1 V1) V0] K0 (zs (zs V0 V1) K1) [1,1] rfl h
  haveI k1:=ediv_nonneg a (Vf b);haveI k2:=ediv_le_self st a;exact⟨O5 k1 (adD),by exact adE h k2⟩
 ·rw[lb h b];exact⟨SA _,N6.le_max_left _ _⟩
def CC{lo hi st}(d:lo.natAbs<1152921504606846976)(c:hi.natAbs<1152921504606846976)(b:0<st)(e:st.natAbs<1152921504606846976):Pq.Range.small lo hi st=Nk:=by have⟨x1,x2⟩:=KI d;have⟨y1,y2⟩:=KI c;have⟨z1,z2⟩:=KI e;have⟨n1,n2⟩:=JA (lo:=lo) (hi:=hi) b;haveI a:=λ{p q:NF} (h:p=Nk) (f:q=Nk)=>NQ.mpr (And.intro h f);refine a (a (a (a (DW (O5 (by decide) x1) (O5 x2 (by decide))) (DW (O5 (by decide) y1) (O5 y2 (by decide)))) (DW (O5 (by decide) z1) (O5 z2 (by decide)))) (DW (O5 (by decide) n1) (O5 n2 (N6.max_le.mpr ⟨by decide,O5 (N6.sub_le_sub (M4 c).2 (M4 d).1) (by decide)⟩)))) (OK.mpr (.inr ?_));rw[Np b];exact DW (zI [] [_,_] [R4 (S1 K0) V1,R4 (zn (zc 1152921504606846976)) V0] (zn (zc 4611686018427387904)) (zp V0 (zs V1 K1)) [1,1,1] rfl b y1) (zI [] [_,_] [R4 V0 (zc 1152921504606846976),R4 V1 (zc 1152921504606846976)] (zp V0 (zs V1 K1)) (zc 4611686018427387904) [1,1,1] rfl y2 z2)
def aB.at:∀{vs:Ni V}{xs:Ni Nz}{i:Nu}{y:Nz},aB P.w P.cA fz vs xs->xs[i]?=xV y->∃u,vs[i]?=xV u/\VR P.w P.cA fz u y:=by
 intro c;induction c with
 |nil=>intro _ _ _ h e;subst h;contradiction
 |cons v vs a=>
  intro _ i y b e;refine aO b ?_;clear b;intro _ r d g f;subst d;induction i using Qn with
  |zero=>exact⟨v,rfl,N1 e▸g⟩
  |succ i=>exact show ∃u,vs[i]?=xV u/\_ from a f e
def itc{o:VW}(e:o.cls=.type ty)(h:ku (.type ty)=Nk):ku o.cls=Nk:=e▸h
set_option tactic.hygienic true in
def ui(a:At P A n pe nms W H s ρ){v}{E}(e:d9 v=xV xs)(F:VR P.w P.cA W.fz v x)(q:∀oI St,r4 P A W s.heap.objs.size xs St->St 0 (s.heap.push oI)->Q (.ref s.heap.objs.size) { s with heap:=s.heap.push oI }):bk P A (pyIter x) Q E s:=by
 have hr:=a.hr;have B:=a.cx.hd;have ne:∀{b o},s.heap.get? b=xV o->b≠s.heap.objs.size:=λe=>OV (Oz e);have p:∀o,o.isFreed=Nr->(s.heap.push o).get? s.heap.objs.size=xV o:=λo h=>Oy _ h;induction v using Mine.V.casesOn<;>(try cases e;done)
 case str l=>
  cases e;refine ah F.str_inv λt C hz=>?_;clear F;subst C;have fin:∀ty,ku (.type ty)=Nk->UP prog P.w A s.heap.objs.size [s.heap.objs.size] [s.heap.objs.size] (aw l).cps.size (SignAt (aw l)) (λi h=>h.IsStrIter s.heap.objs.size ty (aw l) t i) ->
    Q (.ref s.heap.objs.size) { s with heap:=s.heap.push { cls:=.type ty,data:=.fields #[.str (aw l) t,.int 0 0] } }:=λty hty w=>
   q _ _ (r4.of w (NR _).symm (λi y _ z=>z.elim λc z=>z.elim λu z=>A2 z λj G=>⟨.str [c],by rw[OB];rw[show l[i]?=xV c from(TS ..).symm.trans j];rfl,G▸VR.fW (x:=[c]) (show 1<=aL by decide) u⟩) λi h z=>z.elim λo z=>⟨o,z.1,itc z.2.1 hty⟩) ⟨_,p _ rfl,rfl,rfl⟩
  induction ha:(aw l).cps.all (·<128)
  ·exact wpAny_pyIter_wide ha (fin _ (by decide) (UP.strWide B _ _ t))
  ·exact wpAny_pyIter_ascii ha (fin _ (by decide) (UP.strAscii B _ _ t))
 case bytes l=>
  cases e;refine aO F.bR λarr t e2_ e3_ hz=>?_;subst e2_;subst e3_;exact KBw.pyIter_bytes (q _ _ (r4.of (KBw.walks B s.heap.objs.size arr t) (by rw[NR];rw[NR];rw[NW];rfl) (λi y _ z=>z.elim λc z=>z.elim λu z=>A2 z λj G=>⟨.int (c.toNat:N6),by rw[OB];rw[OB];rw[Ov];rw[j];rfl,G▸VR.bV _ _⟩)
   λi h z=>z.elim λo z=>⟨o,z.1,itc z.2.1 (by decide)⟩) ⟨_,p _ rfl,rfl,rfl⟩)
 case tup l=>
  cases e;obtain⟨c,ys,m,rfl,r,z1,r1⟩:=F;have f:=hr.fz _ _ r;have T:s.heap.IsTuple c ys:=⟨_,f,rfl,m,rfl⟩;exact wpAny_pyIter_tuple T (q _ _ (r4.of2 (UP.tuple B s.heap.objs.size c (ne f) ys) r1.length (λi y j=>r1.at ((Ov ..).trans j)) r (ne f) λi h z=>z.1.elim λo z=>⟨o,z.1,itc z.2.1 (by decide)⟩)
   ⟨⟨⟨_,p _ rfl,rfl,rfl⟩,T.push _⟩,NI _ f⟩)
 case lst l=>
  cases e;obtain⟨c,ys,m,rfl,r,z1,r1⟩:=F;have f:=hr.fz _ _ r;have T:=aZ f;exact wpAny_pyIter_list T (q _ _ (r4.of2 (UP.list B s.heap.objs.size c (ne f) ys) r1.length (λi y j=>r1.at ((Ov ..).trans j)) r (ne f) λi h z=>z.1.elim λo z=>⟨o,z.1,itc z.2.1 (by decide)⟩)
   ⟨⟨⟨_,p _ rfl,rfl,rfl⟩,T.push _⟩,NI _ f⟩)
 case ec ks vs=>
  cases e;obtain⟨d,o,I,rfl,r,z1,⟨es,ep,d1,d2,d3,d4,d5⟩,z2,⟨hk,hkz⟩,r1⟩:=F;have f:=hr.fz _ _ r;have D:s.heap.DictAt (OD prog P.w) d I ep:=⟨o,es,f,d1,d2,d3,d4,d5⟩;refine wpAny_pyIter_dict z1 D (q _ _ (r4.of2 (UP.dictKeys B s.heap.objs.size d (ne f) I ep) ?_ (λi y z=>z.elim λk z=>z.elim λu z=>A2 z λj G=>?_) r (ne f) λi h z=>z.1.elim λo z=>⟨o,z.1,itc z.2.1 (by decide)⟩)
   ⟨⟨⟨_,p _ rfl,rfl,rfl⟩,D.push _⟩,NI _ f⟩)
  ·exact(NR _).symm.trans ((NN OZ hk).trans ((NR _).trans (NR _).symm))
  ·refine X1 (UE G) λt C=>?_;clear z G;clear z;subst C
   have e3:(ks.map aw)[i]?=xV k:=by refine bB (NU hk) ?_;rw[OB];rw[j];rfl
   rw[OB] at e3;refine ah (N2.mp e3) λk' e4 e5=>?_;exact⟨.str k',by rw[OB];rw[e4];rfl,e5▸VR.fW (hkz k' (Un e4)) t⟩
 case mN lo hi st=>
  cases e;obtain⟨d,o,t,u,v,rfl,r,rfl,b1,b2,b3,b4⟩:=F;have hl:=FW b3 _ lo (NA (hi - lo).toNat);refine wpAny_pyIter_range (hr.fz _ _ r) (CC b1 b2 b3 b4) (bB (NU hl) ?_);refine q _ _ (r4.of (UP.range B s.heap.objs.size lo st (f5 (hi - lo).toNat lo hi st).length) rfl (λi y hlt z=>z.elim λt j=>⟨_,FV _ _ _ hlt,j▸VR.bV _ _⟩) λi h j=>⟨_,j,(by decide:ku (Qy "range_iterator")=Nk)⟩) ((p _ rfl).trans ?_);simp
def my(h:ku c=Nk):c≠.type "frame" :=λq=>by subst q;injection h
def TF.jJ(T:TF P pe W H s W' H' s')(h:s.heap.get? I=Nm)(nI:¬ f6 W' H' I)(j:P.B.get? I=Nm)(k:∀b o,b≠I->s'.heap.get? b=xV o->h'.get? b=xV o):
  TF P pe W H s W' H' { s' with heap:=h',toks:=t }:=by
 haveI f:W'.fz I=Nm:=by
  induction e:W'.fz I with
  |none=>rfl
  |some o=>exact NK (.inr ⟨o,e⟩) nI
 have x:=T.hr;have ne:∀{b o},s.heap.get? b=xV o->b≠I:=λe q=>by rw[q,h] at e;exact nomatch e
 refine⟨⟨x.b0,λb o e=>k b o (λq=>by rw[q,j] at e;exact nomatch e) (x.base b o e),λb o e=>k b o (λq=>by rw[q,f] at e;exact nomatch e) (x.fz b o e),λb y e=>(x.live b y e).move e (λc o i d=>k c o (λq=>nI (.inl (q▸i))) d) (λ_ _ e=>e) rfl,x.fy,x.dZ,x.apart,x.inj⟩,T.os,T.gens,T.mono,T.dx,λb o l g e=>?_,T.own,λb o e=>?_⟩
 ·exact(T.keep b o l g e).trans λa d=>by rw[k b a (ne e) d];exact fw.refl a
 ·refine X1 (T.big b o e) λa d=>?_
  exact⟨a,k b a (ne e) d⟩
def At.jJ(a:At P A n pe nms W H s ρ)(p:At P A n pe nms W' H' s' ρ')(N:s.heap.get? I=Nm)(hr:HR P W' H' h')(k:∀b o,b≠I->s'.heap.get? b=xV o->h'.get? b=xV o):
  At P A n pe nms W' H' { s' with heap:=h',toks:=t } ρ':=by
 have ne:∀{b o},s.heap.get? b=xV o->b≠I:=λe q=>by rw[q,N] at e;contradiction
 haveI hL:pe.locals≠I:=by refine ah a.fr.ns ?_;intro m v _;refine gC v ?_;clear v;intro o _ _ j _;exact ne j
 have G:∀x c,pe.cells.lookup x=xV c->c≠I:=λx c e=>by refine Mine.A2 (a.fr.jF x c e) λ_ f=>Mine.A2 f λ_ f=>f.elim λu f=>f.elim λo f=>Mine.A2 f λj _=>?_;exact ne j
 refine a9 p.cx.frames λl r J Y=>?_;refine a9 a.cx.frames λl0 z K g3=>?_;replace r:=(z)▸r;injection r with r;subst r
 refine⟨hr,⟨p.cx.hd,p.cx.depth,p.cx.units,⟨_,z,FunFrames.same J λe he L h o j=>?_,Y⟩,λl' g e he L h=>?_⟩,?_⟩
 ·refine ah (FunFrames.there K e he L h) λQ D _=>?_
  rw[k L o (ne D) j];exact fw.refl o
 ·replace g:=(z)▸g;injection g with g;subst g
  refine ah (FunFrames.there K e he L h) λQ D _=>?_;refine ah (FunFrames.there J e he L h) λo j _=>?_;refine A2 (p.cx.lP _ z e he L h) λE C=>?_;have w:=k L o (ne D) j;exact⟨λB d=>by haveI d:=d;replace d:=(w)▸d;injection d with d;subst d;exact E o j,λB u d=>by haveI d:=d;replace d:=(w)▸d;injection d with d;subst d;exact C o u j⟩
 ·have F:=p.fr
  refine ah F.ns λm V O=>?_;refine⟨F.kind,F.yv,F.blt,⟨m,Heap.Ns.same V λo e=>.inl (k _ _ hL e),O⟩,λi y M X=>?_,F.wF,λy c e=>?_,F.vi,F.nodup⟩
  ·refine aO (F.cell i y M X) λc u w U T=>?_
   exact⟨c,u,w,IsCell.same U λo e=>.inl (k _ _ (G y c w) e),T⟩
  ·refine Mine.A2 (F.jF y c e) λE f=>Mine.A2 f λC f=>f.elim λu Z=>?_
   exact⟨E,C,u,IsCell.same Z λo d=>.inl (k _ _ (G y c e) d)⟩
def r4.tf{I}{xs}{St}{W₀ W₁ W₂}{H₁ H₂}{s₁ s₂}(w:r4 P A W₀ I xs St){i}(st:St i s₁.heap)(T:TF P pe W₁ H₁ s₁ W₂ H₂ s₂)(k:¬ K7 pe I)(nI:¬ f6 W₁ H₁ I)(j:∀a o,W₀.fz a=xV o->W₁.fz a=xV o):St i s₂.heap:=by
 refine ah (w.cls i _ st) λo f h=>?_;refine w.keep i _ _ st (λg e=>?_) (λb g e _=>T.hr.fz _ _ (T.mono _ _ (j _ _ e)));replace e:=(f)▸e;injection e with e;subst e
 refine ND (T.keep I o k (λq=>nI (.inl q)) f) (λc=>?_) (λd=>?_)
 ·have q:=c
  exact q
 ·have q:=(d).1
  exact NK q (my h)
end
section
variable {X:Prop}
inductive IsT:Expr->Prop
 |nam (x:NX) (p:XM):IsT (.Name x p)
 |tup (es:Ni Expr) (k:Nu) (p:XM):IsT (.Tuple es k p)
def Tgt(P:bx)(n:Nu)(pe:NO)(nms:Ni NX)(t:Expr)(is:Ni Nu):Prop:=IsT t /\
 ∀A ρ W H s y v ρ' (Q:Unit->NJ->Prop) (E:Nz->NJ->Prop),M6 P A pe->At P A n pe nms W H s ρ->VR P.w P.cA W.fz v y->tg is v ρ=xV ρ'->(∀s',TF P pe W H s W H s'->At P A n pe nms W H s' ρ'->Q () s')->bk P A (assign t pe y) Q E s
def Gp(d:nms[i]?=xV x)(hk:pe.kindOf x=xV .local\/pe.kindOf x=xV .cell):Tgt P n pe nms (.Name x pos) [i]:=by refine⟨.nam _ _,?_⟩;intro A ρ W H s y v f Q E b a c e q;exact QZ (gv b a d hk c (N1 e▸q))
inductive mr(pe:NO)(nms:Ni NX):Ni Expr->Ni Nu->Prop
 |nil:mr pe nms [] []
 |cons {x:NX} {p:XM} {es:Ni Expr} {i:Nu} {is:Ni Nu} (h1:nms[i]?=xV x) (h2:pe.kindOf x=xV .local\/pe.kindOf x=xV .cell) (h3:mr pe nms es is):mr pe nms (.Name x p::es) (i::is)
def sR(h:mr pe nms es is):(U5 es pe).length=es.length/\(U5 es pe).findIdx? (·.1)=Nm/\es.length=is.length:=by
 induction h with
 |nil=>exact⟨rfl,rfl,rfl⟩
 |cons _ _ _ a=>exact⟨NN (·+1) a.1,by rw[Ni.findIdx?_cons];rw[a.2.1];rfl,NN (·+1) a.2.2⟩
def w8:∀{vs}{ρ a},eU [] vs ρ=xV a->ρ=a:=by
 intro d;induction d with
 |cons _ _ _=>
  intro f c b
  first|(contradiction;done)|(contradiction)|(induction c;done)|(exact nomatch c)|(induction b;done)|(exact nomatch b)|contradiction
 |nil=>intro _ _ e;exact N1 e
def uG:∀{vs}{ρ a},eU (i::is) vs ρ=xV a->∃v b,vs=v::b/\eU is b (ρ.set i (xV v))=xV a:=by
 intro f;induction f with
 |nil=>
  intro h d c
  first|(contradiction;done)|(contradiction)|(induction d;done)|(exact nomatch d)|(induction c;done)|(exact nomatch c)|contradiction
 |cons v vs g=>intro _ _ e;exact⟨v,vs,rfl,e⟩
def mP:∀{is}{vs}{ρ},eU is vs ρ=xV ρ'->is.length=vs.length:=by
 intro d;induction d with
 |nil=>
  intro b;induction b with
  |nil=>intro _ _;exact rfl
  |cons _ _=>
   intro f a
   first|(contradiction;done)|(contradiction)|(induction a;done)|(exact nomatch a)|contradiction
 |cons _ _ c=>
  intro b;induction b using Nw with
  |cons _ _=>intro _ e;exact NN (·+1) (c e)
  |nil=>
   intro f a
   first|(contradiction;done)|(contradiction)|(induction a;done)|(exact nomatch a)|contradiction
theorem sY:∀es is ys vs A ρ W H s b Q E,mr pe nms es is->M6 P A pe->At P A n pe nms W H s ρ->aB P.w P.cA W.fz vs ys->eU is vs ρ=xV b ->
  (∀s',TF P pe W H s W H s'->At P A n pe nms W H s' b->Q () s')->bk P A (assignInOrder ((U5 es pe).map (·.2)) ys) Q E s
 |es,is,ys,vs,A,ρ,W,H,s,b,Q,E,h,f0,a,hv,e,q=>by
  induction h generalizing ys vs ρ s with
  |nil=>exact NC (q s (TF.refl a.hr) (w8 e▸a))
  |cons k l _ p=>refine bo (uG e) λv g c m=>?_;clear e;subst c;refine aO hv ?_;clear hv;intro y r c i hr;subst c;refine Nq (OW (QZ (gv f0 a k l i λs₁ f d=>?_)));exact p r g _ s₁ d hr m λs' j o=>q s' (f.trans j) o
def uX{G:Prop}:∀{is},2<=is.length->tg is v ρ=xV ρ'->(∀vs,v=.tup vs->eU is vs ρ=xV ρ'->G)->G
 :=by
 intro is h e k;induction is with
 |nil=>exact NK h (by decide)
 |cons a is=>
  clear tail_ih;induction is with
  |nil=>exact NK h (not_succ_le_self 1)
  |cons b r=>exact EA e (λi h k=>k i rfl h) k
def JK{is}(h:mr pe nms es is)(x:2<=is.length):Tgt P n pe nms (.Tuple es k pos) is:=by refine⟨.tup _ _ _,?_⟩;intro A ρ W H s y v f Q E t a u e q;refine uX x e λvs F l=>?_;subst F;obtain⟨c,ys,m,rfl,D,G,r1⟩:=u;haveI g:=a.hr.fz _ _ D;haveI T:s.heap.IsTuple c ys:=⟨_,g,rfl,m,rfl⟩;refine A3 (sR h) λB z w=>?_;haveI j:=r1.length;rw[NW] at j;refine PySem.wpAny_assign_Tuple a.cx.hd T (by rw[B];rw[w];rw[mP l];rw[j];rfl) z λi hk=>?_;haveI d:∀b o,s.heap.get? b=xV o->i.get? b=xV o:=λb o e=>hk b o (OV (Oz e)) e;have p:=Trans.of_keeps (s₁:={ s with heap:=i }) a.hr d rfl rfl;exact sY es is ys.toList vs A ρ W H _ f Q E h t (a.step p) r1 l λs' r C=>q s' ((TF.of p).trans r) C
def wi(k:IsT t)(h:∃o,s.heap.get? I=xV o/\ku o.cls=Nk)(q:Q () s):bk P A (VS t (.ref I) y) Q E s:=by
 have d:bk P A (pure ()) Q E s:=NC q;induction k with
 |nam=>exact d
 |tup=>
  induction y with
  |ref a=>
   refine ah h ?_;clear h;intro c f i;obtain⟨g,l,b,j⟩:=c;refine Nq (wpAny_load f ?_);clear f;induction g with
   |type nn=>
    induction b with
    |fields vs=>haveI e:=(NQ.mp i).1;refine XD (NN (λm=>bk P A m Q E s) (Nl λz=>?_)) d;haveI z:=(NQ.mp z).1;replace e:=(z)▸e;injection e
    | _=>exact d
   | _=>exact d
  | _=>exact d
def vK(I:Nu->NJ->Prop)(d:∀n s,I n s->bk P A (XC it) (λr s₁=>match r with
   |none=>R (.ok .next) s₁
   |some v=>bk P A (VS target it v) (λ_ s₁=>bk P A (assign target pe v) (λ_ s₂=>bk P A (execs body pe) (λf s₃=>match f with
     |.next|.cont=>∃m,m<n/\I m s₃
     |.brk=>R (.ok .next) s₃
     |.ret v=>R (.ok (.ret v)) s₃) (VY (PJ prog P.w) A pe λe s'=>R (.error e) s') s₂) (VY (PJ prog P.w) A pe λe s'=>R (.error e) s') s₁) (VY (PJ prog P.w) A pe λe s'=>R (.error e) s') s₁) (VY (PJ prog P.w) A pe λe s'=>R (.error e) s') s)(n)(h:I n s):UC (PJ prog P.w) A (.forLoop target it body [] pe) R s:=by
 refine codeAny_loop' rfl I (λn s i=>?_) n h;show ON _ _ ((forTurn target it body [] pe).onRaise (λx=>do WM x pe;theTreesLotGoes x)) _ _ s;refine wpAny_noted ?_;refine Nq (PH (Nq (WB (N4 (d n s i) (λr s₁ a=>?_) λ_ _ c=>PH c))));induction r with
 |none=>exact NC (.inr ⟨rfl,codeAny_block (PU a)⟩)
 |some v=>
  refine Nq (N4 a (λ_ s₁ a=>?_) λ_ _ c=>c);refine Nq (N4 a (λ_ s₂ g=>Nq (N4 g (λf s₃ b=>?_) λ_ _ c=>c)) λ_ _ c=>c);induction f with
  |next=>exact NC (.inl ⟨rfl,b⟩)
  |cont=>exact NC (.inl ⟨rfl,b⟩)
  |brk=>exact NC b
  |ret v=>exact NC b
inductive Nf(P:bx)(pe:NO)(nms:Ni NX)(A:Oj)(n:Nu)(W₁:Wd)(H₁:ae)(s₁:NJ)(xs:Ni V)(I:OO)(St:Nu->Heap->Prop)(F:Ni V->Env->ae->Prop)(k:Nu)(s':NJ):Prop
 |mk (i:Nu) (W':Wd) (H':ae) (ρ':Env) (hk:k=xs.length - i) (hi:i<=xs.length) (T:TF P pe W₁ H₁ s₁ W' H' s') (a:At P A n pe nms W' H' s' ρ') (nO:¬ f6 W' H' I) (st:St i s'.heap) (q:F (xs.drop i) ρ' H')
def Jr(hs:∀v,Qr e pe v=pure v)(ht:Tgt P n pe nms t is)(he:SE P n pe nms e c)(hb:xw P n pe nms b x):SS P n pe nms (.For t e b [] pos) (.each is c x):=by
 intro A ρ W H s N R K X Z a q;refine PySem.wpAny_For (GL he (TF.refl a.hr) a q λW₁ H₁ s₁ y h d _ z=>?_) hs;refine ah z ?_;clear z;intro v hv q;refine ah (aM q) λxs e1 q=>?_;refine ui d e1 hv λoI St w st0=>?_;haveI E:s₁.heap.get? s₁.heap.objs.size=Nm:=eK _;refine A3 d.hr.cI λn1 n2 n3=>?_;haveI nO:¬ f6 W₁ H₁ s₁.heap.objs.size:=by
  rintro(z|⟨o,z⟩)
  ·exact n3 z
  ·replace z:=(n2)▸z;exact nomatch z
 haveI J:=Trans.jJ d.hr oI;have G:¬ K7 pe s₁.heap.objs.size:=by
  rintro(z|⟨x,z⟩)
  ·refine ah d.fr.ns λm Y _=>?_;refine gC Y ?_;clear Y;intro o _ _ F _
   rw[<- z,E] at F;exact nomatch F
  ·refine Mine.A2 (d.fr.jF x _ z) λ_ B=>Mine.A2 B λ_ B=>B.elim λu B=>B.elim λo B=>Mine.A2 B λF _=>?_
   replace F:=(E)▸F;exact nomatch F
 refine vK (Nf P pe nms A n W₁ H₁ s₁ xs s₁.heap.objs.size St λr l H'=>bc is (zM (eW (call n) x) R X) r l H' N)
  (λk s' z=>?_) xs.length ⟨0,W₁,H₁,ρ,rfl,OL _,TF.of J,d.step J,nO,st0,q⟩
 obtain⟨i,W',H',l,hk,hi,U,a',g,st,p⟩:=z;replace p:bc is (zM (eW (call n) x) R X) (xs.drop i) l H' N:=p;rcases W6 i xs.length with hlt|hge
 ·refine w.item i s' _ _ hlt st λu y h' tk e2 hy T j=>?_
  haveI I:=U.jJ (t:=tk) E g n1 j;haveI a2:=d.jJ (t:=tk) a' E I.hr j;rw[Uo hlt] at p;haveI e3:xs[i]=u:=by replace e2:=(OP hlt)▸e2;cases e2;rfl
  rw[e3] at p;refine ah (aM p) λQ e4 p=>?_;refine wi ht.1 (w.cls _ _ T) ?_;refine ht.2 A l W' H' _ y u Q _ _ Z a2 (hy.mono U.mono) e4 λs3 T3 a3=>?_;have M:=w.tf T T3 G g (λb o e=>U.mono _ _ e);haveI there:=(w.cls _ _ M).choose_spec.1;haveI O:=I.trans T3;refine N4 (hb A Q W' H' s3 _ R _ X Z a3 p) (λf s4 z=>?_) λ_ _ z=>jR Z ((z.up O).up h);refine bo z ?_;clear z;intro W4 H4 T4 z;haveI L:=w.tf M T4 G g (λb o e=>U.mono _ _ e);haveI V:=T4.fV g there;have D:=O.trans T4;induction f with
  |next=>refine ah z ?_;clear z;intro C a4 q4;exact⟨xs.length - (i+1),hk▸Si hlt (Oe i),i+1,W4,H4,C,rfl,hlt,D,a4,V,L,q4⟩
  |cont=>refine ah z ?_;clear z;intro C a4 q4;exact⟨xs.length - (i+1),hk▸Si hlt (Oe i),i+1,W4,H4,C,rfl,hlt,D,a4,V,L,q4⟩
  |brk=>exact z.elim
  |ret v=>exact⟨W4,H4,h.trans D,z⟩
 ·cases TL hi hge
  refine w.done s' _ _ st λh' tk j=>?_;haveI I:=U.jJ (t:=tk) E g n1 j;haveI a2:=d.jJ (t:=tk) a' E I.hr j;rw[drop_length] at p;exact⟨W',H',h.trans I,l,a2,p⟩
end
section
variable {P:bx}{K:PS}{mg mb:NX->Nt Nz}{n:Nu}{pe:NO}{nms:Ni NX}{A:Oj}{ρ:Env}{W W₀:Wd}{H H₀:ae}{s s₀:NJ}{X:Prop}
noncomputable def E7(e:Expr):NF:=e.ctorIdx !=25
def Jo(I:mr pe nms es is)(C:cJ e=Nk)(ht:E7 e=Nk)(he:SE P n pe nms e c):SS P n pe nms (.Assign [.Tuple es k tpos] e pos) (.uY is c):=by
 intro A ρ W H s N R K X M a q;refine Assign_Tuple (GL he (TF.refl a.hr) a q λW₁ H₁ s₁ y p d _ B=>Mine.ah B λv x q=>?_) (by clear he;induction e using NZ<;>first|rfl|exact Oh C) ?_
 rotate_left
 ·clear C he;induction e using NZ<;>first|rfl|exact Oh ht
 refine ah (aM q) λvs f q=>?_;refine ah (aM q) λi t q=>?_;refine A3 (sR I) λE U D=>?_;haveI g:=mP t;haveI j:∀Q,(∀h ys,(∀b o,s₁.heap.get? b=xV o->h.get? b=xV o)->aB P.w P.cA W₁.fz vs ys->Q ys { s₁ with heap:=h })->bk P A (unpackItems y (U5 es pe).length Nm) Q (fO P A pe W H s X) s₁:=by
  intro Q F;clear q;induction v using Mine.V.casesOn<;>(try injection f;done)
  ·injection f with f;clear q t;clear q;subst f
   refine x.rec λc ys m u Z z1 r1=>?_;clear B x;subst u;haveI z:=d.hr.fz _ _ Z;rw[E];rw[D];rw[g];refine bB (NU r1.length) ?_;exact PySem.wpAny_unpackItems_tuple a.cx.hd ⟨_,z,rfl,m,rfl⟩ λh hk=>F h _ (λb o e=>hk b o (OV (Oz e)) e) r1
  ·refine x.ct.symm▸BX f λl O f=>?_
   injection f with f;clear q t;clear q;subst f
   obtain⟨ys,m,T,g2,G⟩:=d.hr.live _ _ O;rw[E];rw[D];rw[g];refine bB (NU G.length) ?_;exact kun_itemsOf a.cx.hd (aZ T) λh hk=>F h _ (λb o e=>hk b o (OV (Oz e)) e) G
 refine Nq (PH ?_);unfold unpack;rw[U];refine Nq (OW (j _ λh ys hk r=>?_));haveI J:=Trans.of_keeps (s₁:={ s₁ with heap:=h }) d.hr hk rfl rfl;exact sY es is ys vs A ρ W₁ H₁ _ i _ _ I M (d.step J) r t λs' L Y=>⟨W₁,H₁,(p.trans (.of J)).trans L,i,Y,q⟩
end
section
variable {P:bx}{K:PS}{mg mb:NX->Nt Nz}{n:Nu}{pe:NO}{nms:Ni NX}{A:Oj}{ρ:Env}{W W₀:Wd}{H H₀:ae}{s s₀:NJ}{X:Prop}
def aW.erase(h:aW W (H.erase a) b):aW W H b/\b≠a\/∃d c fs,H d=xV (.inst c fs)/\d≠a/\W.dx d=b:=by
 refine ND (h) (λf=>?_) (λg=>?_)
 ·refine X1 f ?_;clear f;intro z e
  haveI e:(if b=a then Nm else H b)=xV z:=e;by_cases q:b=a
  ·replace e:=(Np q)▸e;contradiction
  ·replace e:=(Nl q)▸e;exact .inl ⟨.inl ⟨z,e⟩,q⟩
 ·refine gC g ?_;clear g;intro d c fs e q
  haveI e:(if d=a then Nm else H d)=xV (.inst c fs):=e;by_cases i:d=a
  ·replace e:=(Np i)▸e;contradiction
  ·replace e:=(Nl i)▸e;exact .inr ⟨d,c,fs,e,i,q⟩
def Trans.freeze(x:HR P W H s.heap)(k:H a=xV y)(t:s.heap.get? a=xV o):Trans P W H s (W.add a o) (H.erase a) s:=by
 haveI m:=x.dZ a (.inl ⟨y,k⟩);haveI j:=Wd.bQ (o:=o) m;have i:∀b z,(H.erase a) b=xV z->b≠a/\H b=xV z:=by
  intro b z e;haveI e:(if b=a then Nm else H b)=xV z:=e;by_cases q:b=a
  ·replace e:=(Np q)▸e;contradiction
  ·rw[Nl q] at e;exact⟨q,e⟩
 have f:∀b,aW (W.add a o) (H.erase a) b->aW W H b/\b≠a:=by
  rintro b (⟨z,e⟩|⟨d,c,fs,e,q⟩)
  ·refine A2 (i b z e) λq e=>?_;exact⟨.inl ⟨z,e⟩,q⟩
  ·refine A2 (i d _ e) λv e=>?_
   refine⟨.inr ⟨d,c,fs,e,q⟩,λr=>?_⟩;haveI:=x.apart d c fs e;haveI q:W.dx d=b:=q;rw[q,r,k] at this;contradiction
 refine⟨⟨λb g e=>j _ _ (x.b0 b g e),x.base,λb g e=>?_,λb z e=>?_,λb h=>x.fy b (f b h).1,λb h=>?_,λb c fs e=>?_,λb c fs u n l e p q=>x.inj b c fs u n l (i _ _ e).2 (i _ _ p).2 q⟩,rfl,rfl,j,λ_ _=>rfl,
  λb g _ e=>by rw[e];exact fw.refl g,λb h=>?_,λb g e=>⟨g,e⟩⟩
 ·haveI e:(if b=a then xV o else W.fz b)=xV g:=e
  by_cases q:b=a
  ·replace e:=(Np q)▸e;injection e with e;subst e;rw[q];exact t
  ·rw[Nl q] at e;exact x.fz _ _ e
 ·haveI q:=(i b z e).1;haveI e:=(i b z e).2
  exact(x.live b z e).move e (λ_ _ _ e=>e) j rfl
 ·refine(?_:(if b=a then xV o else W.fz b)=Nm)
  rw[Nl (f b h).2];exact x.dZ b (f b h).1
 ·refine A2 (i b _ e) λq e=>?_
  haveI:=x.apart b c fs e;refine(?_:(if W.dx b=a then Nm else H (W.dx b))=Nm);rw[this];exact Wr _
 ·rcases h with h|⟨g,e⟩
  ·exact .inl (.inl (f b h).1)
  ·haveI e:(if b=a then xV o else W.fz b)=xV g:=e
   by_cases q:b=a
   ·rw[q];exact .inl (.inl (.inl ⟨y,k⟩))
   ·rw[Nl q] at e;exact .inl (.inr ⟨g,e⟩)
def zk:∀{ks}{b},bX ks=xV b->ks=b.map V.str:=by
 intro c;induction c with
 |nil=>intro b h;exact aN h rfl
 |cons k ks a=>intro b h;have h:=h;refine rL h λs h=>jr h λd e=>?_;rw[a e];rfl
def pI(x:HR P W H s.heap)(e:eJ v H=xV (v',H')):∃a,v=.ref a/\∃W',Trans P W H s W' H' s/\VR P.w P.cA W'.fz v' (.ref a):=by
 haveI e:=e;refine LC e λa e=>?_;refine⟨a,rfl,J1 e (λvs r g=>?_) λks vs p r C g=>?_⟩
 ·injection g with g A;clear e;clear e;subst g A
  obtain⟨xs,m,f,J,h⟩:=x.live _ _ r;have T:=Trans.freeze x r f;exact⟨_,T,a,xs,m,rfl,Wd.bP ..,J,aB.mono T.mono _ _ h⟩
 ·injection g with g A;subst g A
  have hk:=zk C;refine A3 (x.live _ _ r) λF E I=>?_;have:∃o c,s.heap.get? a=xV o/\fB (OD prog P.w) o c/\(c.map (·.1)=p.map aw/\∀k∈p,k.length<=aL)/\aB P.w P.cA W.fz vs (c.map (·.2)):=by
   rcases I with⟨y,c,f,⟨o,es,t,l,q,i,n,j,B⟩,h,u⟩|⟨is,c,f,⟨o,es,t,l,q,i,n,j,B⟩,h,u⟩
   ·have:y=p:=by have:=f.symm.trans hk;exact(Ni.map_inj_right (λa b e=>by cases e;rfl)).mp this
    clear C e hk;clear e;subst this;exact⟨o,c,l,⟨es,t,q,i,n,j,B⟩,h,u⟩
   ·have:is=[]/\p=[]:=by have:=f.symm.trans hk;clear f h;induction is using Nw<;>induction p using Nw<;>simp at this ⊢
    refine A2 this λz D=>?_;clear f;subst z;clear C hk;subst D;have:c=[]:=by simpa using h
    clear B h;subst this;induction d:es.toList using Nw with
    |nil=>
     have:es=#[]:=by simpa using d
     clear n j d;subst this;refine⟨o,[],l,⟨#[],t,q,i,?_,?_,?_⟩,by simp,u⟩
     ·intro e he;simp at he
     ·exact .nil
     ·simp
    |cons e G=>rw[d] at j;cases j
  refine e9 this λo c l q i n=>?_;have T:=Trans.freeze x r l;refine⟨_,T,?_⟩;refine⟨a,o,c,rfl,Wd.bP ..,F,q,?_,i,aB.mono T.mono _ _ n⟩;have:=NN OZ i.1;simp only[NR] at this;rw[this];rw[hk] at E;simpa using E
def FR.at_(F:FR P pe nms W' H' h ρ)(e:ρ[i]?=xV (xV v))(k:∀y,VR P.w P.cA W'.fz v y->VR P.w P.cA W'.fz v' y):FR P pe nms W' H' h (ρ.set i (xV v')):=by
 have one:∀(j:Nu)(u:Nt Nz),uU P W' (ρ[j]?.join) u->uU P W' ((ρ.set i (xV v'))[j]?.join) u:=by
  intro j u r;by_cases q:i=j
  ·subst q
   rw[e] at r;refine ah r ?_;clear r;intro x b c;rw[Rr];rw[Np rfl];split
   ·exact⟨x,b,k x c⟩
   ·trivial
  ·rw[PM q];exact r
 refine ah F.ns λm b c=>?_;refine⟨F.kind,F.yv,F.blt,⟨m,b,λj z e d=>one j _ (c j z e d)⟩,λj z e d=>?_,F.wF,F.jF,F.vi,F.nodup⟩;refine aO (F.cell j z e d) λa u l g f=>?_;exact⟨a,u,l,g,one j _ f⟩
def CE{run:XQ XR}(h:SB P n pe nms run c):SB P n pe nms run (.seq (.freeze i) c):=by intro A ρ W H s N R K X l a q;refine ah (aM q) λv m q=>?_;refine ah (aM q) ?_;clear q;intro d e q;obtain⟨v',H'⟩:=d;refine Mine.ah (pI a.hr e) λb j g=>?_;refine Mine.ah g λW' T r=>?_;clear e;subst j;haveI f:=a.step T;exact upF (.of T) (h A _ W' H' s N R K X l ⟨f.hr,f.cx,f.fr.at_ (join_eq_some_iff.mp m) λy k=>by haveI:=k.ct;rw[this];exact r⟩ q)
def DN(c:H p=r)(e:(H.erase b) p=xV z):(H.erase b) p=r:=by
 haveI a:(if p=b then Nm else H p)=xV z:=e;by_cases q:p=b
 ·replace a:=(Np q)▸a;contradiction
 ·exact(Nl q).trans c
def zf{run:XQ XR}(h:SB P n pe nms run c):SB P n pe nms run (.seq (.km i f) c):=by
 intro A ρ W H s N R K X B a q;refine ah (aM q) λw I q=>?_;refine ah (aM q) λp M q=>?_;refine ah (aM q) λg k q=>?_;obtain⟨cl,fs⟩:=g;refine ah (aM q) λv E q=>?_;refine ah (aM q) ?_;clear q;intro g e q;obtain⟨v',H'⟩:=g;refine ah (aM q) ?_;clear q;intro z t q;obtain⟨b,rfl,W',T,r⟩:=pI a.hr e;have k:=Ek k;have j:H' p=xV (.inst cl fs):=J1 (e:BU (H b) b H=_) (λ_ _ e=>by injection e with _ e;subst e;exact DN k t) λ_ _ _ _ _ e=>by injection e with _ e;subst e;exact DN k t
 haveI d:Trans P W' H' s W' (H'.set p (.inst cl (eT f v' fs))) s:=by
  have x:=T.hr;obtain⟨o,G,L,O,F,m,u,C,J⟩:=x.live p _ j;refine ah (C f _ E) λy D l=>?_;haveI:=l.ct;clear l;subst this;haveI:(λz=>if z=az f then xV (.ref b) else m z)=m:=by
   funext z;by_cases q:z=az f
   ·rw[Np q];rw[q];rw[D];rfl
   ·rw[Nl q];rfl
  exact Trans.field x j u (by rw[this];exact u) (PO _ _) r
 exact upF (.of (T.trans d)) (h A _ W' _ s N R K X B (a.step (T.trans d)) q)
end
structure oq(P:bx)(a:OO)(d:aD)(fd:Th)(nms:Ni NX)(body:Ni QS):Prop where
 obj:∃o,P.B0.get? a=xV o/\o.data=.func fd
 body:fd.body=.stmts body
 code:P.B0.CodeRec fd.code fd.qualname
 co:fd.scope.isCoroutine=Nr
 gen:fd.scope.isGenerator=Nr
 kind:fd.scope.kind=.function
 Du:fd.closure=[]
 yv:fd.globals=O3
 blt:fd.builtins=Q9
 nodup:nms.Nodup
 len:d.arity<=nms.length
 kinds:∀x∈nms,fd.scope.names.lookup x≠xV .free
 acj:∀x∈nms.take d.arity,fd.scope.names.lookup x=xV .local\/fd.scope.names.lookup x=xV .cell
 bind:∀(s:NJ)(xs:Ni Nz),(∀b o,P.B0.get? b=xV o->s.heap.get? b=xV o)->xs.length<=d.arity->d.arity<=xs.length+d.dflt.length ->
  ∃dv,aB P.w P.cA P.B0.get? (d.dflt.drop (d.dflt.length - (d.arity - xs.length))) dv/\VZ s fd ⟨xs,[]⟩ ((nms.take d.arity).zip (xs++dv))
section
def vb{kindOf}:∀{a}{m},x∉a.map (·.1)->Ud kindOf a m x=m x:=by
 intro d;induction d with
 |nil=>intro _ _;exact rfl
 |cons b r c=>
  have n:=(b).1;have v:=(b).2;intro m h;simp only[N3,NH,Pl] at h;rw[c h.2];split
  ·exact Nl h.1
  ·rfl
def va{kindOf}:∀{a}{m},x∉a.map (·.1)->Wb kindOf a m x=m x:=by
 intro d;induction d with
 |nil=>intro _ _;exact rfl
 |cons b r c=>
  have n:=(b).1;have v:=(b).2;intro m h;simp only[N3,NH,Pl] at h;rw[c h.2];split
  ·rfl
  ·exact Nl h.1
theorem iw{kindOf}(hk:kindOf x=xV .local):∀{a}{m},(a.map (·.1)).Nodup->(x,v)∈a->Ud kindOf a m x=xV v
 |(n,u)::r,m,hn,h=>by
  simp only[N3,Ow] at hn;rcases NH.mp h with e|h
  ·injection e with e b;clear h;subst e b
   unfold Ud;rw[vb hn.1,Np hk,Np rfl]
  ·unfold Ud
   exact iw hk hn.2 h
theorem u9{kindOf}(hk:kindOf x≠xV .local):∀{a}{m},(a.map (·.1)).Nodup->(x,v)∈a->Wb kindOf a m x=xV v
 |(n,u)::r,m,hn,h=>by
  simp only[N3,Ow] at hn;rcases NH.mp h with e|h
  ·injection e with e b;clear h;subst e b
   unfold Wb;rw[va hn.1,Nl hk,Np rfl]
  ·unfold Wb
   exact u9 hk hn.2 h
def ro:∀{names}{n}{acc},(acc.lookup x).isSome=Nk->((Rg n names acc).lookup x).isSome=Nk:=by
 intro b;induction b with
 |nil=>intro _ _ h;exact h
 |cons c r a=>
  obtain⟨y,k⟩:=c;intro n acc h;unfold Rg;split
  ·refine a ?_
   rw[Py];induction x==y
   ·exact h
   ·rfl
  ·exact a h
theorem eG:∀{names}{n}{acc},(x,SU)∈names->((Rg n names acc).lookup x).isSome=Nk
 |(y,k)::r,n,acc,h=>by
  refine ND (NH.mp h) (λe=>?_) (λh=>?_)
  ·injection e with e a;clear h;subst e a
   unfold Rg;exact ro (by rw[Py];rw[OJ];rfl)
  ·unfold Rg
   split<;>exact eG h
end
section
variable {X:Prop}
structure Cx0(P:bx)(A:Oj)(n:Nu)(W:Wd)(H:ae)(h:Heap):Prop where
 hd:A.handled=Nm
 depth:A.depth+4 * n<=900
 units:A.units+16 * n<=5000
 frames:∃l,A.frames=xV l/\h.FunFrames P.B l/\∀e∈l,∀L,e.frame=xV L->¬ f6 W H L
 lP:∀l,A.frames=xV l->∀e∈l,∀L,e.frame=xV L->GK h L/\NoC h L
def Cx.to0(C:Cx P A n W H h):Cx0 P A n W H h:=⟨C.hd,by haveI:=C.depth;exact Nj (NV _ _) this,by haveI:=C.units;exact Nj (NV _ _) this,C.frames,C.lP⟩
def Cx.under(C:Cx P A n W H h)(d:A'.handled=A.handled)(c:A'.depth<=A.depth+2)(b:A'.units<=A.units+8)(a:A'.frames=A.frames):Cx0 P A' n W H h:=
 ⟨d.trans C.hd,by haveI:=C.depth;exact cR [R0 V0 (zp V2 (zc 2)),R0 (zp (zp V2 (zm 4 V1)) (zc 2)) (zc 900)] (zp V0 (zm 4 V1)) (zc 900) rfl c this,by haveI:=C.units;exact cR [R0 V0 (zp V2 (zc 8)),R0 (zp (zp V2 (zm 16 V1)) (zc 8)) (zc 5000)] (zp V0 (zm 16 V1)) (zc 5000) rfl b this,by rw[a];exact C.frames,by rw[a];exact C.lP⟩
set_option backward.match.sparseCases true in
def Ng(P:bx)(A:Oj)(W:Wd)(H:ae)(s:NJ)(Q:av)(X:Prop):Result->NJ->Prop:=λr s'=>match r with
 |.ok (.ret v)=>bC P W H s (SV P Q) v s'
 |.ok _=>OH
 |.error e=>cy P A W H s X e s'
def cP(P:bx)(n:Nu)(f:Nu)(ad:OO):Prop:=∀(A:Oj)(W:Wd)(H:ae)(s:NJ)(vs:Ni V)(xs:Ni Nz)(Q:av)(X:Prop),HR P W H s.heap->Cx0 P A n W H s.heap->aB P.w P.cA W.fz vs xs ->
 call n f vs H Q X->UC (PJ prog P.w) A (.call (.ref ad) ⟨xs,[]⟩) (Ng P A W H s Q X) s
def cP.run{ad}(ok:cP P n f ad)(d:HR P W H s.heap)(c:Cx P A n W H s.heap)(a:aB P.w P.cA W.fz vs xs)(b:call n f vs H Q X):
  bk P A (Ot (.ref ad) xs []) (bC P W H s (SV P Q)) (cy P A W H s X) s:=RJ (ok A W H s vs xs Q X d c.to0 a b)
def HR.less(x:HR P W H h)(k:ae.le H' H):HR P W H' h:=by
 have f:∀b,aW W H' b->aW W H b:=by
  rintro b (⟨z,e⟩|⟨d,c,fs,e,q⟩)
  ·exact .inl ⟨z,k _ _ e⟩
  ·exact .inr ⟨d,c,fs,k _ _ e,q⟩
 refine⟨x.b0,x.base,x.fz,λa y e=>x.live a y (k _ _ e),λb l=>x.fy b (f b l),λb l=>x.dZ b (f b l),λa c fs e=>?_,λa c fs n m j e i q=>x.inj a c fs n m j (k _ _ e) (k _ _ i) q⟩;haveI:=x.apart a c fs (k _ _ e);induction i:H' (W.dx a) with
 |none=>rfl
 |some y=>replace this:=(k _ _ i)▸this;contradiction
def Trans.less(T:Trans P W H s W' H' s')(k:ae.le H₂ H'):Trans P W H s W' H₂ s':=by
 refine⟨T.hr.less k,T.os,T.gens,T.mono,T.dx,T.keep,λb a=>T.own b ?_,T.big⟩;rcases a with(⟨z,e⟩|⟨d,c,fs,e,q⟩)|a
 ·exact .inl (.inl ⟨z,k _ _ e⟩)
 ·exact .inl (.inr ⟨d,c,fs,k _ _ e,q⟩)
 ·exact .inr a
def G7{f}{ad}(hd:gO f=xV d)(F:oq P ad d fd nms body)(lim:P.B0.NoLimit)(hb:∀L,xw P n (Ws fd L ad) nms body d.body):cP P (n+1) f ad:=by
 intro A W H s vs xs Q X hr cx hv q;rw[fb] at q;haveI q:eY (gO f) (λd=>eY (j6 d vs) fun ρ=>eW (sh gO n) d.body ρ H (λ_ H=>less (Q .none) H) (λv H=>less (Q v) H) (λ_ _=>OH) X):=q;rw[hd] at q;rw[<- fb] at q;haveI q:eY (j6 d vs) (fun ρ=>eW (call n) d.body ρ H (λ_ H=>less (Q .none) H) (λv H=>less (Q v) H) (λ_ _=>OH) X):=q;induction I:j6 d vs with
 |none=>rw[I] at q;exact q.elim
 |some ρ=>
 replace q:=(I)▸q;haveI q:=q;unfold j6 at I;simp only at I;split at I
 rotate_left
 ·contradiction
 rename_i D;haveI hl1:=(D).1;haveI hl2:=(D).2;simp only[Rm] at I;haveI hxl:=hv.length;haveI hl3:d.arity<=xs.length+d.dflt.length:=by rw[Nv,Ol] at hl2;exact adG hl2 hxl
 refine ah (F.bind s xs (λb o e=>hr.lS e) (cR [R0 V2 V1,R2 V0 V2] V0 V1 rfl D.1 hxl) hl3) λdv r1 hbind=>?_;replace r1:=(hxl)▸r1;have hall:=hv.append (aB.mono hr.b0 _ _ r1);haveI hlx:=hall.length;refine ah F.obj λo ho hdat=>?_;haveI hpl:(nms.take d.arity).length=d.arity:=by rw[OR];haveI:=F.len;exact Qh this
 haveI hzip:((nms.take d.arity).zip (xs++dv)).map (·.1)=nms.take d.arity:=by rw[Ni.map_fst_zip];rfl;exact gb [R3 V3 V2,R3 V1 V3,R2 V0 V2] V0 V1 rfl D.2 hlx hpl
 haveI hnd:(nms.take d.arity).Nodup:=F.nodup.sublist (Vn _ _);refine a9 cx.frames λfl J hff hfo=>?_;refine TU (by haveI:=cx.depth;unfold Wt;exact Nx (Nj (NV _ _) this) (by decide)) (hr.lS ho) hdat F.co F.gen F.body (F.code.keeps λb o e=>hr.lS e) (hbind _ _ _ _ ?_);rw[F.Du];refine nv F.kind (λx hx=>?_) λenv he s₁ x hcls=>?_
 ·haveI:x.1∈nms.take d.arity:=by refine bB (NU hzip) ?_;exact TA.mpr ⟨x,hx,rfl⟩
  refine ND (F.acj _ this) (λk=>?_) (λk=>?_)
  ·exact .inl k
  ·exact .inr ⟨k,eG (mem_of_lookup k)⟩
 haveI he:env=Ws fd s.heap.objs.size ad:=he;haveI hbo:=hb s.heap.objs.size;replace hbo:=NU (he)▸hbo;haveI e1:env.locals=s.heap.objs.size:=by rw[he];rfl
 haveI e2:env.frame=xV env.locals:=by rw[he];rfl
 have e3:env.scope=fd.scope:=by rw[he];rfl
 haveI e4:env.globals=O3:=by rw[he];exact F.yv
 haveI e5:env.builtins=Q9:=by rw[he];exact F.blt
 haveI e6:env.cells=Rg (s.heap.objs.size+1) fd.scope.names []:=by rw[he];rfl
 have ek:∀y,env.kindOf y=fd.scope.names.lookup y:=by intro y;refine(?_:env.scope.names.lookup y=_);rw[e3];rfl
 clear he;have h:=x.toInCall.keep;refine X2 x.toInCall.same λh₁ tk hs1=>?_;haveI p:=Trans.of_keeps hr h (by rw[hs1];rfl) (by rw[hs1];rfl);haveI m:∀b,s.heap.objs.size<=b->s.heap.get? b=Nm:=by
  intro b hb;induction e:s.heap.get? b with
  |none=>rfl
  |some o=>exact NK (Oz e) (Pt.mpr hb)
 have E:∀b,s.heap.objs.size<=b->¬ f6 W H b:=by
  rintro b hb (hf|⟨o,e⟩)
  ·refine X1 (hr.dm hf) λo e=>?_;replace e:=(m b hb)▸e;exact(by contradiction)
  ·haveI:=m b hb;replace this:=(hr.fz _ _ e)▸this;exact nomatch this
 have noB:∀b,s.heap.objs.size<=b->P.B.get? b=Nm:=by
  intro b hb;cases e:P.B.get? b with
  |none=>rfl
  |some o=>have:=m b hb;rw[hr.base _ _ e] at this;exact nomatch this
 have t:∀y c,env.cells.lookup y=xV c->s.heap.objs.size<c:=λy c e=>by refine bB (NU e1) ?_;exact x.above y c (mem_of_lookup e)
 have fr:FR P env nms W H s₁.heap ρ:=by
  have val:∀(i:Nu)(y:NX),nms[i]?=xV y->(∃v u,ρ[i]?.join=xV v/\(y,u)∈(nms.take d.arity).zip (xs++dv)/\VR P.w P.cA W.fz v u)\/ρ[i]?.join=Nm:=by
   intro i y hy;refine bB (NU I) ?_;rw[Ni.getElem?_append];split
   ·rename_i hi
    left;rw[NR] at hi;obtain⟨v,hv⟩ : ∃v,(vs++d.dflt.drop (d.dflt.length - (d.arity - vs.length)))[i]?=xV v:=⟨_,OP hi⟩;refine ah (hall.get hv) λu hu hr'=>?_;refine⟨v,u,by rw[OB];rw[hv];rfl,?_,hr'⟩;refine RA.mpr ⟨i,?_⟩;rw[Ni.getElem?_zip_eq_some];exact⟨by rw[Ni.getElem?_take_of_lt (cR [R2 V2 V1,R0 (S1 V0) V2] (S1 V0) V1 rfl D.2 hi)];exact hy,hu⟩
   ·right
    rw[Ni.getElem?_replicate];split<;>rfl
  refine⟨by rw[e3];exact F.kind,e4,e5,⟨_,x.toInCall.ns,λi y hy hk=>?_⟩,λi y hy hk=>?_,by rw[e1];exact E _ (NA _),λy c e=>⟨E c (Pf (t y c e)),by rw[e1];exact Sm (t y c e),_,x.cell y c e⟩,λy z c e e'=>WU x.apart (mem_of_lookup e) (mem_of_lookup e'),F.nodup⟩
  ·rcases val i y hy with⟨v,u,g1,g2,g3⟩|g
   ·rw[g1]
    exact⟨u,iw hk (by rw[hzip];exact hnd) g2,g3⟩
   ·rw[g];trivial
  ·haveI hym:=Un hy
   have hk:fd.scope.names.lookup y=xV .cell:=by
    rw[ek] at hk;refine ND (hk) (λhk=>?_) (λhk=>?_)
    ·exact hk
    ·exact NK hk (F.kinds y hym)
   refine X1 (Nt.isSome_iff_exists.mp (eG (n:=s.heap.objs.size+1) (acc:=[]) (mem_of_lookup hk))) λc hc=>?_;rw[<- e6] at hc;refine⟨c,_,hc,x.cell y c hc,?_⟩;refine ND (val i y hy) (λz1_=>?_) (λz2_=>?_)
   ·refine aO z1_ ?_;clear z1_;intro v u g1 g2 g3
    rw[g1];exact⟨u,u9 (by rw[ek];rw[hk];decide) (by rw[hzip];exact hnd) g2,g3⟩
   ·have g:=z2_
    rw[g];trivial
 have hns:=x.toInCall.ns;haveI cx':Cx P (A.deeper env) n W H s₁.heap:=by
  have C:Cx0 P A (n+1) W H s₁.heap:=by
   refine a9 cx.frames λl h1 h2 h3=>?_;refine⟨cx.hd,cx.depth,cx.units,⟨l,h1,FunFrames.same h2 λe he L hL o ho=>p.keep _ o (λq=>h3 e he L hL (.inl q)) ho,λe he L hL=>?_⟩,λl' h1' e he L hL=>?_⟩
   rotate_left
   ·replace h1':=(h1)▸h1';injection h1' with h1';subst h1'
    refine a9 (FunFrames.there h2 e he L hL) λo ho _ _=>?_;haveI g1:=(cx.lP l h1 e he L hL).1;haveI g2:=(cx.lP l h1 e he L hL).2;exact⟨λo' e'=>by replace e':=(h _ _ ho)▸e';injection e' with e';subst e';exact g1 o ho,λo' u e'=>by replace e':=(h _ _ ho)▸e';injection e' with e';subst e';exact g2 o u ho⟩
   refine a9 (FunFrames.there h2 e he L hL) λo ho _ _=>?_;exact p.fV (h3 e he L hL) ho
  refine⟨C.hd,by haveI:=cx.depth;refine(?_:A.depth+1+4 * n+2<=900);exact cj [R0 (zp V0 (zm 4 (S1 V1))) (zc 900)] (zp (zp (S1 V0) (zm 4 V1)) (zc 2)) (zc 900) rfl this,by haveI:=cx.units;refine(?_:A.units+3+16 * n+8<=5000);exact cj [R0 (zp V0 (zm 16 (S1 V1))) (zc 5000)] (zp (zp (zp V0 (zc 3)) (zm 16 V1)) (zc 8)) (zc 5000) rfl this,⟨env::fl,by refine(?_:A.frames.map _=_);rw[J];rfl,?_,λe he L hL=>?_⟩,λl' G e he L hL=>?_⟩
  rotate_left 2
  ·haveI G:A.frames.map (env::·)=xV l':=G
   replace G:=(J)▸G;injection G with G;subst G
   rcases NH.mp he with q|q
   ·cases q;replace hL:=(e2)▸hL;injection hL with hL;subst hL;exact⟨hcls,.ns hns⟩
   ·exact C.lP fl J e q L hL
  ·refine a9 C.frames λl' g1 g2 g3=>?_
   replace g1:=(J)▸g1;injection g1 with g1;clear g3;subst g1
   refine jc (id hns) λoL es ep g4 g5 _=>?_;exact⟨by rw[e3];rw[F.kind];decide,⟨env.locals,oL,e2,by rw[e1];exact noB _ (NA _),g4,λvs q=>by replace q:=(g5)▸q;cases q⟩,g2⟩
  ·refine ND (NH.mp he) (λq=>?_) (λq=>?_)
   ·cases q;replace hL:=(e2)▸hL;injection hL with hL;subst hL;rw[e1];exact E _ (NA _)
   ·exact hfo e q L hL
 haveI f0:M6 P (A.deeper env) env:=⟨by rw[e1];exact noB _ (NA _),λy c e=>noB c (Pf (t y c e)),⟨fl,by refine(?_:A.frames.map _=_);rw[J];rfl⟩,e2⟩;have nofr:∀b o,s.heap.get? b=xV o->¬ K7 env b:=by
  rintro b o e (q|⟨y,q⟩)
  ·rw[q,e1] at e;replace e:=(m _ (NA _))▸e;contradiction
  ·rw[m b (Pf (t y b q))] at e;contradiction
 refine⟨lim.keeps λb o e=>h _ _ (hr.lS e),W9 (N4 (hbo (A.deeper env) ρ W H s₁ _ _ _ X f0 ⟨p.hr,cx',fr⟩ q) (λfl' s' z_=>Mine.bo z_ λW' H' T' z=>?_) λe s' x=>?_)⟩
 ·have T:Trans P W H s W' H' s':=by
   refine⟨T'.hr,T'.os.trans p.os,T'.gens.trans p.gens,T'.mono,λa z_=>Mine.X1 z_ λo e=>T'.dx a ⟨o,h _ _ e⟩,λb o hb e=>T'.keep b o (nofr b o e) hb (h _ _ e),λb hb=>?_,λb o e=>T'.big b o (h _ _ e)⟩;refine ND (T'.own b hb) (λq=>?_) (λq=>?_)
   ·exact .inl q
   ·refine .inr ?_
    induction e:s.heap.get? b with
    |none=>rfl
    |some o=>replace q:=(h _ _ e)▸q;exact nomatch q
  haveI fin:∀v y,VR P.w P.cA W'.fz v y->less (Q v) H'->bC P W H s (SV P Q) y s':=λv y r z_=>Mine.ah z_ λH₂ k q=>⟨W',H₂,T.less k,v,r,q⟩;clear z_;induction fl' with
  |next=>refine ah z ?_;clear z;intro ρ' a' q';exact fin .none .none VR.of_none q'
  |brk=>exact z.elim
  |cont=>refine ah z ?_;clear z;intro _ _ q';exact q'.elim
  |ret y=>refine ah z ?_;clear z;intro v r q';exact fin v y r q'
 ·refine A5 x ?_;clear x;intro h1 h2 h3 z3_ h6;refine ah z3_ ?_;clear z3_;intro l h4 h5
  have hfr:(A.deeper env).frames=xV (env::fl):=by refine(?_:A.frames.map _=_);rw[J];rfl
  replace h4:=(hfr)▸h4;injection h4 with h4;subst h4
  refine BN hfr e2 h5 λh' k1 k2=>?_;refine⟨h1,h2.trans p.os,h3.trans p.gens,⟨fl,J,k1⟩,λb o hb e hn=>?_⟩;refine X1 (h6 b o (nofr b o e) hb (h _ _ e) hn) λsl g=>?_;refine X1 (k2 b _ g hn) λsl' g'=>?_;exact⟨sl',g'⟩
end
section
variable {P:bx}{K:PS}{mg mb:NX->Nt Nz}{n:Nu}{pe:NO}{nms:Ni NX}{A:Oj}{ρ:Env}{W W₀:Wd}{H H₀:ae}{s s₀:NJ}{X:Prop}
def AS(g:PG P mg mb){ad}(d:∃o,P.B0.get? ad=xV o/\o.data=.func fd)(ok:cP P n f ad)(j:mg x=xV (.ref ad))(hk:pe.kindOf x=xV .globalImplicit)(hd:aK x=Nk)(l:es.all aR=Nk)(h:Bi P n pe nms es cs):SE P n pe nms (.Call (.Name x p) es [] pos) (.call f cs):=by intro A ρ W H s Q X a q;refine ah d ?_;clear d;intro o k b;refine Call_Name rfl (dn a g hk j (Vo (o:=o) (fd:=fd) (b6 l ?_)) hd);refine cf (h A ρ W H s _ X a q pos) λW₁ H₁ s₁ ys t e=>Mine.a9 e λvs i _ q=>⟨⟨t.hr.lS k,b⟩,qT t (ok.run t.hr (a.cx.step t) i q)⟩
def Dq(l:eQ o=Nk)(j:args.all aR=Nk)(d:args.length<29)(g:(apos.endLine==pos.line)=Nk)(h:bk P A (eval o pe) (λi s₁=>∃f x,(∀(m:XQ NF)(Q:Nz×Ni Nz->NJ->Prop),Q (.ref f,[.ref x]) s₁->bk P A (WO i name m) Q E s₁)/\bk P A (Wk pos (.ref f) [.ref x] (Rl pos (PW args pe)) []) Q E s₁) E s):
  bk P A (eval (.Call (.Attribute o name apos) args [] pos) pe) Q E s:=by
 rw[WC];rw[gE l];refine Nq (N4 h (λi s₁ a=>?_) λ_ _ e=>e);refine bo a ?_;clear a;intro f x n k;refine Nq (PH ?_);haveI b:Sw (args.length+([]:Ni XJ).length) (Rl pos (PW args pe)) (backToKw pos (keywordEach [] pe))=Nk:=by unfold Sw;rw[me j];exact NP (Q7 d)
 haveI c:S3 Nk o pe apos pos=pure pos:=by unfold S3;exact(Np ‹_›)
 unfold methodCall;rw[b];refine Nq (OW (n _ _ ?_));exact Nq (P5 c k)
def wD(h:∀f∈aG c,name≠az f)(k:∀y,(RY es y).isSome->∃f∈aG c,y=az f):RY es name=Nm:=by
 induction e:RY es name with
 |none=>rfl
 |some v=>refine ah (k name (by rw[e];rfl)) λf b a=>?_;exact NK a (h f b)
def Md(a:At P A n pe nms W H s ρ)(l:IK v H=xV cl)(D:VR P.w P.cA W.fz v x)(r:∀g∈aG cl,nm≠az g)(d:bq cl=Nr->∀g,nm≠az g):
  ∃b F h,x=.ref b/\InstAt s.heap b F (P.cA cl) (xV h)/\Wj nm h=xV Nm:=by
 induction v using Mine.V.casesOn with
 |obj c fs=>
  injection l with l;clear d;subst l
  obtain⟨x,o,dx,h,es,m,rfl,i,B,q,C,t,u,y,E,j,I⟩:=D;exact⟨x,o,h,rfl,iZ (a.hr.fz _ _ i) B q C (a.hr.fz _ _ t),iG u y (wD r E)⟩
 |ref b=>
  refine Mc (l:Fn (H b)=xV cl) λfs J z=>?_;obtain⟨o,G,i,B,q,m,p,E,j⟩:=a.hr.live _ _ J;obtain⟨h,es,k,C,t,u,_,y⟩:=p;refine⟨b,o,h,D.ct,iZ G i B q C,iG t u ?_⟩;induction e:RY es nm with
  |none=>rfl
  |some v=>exact bo (j nm (by rewrite [<- y];rw[e];rfl)) λf _ i _=>NK i (d z f)
 | _=>contradiction
def Ji(pc:PC P K)(hb:eQ o=Nk)(e:(apos.endLine==pos.line)=Nk)(hs:es.all aR=Nk)(i:es.length<29)(hm:∀c f,fT c m=xV f->(∀g∈aG c,nm≠az g)/\(bq c=Nr->∀g,nm≠az g)/\∃ad o fd,P.B0.get? ad=xV o/\o.data=.func fd/\P0 K (.ref (P.cA c)) nm=xV (xV (.ref ad))/\TB K (.ref ad)=xV (.type "function")/\cP P n f ad)(h:SE P n pe nms o c)(r:Bi P n pe nms es cs):SE P n pe nms (.Call (.Attribute o nm apos) es [] pos) (.bM m c cs):=by intro A ρ W H s Q X a q;refine Dq hb hs i e (cf (h A ρ W H s _ X a q) λW₁ H₁ s₁ x t w=>Mine.ah w λv hv q=>?_);haveI p:=a.step t;haveI K':=pc.here p.hr;refine ah (aM q) λcl hc q=>?_;refine ah (aM q) λf hf q=>?_;obtain⟨u,j,ad,ob,fd,h1,h2,h3,h4,ok⟩:=hm cl f hf;refine jc (Md p hc hv u j) λb ox od y I hl=>?_;subst y;refine⟨ad,b,λpl Q k=>method_fn K' I (Uk (pc.get cl nm)).1 (Uk (pc.get cl nm)).2 h3 h4 (by refine(?_:(Wj nm od).map _=_);rw[hl];rfl) k,?_⟩;refine Vo (o:=ob) (fd:=fd) (b6 hs ?_);refine dP t (r A ρ W₁ H₁ s₁ _ X p q pos) λW₂ H₂ s₂ ys d w=>Mine.a9 w λvs hvs _ q=>⟨⟨d.hr.lS h1,h2⟩,qT (t.trans d) (ok.run d.hr (p.cx.step d) (aB.cons (hv.mono d.mono) hvs) q)⟩
end
section
variable {P:bx}{K:PS}{mg mb:NX->Nt Nz}{n:Nu}{pe:NO}{nms:Ni NX}{A:Oj}{ρ:Env}{W W₀:Wd}{H H₀:ae}{s s₀:NJ}{X:Prop}
noncomputable def Wd.Hw(W:Wd)(a d:OO):Wd:={ W with dx:=λb=>if b=a then d else W.dx b }
def Trans.inst(x:HR P W H s.heap)(c):Trans P W H s (W.Hw (s.heap.objs.size+1) s.heap.objs.size) (H.set (s.heap.objs.size+1) (.inst c [])) { s with heap:=(s.heap.push RK).push (SP (P.cA c) s.heap.objs.size) }:=by
 haveI lt:∀{b o},s.heap.get? b=xV o->b<s.heap.objs.size:=λe=>Oz e;haveI k:∀b o,s.heap.get? b=xV o->((s.heap.push RK).push (SP (P.cA c) s.heap.objs.size)).get? b=xV o:=λb o e=>NI _ (NI _ e);haveI hx:((s.heap.push RK).push (SP (P.cA c) s.heap.objs.size)).get? (s.heap.objs.size+1)=xV (SP (P.cA c) s.heap.objs.size):=by
  haveI:=Oy (o:=SP (P.cA c) s.heap.objs.size) (s.heap.push RK) rfl
  rwa [Pe] at this
 haveI hd:((s.heap.push RK).push (SP (P.cA c) s.heap.objs.size)).get? s.heap.objs.size=xV RK:=NI _ (Oy _ rfl);have i:∀b,s.heap.objs.size<=b->s.heap.get? b=Nm:=by
  intro b g;induction e:s.heap.get? b with
  |none=>rfl
  |some o=>exact NK (lt e) (Pt.mpr g)
 have noF:∀b,s.heap.objs.size<=b->¬ aW W H b:=λb g hf=>by refine X1 (x.dm hf) ?_;intro o e;replace e:=(i b g)▸e;contradiction
 have Cj:∀b,s.heap.objs.size<=b->H b=Nm:=by
  intro b g;induction e:H b with
  |none=>rfl
  |some y=>exact NK (.inl ⟨y,e⟩) (noF b g)
 haveI noB:∀b,s.heap.objs.size<=b->P.B.get? b=Nm:=by
  intro b g;induction e:P.B.get? b with
  |none=>rfl
  |some o=>have:=i b g;replace this:=(x.base _ _ e)▸this;contradiction
 haveI noZ:∀b,s.heap.objs.size<=b->W.fz b=Nm:=by
  intro b g;induction e:W.fz b with
  |none=>rfl
  |some o=>have:=i b g;replace this:=(x.fz _ _ e)▸this;contradiction
 haveI ltH:∀{b y},H b=xV y->b<s.heap.objs.size:=λ{b y} e=>by refine RE λq=>?_;replace e:=(Cj b q)▸e;contradiction
 have t:∀{b c fs},H b=xV (.inst c fs)->W.dx b<s.heap.objs.size:=λ{b c fs} e=>RE λq=>noF _ q (.inr ⟨b,c,fs,e,rfl⟩);haveI j:∀b,b≠s.heap.objs.size+1->(W.Hw (s.heap.objs.size+1) s.heap.objs.size).dx b=W.dx b:=λb q=>Nl q;haveI p:(W.Hw (s.heap.objs.size+1) s.heap.objs.size).dx (s.heap.objs.size+1)=s.heap.objs.size:=Np rfl;have a:∀b z,(H.set (s.heap.objs.size+1) (.inst c [])) b=xV z->(b=s.heap.objs.size+1/\z=.inst c [])\/(b≠s.heap.objs.size+1/\H b=xV z):=by
  intro b z e;haveI e:(if b=s.heap.objs.size+1 then xV (dQ.inst c []) else H b)=xV z:=e;refine(NG (b=s.heap.objs.size+1)).elim (λq=>?_) (λq=>?_)
  ·replace e:=(Np q)▸e;injection e with e;subst e;exact .inl ⟨q,rfl⟩
  ·replace e:=(Nl q)▸e;exact .inr ⟨q,e⟩
 have r:∀b,aW (W.Hw (s.heap.objs.size+1) s.heap.objs.size) (H.set (s.heap.objs.size+1) (.inst c [])) b->s.heap.objs.size<=b\/aW W H b:=by
  rintro b (⟨z,e⟩|⟨d,c',fs,e,q⟩)
  ·rcases a _ _ e with⟨q,_⟩|⟨_,e⟩
   ·exact .inl (by rw[q];exact Ql _)
   ·exact .inr (.inl ⟨z,e⟩)
  ·refine ND (a _ _ e) (λl=>?_) (λm=>?_)
   ·refine A2 l ?_;clear l;intro q' _
    rw[q',p] at q;exact .inl (Q1 q)
   ·refine A2 m ?_;clear m;intro q' e
    replace q:=(j d q')▸q;exact .inr (.inr ⟨d,c',fs,e,q⟩)
 refine⟨⟨x.b0,λb o e=>k _ _ (x.base b o e),λb o e=>k _ _ (x.fz b o e),λb z e=>?_,λb g=>?_,λb g=>?_,λb c' fs e=>?_,λb c' fs b' c'' fs' e e' q=>?_⟩,rfl,rfl,λ_ _ e=>e,λb z_=>Mine.X1 z_ λo e=>j b (OV (Q7 (lt e))),
  λb o _ e=>by rw[k b o e];exact fw.refl o,λb g=>?_,λb o e=>⟨o,k b o e⟩⟩
 ·refine ND (a _ _ e) (λl=>?_) (λm=>?_)
  ·refine A2 l ?_;clear l;intro q e1_;subst e1_
   rw[q];refine⟨_,hx,rfl,by rw[p];rfl,rfl,λ_=>Nm,?_,?_⟩
   ·rw[p]
    exact Heap.Ns1.of_empty ((Heap.Ns.new s.heap (.type "dict")).keeps λb o e=>NI _ e)
   ·exact And.intro (λf v e=>by contradiction) (λy h=>by contradiction)
  ·refine A2 m ?_;clear m;intro q e
   exact hO.keeps (W:=W) k (λ_ _ e=>e) (j b q) (x.live b z e)
 ·refine ND (r b g) (λq=>?_) (λq=>?_)
  ·exact noB b q
  ·exact x.fy b q
 ·refine ND (r b g) (λq=>?_) (λq=>?_)
  ·exact noZ b q
  ·exact x.dZ b q
 ·refine ND (a _ _ e) (λl=>?_) (λm=>?_)
  ·refine A2 l ?_;clear l;intro q _
   rw[q];rw[p];refine(?_:(if s.heap.objs.size=s.heap.objs.size+1 then _ else H s.heap.objs.size)=Nm);rw[Nl (OV (Oe _))];exact Cj _ (NA _)
  ·refine A2 m ?_;clear m;intro q e
   rw[j b q];refine(?_:(if W.dx b=s.heap.objs.size+1 then _ else H (W.dx b))=Nm);rw[Nl (OV (Nu.lt_succ_of_lt (t e)))];exact x.apart b c' fs e
 ·rcases a _ _ e with⟨q1,_⟩|⟨q1,e1⟩<;>rcases a _ _ e' with⟨q2,_⟩|⟨q2,e2⟩
  ·rw[q1];rw[q2];rfl
  ·rw[q1,p,j b' q2] at q;exact NK q (Sm (t e2))
  ·rw[q2,p,j b q1] at q;exact NK q (OV (t e1))
  ·rw[j b q1,j b' q2] at q;exact x.inj b c' fs b' c'' fs' e1 e2 q
 ·refine ND (g) (λg=>?_) (λg=>?_)
  ·refine ND (r b g) (λq=>?_) (λq=>?_)
   ·exact .inr (i b q)
   ·exact .inl (.inl q)
  ·exact .inl (.inr g)
theorem De:∀{fs},(fs.map (·.1)).Nodup->(∀f v,ji f fs=xV v->∃x,RY es (az f)=xV x/\VR w cA fz v x)->GX w cA fz (fs.map (·.1)) (fs.map (·.2)) es
 |[]=>λ_ _=>trivial
 |(f,v)::r=>λa h=>by
  simp only[N3,Ow] at a;refine⟨h f v (by simp[iX,iY]),De a.2 λg u e=>h g u ?_⟩;have:g≠f:=λq=>by
   subst q;refine a.1 ?_;clear h a;induction r with
   |nil=>contradiction
   |cons p r c=>
    obtain⟨b,d⟩:=p;simp only[iX,iY] at e;by_cases q:g=b
    ·rw[q];exact .head _
    ·rw[Nl q] at e;exact .tail _ (c e)
  simp only[iX,iY];rw[Nl this];exact e
def D2:∀{fs},ji f fs=xV v->f∈fs.map (·.1):=by
 intro b;induction b with
 |nil=>intro e;contradiction
 |cons c r a=>
  obtain⟨g,u⟩:=c;intro e;simp only[iX,iY] at e;by_cases q:f=g
  ·rw[q];exact .head _
  ·rw[Nl q] at e;exact .tail _ (a e)
def t8(c):(aG c).Nodup:=by induction c<;>decide
def Trans.HN(T:Trans P W H s W₀ H₀ s₀)(i:H₀ a=xV (.inst c fs))(p:fs.map (·.1)=aG c)(Z:s.heap.get? (W₀.dx a)=Nm):
  ∃W',Trans P W H s W' (H₀.erase a) s₀/\VR P.w P.cA W'.fz (.obj c (fs.map (·.2))) (.ref a):=by
 have x:=T.hr;obtain⟨o,D,F,Y,M,m,C,V,I⟩:=x.live _ _ i;obtain⟨A,es,k,h5,N,U,O,L⟩:=C;haveI T1:=T.trans (Trans.freeze x i D);have g:aW W₀ H₀ (W₀.dx a):=.inr ⟨a,c,fs,i,rfl⟩;have n:W₀.dx a≠a:=λq=>by haveI:=x.apart a c fs i;rw[q,i] at this;contradiction
 haveI no:¬ f6 (W₀.add a o) (H₀.erase a) (W₀.dx a):=by
  rintro(p|⟨r,e⟩)
  ·refine ND (aW.erase p) (λl=>?_) (λh=>?_)
   ·have q:=(l).1
    refine ND (p) (λl=>?_) (λh=>?_)
    ·refine X1 l ?_;clear l;intro z e
     haveI e:(if W₀.dx a=a then Nm else H₀ (W₀.dx a))=xV z:=e;rw[Nl n,x.apart a c fs i] at e;contradiction
    ·refine gC h ?_;clear h;intro d B j e G
     haveI e:(if d=a then Nm else H₀ d)=xV (.inst B j):=e;by_cases u:d=a
     ·replace e:=(Np u)▸e;contradiction
     ·replace e:=(Nl u)▸e;exact u (x.inj d B j a c fs e i G)
   ·refine jc h ?_;clear h;intro d B j e u G
    exact u (x.inj d B j a c fs e i G)
  ·haveI e:(if W₀.dx a=a then xV o else W₀.fz (W₀.dx a))=xV r:=e
   rw[Nl n,x.dZ _ g] at e;exact nomatch e
 haveI Q:=T1.adopt (t:=s₀.toks) Z (x.fy _ g) no (PO _ s₀.heap) h5;refine⟨_,Q,?_⟩;haveI fa:((W₀.add a o).add (W₀.dx a) A).fz a=xV o:=by refine(?_:(if a=W₀.dx a then xV A else(W₀.add a o).fz a)=xV o);rw[Nl (OG n)];exact Wd.bP ..
 have X:∀b r,W₀.fz b=xV r->((W₀.add a o).add (W₀.dx a) A).fz b=xV r:=by
  intro b r e;have D:b≠a:=λq=>by rw[q,x.dZ a (.inl ⟨_,i⟩)] at e;exact nomatch e
  have F:b≠W₀.dx a:=λq=>by rw[q,x.dZ _ g] at e;exact nomatch e
  refine(?_:(if b=W₀.dx a then xV A else if b=a then xV o else W₀.fz b)=xV r);rw[Nl F];rw[Nl D];exact e
 refine⟨a,o,W₀.dx a,A,es,k,rfl,fa,F,Y,M,Wd.bP ..,N,U,λy K=>?_,by refine bB (NU p) ?_;simp,?_⟩
 ·rw[L] at K
  refine bo (I y K) λf v J E=>?_;exact⟨f,by refine bB (NU p) ?_;exact D2 E,J⟩
 ·refine bB (NU p) ?_
  refine De (by rw[p];exact t8 c) λf v e=>?_;refine ah (V f v e) λy J E=>?_;exact⟨y,(L _).trans J,E.mono X⟩
end
section
variable {P:bx}{K:PS}{mg mb:NX->Nt Nz}{n:Nu}{pe:NO}{nms:Ni NX}{A:Oj}{ρ:Env}{W W₀:Wd}{H H₀:ae}{s s₀:NJ}{X:Prop}
def zz(A:Oj)(C)(b):(A.under (.builtin "type.__call__" ⟨.ref C::b,[]⟩)).handled=A.handled/\(A.under (.builtin "type.__call__" ⟨.ref C::b,[]⟩)).depth<=A.depth+2 /\
  (A.under (.builtin "type.__call__" ⟨.ref C::b,[]⟩)).units<=A.units+8/\(A.under (.builtin "type.__call__" ⟨.ref C::b,[]⟩)).frames=A.frames:=
 ⟨rfl,by rw[depth_under_make];exact Ql _,by refine(?_:A.units+1<=_);exact adH,rfl⟩
structure JP(P:bx)(K:PS)(n:Nu)(c:eX)(ad:OO):Prop where
 keep:Xa K (.ref (P.cA c))=Nk
 makes:XK K (P.cA c)=Nk
 init:P0 K (.ref (P.cA c)) "__init__" = xV (xV (.ref ad))
 fn:TB K (.ref ad)=xV (.type "function")
 ok:cP P n (jG c) ad
set_option tactic.hygienic true in
def L8(pc:PC P K){ad:OO}(k:JP P K n c ad)(hr:HR P W H s.heap)(cx:Cx P A n W H s.heap)(Y:aB P.w P.cA W.fz vs xs)(q:∀a,H a=Nm->call n (jG c) (.ref a::vs) (H.set a (.inst c [])) (λv H=>v=.none/\match H a with
    |some (.inst j fs)=>j=c/\if bq c then fs.map (·.1)=aG c/\Q (.obj c (fs.map (·.2))) (H.erase a) else Q (.ref a) H
    | _=>OH) X):
  bk P A (Ot (.ref (P.cA c)) xs) (bC P W H s (SV P Q)) (cy P A W H s X) s:=by
 have u:=pc.here hr;have T:=Trans.inst hr c;have hN:s.heap.get? (s.heap.objs.size+1)=Nm:=by
  induction e:s.heap.get? (s.heap.objs.size+1) with
  |none=>rfl
  |some o=>exact NK (Oz e) (Pt.mpr (Ql _))
 have hH:H (s.heap.objs.size+1)=Nm:=by
  induction e:H (s.heap.objs.size+1) with
  |none=>rfl
  |some y=>refine X1 (hr.dm (.inl ⟨y,e⟩)) λo e'=>?_;rw[hN] at e';contradiction
 have F:=q _ hH;refine A4 (zz A (P.cA c) xs) λJ I G p=>?_;have C:=(cx.step T).under J I G p;have b:=k.ok (A.under (.builtin "type.__call__" ⟨.ref (P.cA c)::xs,[]⟩)) _ _ _ _ (.ref (s.heap.objs.size+1)::xs) _ X T.hr C (aB.cons (VR.qi _) (aB.mono T.mono _ _ Y)) F;clear q F C;obtain⟨h,g,d,t,os⟩:=s;refine RJ (make_core (makes_of u k.makes) (Sq u k.init) (λself=>bind_fn u self k.fn) (.inl rfl) (codeAny_mono b λr s' z=>?_));induction r with
 |error e=>refine Mine.A2 z λO m=>Mine.A2 m λZ m=>Mine.A2 m λh3 m=>Mine.A2 m λD h6=>?_;clear z;obtain⟨l,N,h5⟩:=D;exact cy.up T ⟨O,Z,h3,⟨l,p▸N,h5⟩,h6⟩
 |ok f=>
  induction f with
  |ret y=>
   obtain⟨W₂,H₂,i,v,M,rfl,q⟩:=z;refine⟨M.none_inv,?_⟩;split at q
   ·rename_i j fs hq
    refine A2 q ?_;clear q;intro x q;clear k J I G p b;subst x;have E:=T.trans i;by_cases L:bq j=Nk
    ·rw[Np L] at q
     refine A2 q ?_;clear q;intro e1 q;have B:W₂.dx (h.objs.size+1)=h.objs.size:=by
      have V:((h.push RK).push (SP (P.cA j) h.objs.size)).get? (h.objs.size+1)=xV (SP (P.cA j) h.objs.size):=by
       have:=Oy (o:=SP (P.cA j) h.objs.size) (h.push RK) rfl
       rwa [Pe] at this
      rw[i.dx _ ⟨_,V⟩];exact Np rfl
     refine ah (E.HN hq e1 (by rw[B];exact eK h)) λW₃ U r=>?_;exact⟨W₃,_,U,_,r,q⟩
    ·rw[Nl L] at q
     exact⟨W₂,H₂,E,_,VR.qi _,q⟩
   ·exact q.elim
  | _=>exact z.elim
def Mz(g:PG P mg mb)(pc:PC P K){ad}(b:JP P K n c ad)(j:mg x=xV (.ref (P.cA c)))(hk:pe.kindOf x=xV .globalImplicit)(hd:aK x=Nk)(e:es.all aR=Nk)(h:Bi P n pe nms es cs):SE P n pe nms (.Call (.Name x p) es [] pos) (.new c cs):=by intro A ρ W H s Q X a q;refine Call_Name rfl (dn a g hk j (SG (by rw[hG e];rfl) (λh X=>keeps_K b.keep h X) (b6 e ?_)) hd);refine cf (h A ρ W H s _ X a q pos) λW₁ H₁ s₁ ys t f=>Mine.a9 f λvs i _ q=>⟨pc.here t.hr,qT t (L8 pc b t.hr (a.cx.step t) i q)⟩
end
section
open PySem.Builtin PySem.Builtin.ObjectAttr
section
variable {w:Px}{A:Oj}{E:Nz->NJ->Prop}{h:Heap}{g:O8 Ua}{d:Drawn}{t:Nu}{os:QM}
variable {nm q:NX}{C N x:OO}{bs bm:Ni Nz}{sn:Ni NX}{sub:Ni Nz}{ab:NF}{col:Nt NF}{dd:Nt OO}{k0 k1 k2 k3 k5:Nt Nz}{mA:NX->Nt Nz}{name:NX}{v:Nz}{K:PS}
structure qV(bm:Ni Nz):Prop where
 exc:bm.contains (.type "Exception")=Nk
 noA:bm.contains (.type "AttributeError")=Nr
 noN:bm.contains (.type "NameError")=Nr
 base:bm.contains (.type "BaseException")=Nk
 obj:bm.contains (.type "object")=Nk
 pass:∀self:Nz,refuseLoop self "__setattr__" bm=pure ()
def Bz(T:qV bm)(b:h.get? C=xV (Qu nm q C N bs bm Nk sn sub ab col dd k0 k1 k2 k3 k5 "Exception.__new__"))(f:Q () ⟨h,g,d,t,os⟩):ON M A (QI "Exception.__new__" ⟨.ref C::rest,[]⟩) Q E ⟨h,g,d,t,os⟩:=by
 haveI c:=PA;haveI a:(PQ C::bm).contains (.type "Exception")=Nk:=by rw[QA];rw[T.exc];rw[Rt];rfl
 haveI e:=c.noStar;simp only[QI,c.newKind,c.newSplit,c.newRow]
 repeat (first|refine O2 b ?_|(refine PY b ?_;rewrite [a])|refine wpAny_staticBase_exc b ?_|refine VB b ?_|(rfl)|wp_step)
 exact f
def HG(T:qV bm)(b:h.get? C=xV (Qu nm q C N bs bm Nk sn sub ab col dd k0 k1 k2 k3 k5 "Exception.__new__"))(l:R (.ok (.ret (.ref (h.objs.size+1)))) ⟨(h.push { cls:=.type "tuple",data:=.seq rest.toArray }).push
   { cls:=.ref C,data:=.fields #[.ref h.objs.size,.none,.none,.none,.bool Nr,.none] },g,d,t,os⟩)(k:rest.length<=QX):
  UC (PJ prog w) A (.builtin "Exception.__new__" ⟨.ref C::rest,[]⟩) R ⟨h,g,d,t,os⟩:=by
 haveI a:=PA;haveI f:=a.ends;haveI c:(PQ C::bm).contains (.type "Exception")=Nk:=by rw[QA];rw[T.exc];rw[Rt];rfl
 haveI e:(PQ C::bm).contains (.type "AttributeError")=Nr:=by rw[QA];rw[T.noA];rfl
 haveI i:(PQ C::bm).contains (.type "NameError")=Nr:=by rw[QA];rw[T.noN];rfl
 refine codeAny_builtinAt a.entry (VU ?_);refine VU (PySem.wpAt_stack λp j=>UK ?_)
 wp_walk
 refine UK ?_;rw[a.owner]
 repeat (first|with_reducible refine wpAny_madeHere_exc a.canon b ?_|with_reducible refine O2 b ?_|(with_reducible refine PY b ?_;first|rewrite [c]|rewrite [e]|rewrite [i])|wp_step)
 refine(?_:R _ _);rw[Pe];exact l
def xP(T:qV bm)(j:h.get? C=xV (Qu nm q C N bs bm Nk sn sub ab col dd k0 k1 k2 k3 k5 "Exception.__new__"))(he:h.get? e=xV oe)(c:oe.cls=.ref C)(k:Q () ⟨h,g,d,t,os⟩):
  ON M A (QI "Exception.__init__" ⟨.ref e::rest,[]⟩) Q E ⟨h,g,d,t,os⟩:=by
 have F:=PA;have i:(PQ C::bm).contains (.type "Exception")=Nk:=by rw[QA];rw[T.exc];rw[Rt];rfl
 have f:=F.noStar;simp only[QI,F.initKind,F.initSplit,F.initRow]
 repeat (first|(with_reducible refine O2 he ?_;rewrite [c])|with_reducible refine O2 j ?_|(with_reducible refine PY j ?_;rewrite [i])|wp_step)
 refine WB ?_;rw[show ∀a b n,Bind.check ⟨.positional, "*", "Exception",.self,[⟨"args",.varPos,Nr⟩]⟩ a b n (Wn (λx=>x.fst) ({ pos:=PQ e::rest }:Args).kw)=pure () from
  λa b n=>check_star_args _ _ _ _ _ _]
 exact NC k
def DQ(T:qV bm)(l:h.get? C=xV (Qu nm q C N bs bm Nk sn sub ab col dd k0 k1 k2 k3 k5 "Exception.__new__"))(he:h.get? e=xV oe)(c:oe.cls=.ref C)(i:oe.data=.fields #[.ref t0,.none,.none,.none,.bool Nr,.none])(n:∀j,(∀b o,b≠e->h.get? b=xV o->j.get? b=xV o)->j.get? e=xV { oe with data:=.fields #[.ref h.objs.size,.none,.none,.none,.bool Nr,.none] }->Q .none ⟨j,g,d,t,os⟩):
  ON (PJ prog w) A (Ot (.builtin "Exception.__init__") [.ref e,y]) Q E ⟨h,g,d,t,os⟩:=by
 haveI F:=PA;haveI f:=NI { cls:=.type "tuple",data:=.seq #[y] } he;obtain⟨s,u,m,r⟩:=oe;dsimp only at i c;subst i c;refine RJ (Up F.init.plain F.initEntry (xP T l he rfl ?_))
 wp_walk
 refine n _ (λb o p k=>?_) ?_
 ·rw[Rq _ _ (OG p)];exact NI _ k
 ·rw[Pa _ f rfl]
  rfl
def Ad(T:qV bm)(X:K.In h)(Z:h.get? C=xV (Qu nm q C N bs bm Nk sn sub ab col dd k0 k1 k2 k3 k5 "Exception.__new__"))(n:P0 K (.ref C) "__setattr__" = xV (xV (.builtin "object.__setattr__")))(ha:P0 K (.ref C) name=xV Nm)(I:h.Inst x C mA)(hw:Within mA ns)(hsz:ns.length<=1000)(P:∀m tk',m.Inst x C (λy=>if y=name then xV v else mA y) ->
   (∀b o,b≠x->(∀a dx,h.get? x=xV a->a.dict=xV dx->b≠dx)->h.get? b=xV o->m.get? b=xV o) ->
   (∀a,h.get? x=xV a->∃f,m.get? x=xV f/\f.cls=a.cls/\f.data=a.data/\(∀dx,f.dict=xV dx->a.dict=xV dx\/h.get? dx=Nm))->Q () ⟨m,g,d,tk',os⟩):
  ON (PJ prog w) A (setAttr (.ref x) name v) Q E ⟨h,g,d,t,os⟩:=by
 refine iu I ?_;clear I;intro o l O j hd;have G:=PySem.F.store_object;have SE:=PySem.F.store_Exception;have ty:WN (PJ prog w) h (WY (.ref x)) (.ref C):=(WN.ld l).andThen (by rw[O];exact .now);refine Nq (Vb (Nq (Nq (Nq (ty _ _ _ _ (λ_ _ e=>e) (Sq X n _ _ _ _ (λ_ _ e=>e) (OW ?_)))))));rw[G.slot.bind];refine Nq (NC (Nq (RJ ?_)));have U:(PQ C::bm).contains (.type "object")=Nk:=by rw[QA];rw[T.obj];rw[Rt];rfl
 refine Up G.slot.plain G.entry ?_;have chk:∀{M:VK}{A:Oj}{E:Nz->NJ->Prop}{cV:Nz}{Q:Unit->NJ->Prop}{t:Nu},Q () ⟨h,g,d,t,os⟩->ON M A (QI "object.__setattr__" ⟨[.ref x,cV,v],[]⟩) Q E ⟨h,g,d,t,os⟩:=by
  intro M A E cV Q t P;have ha:=G.args (.ref x) cV v;simp only[QI,G.kind,G.split];refine Nq ?_;unfold isInstance
  repeat (first|(with_reducible refine O2 l ?_;rewrite [O])|(with_reducible refine PY Z ?_;rewrite [U])|wp_step)
  exact P
 refine chk ?_;have p:=T.pass (.ref x);refine(?_:ON _ _ (Pq.«object.__setattr__» ⟨[.ref x,.str name t,v],[]⟩) _ _ _);rw[osa_eq];rw[refuse_eq];refine Nq (Nq (ty.here (Nq (wpAny_mroOf_exc Z ?_))));rw[refuseLoop_ref];rw[p];refine NC (Nq (ty.here (Nq ((Sq X ha).here (Nq (NC ?_))))));dsimp only;unfold storeInOwnDict ownDictForStores instanceDict;obtain⟨oc,odi,z,H⟩:=o;dsimp only at O hd j;subst O;have hld:WN (PJ prog w) h (classData C) { name:=nm,bases:=bs,mro:=.ref C::bm,ns:=N,qualname:=q,hasDict:=true,slotNames:=sn,subclasses:=sub,abstract:=ab,collection:=col,hasDel:=false }:=by unfold classData;exact(WN.ld Z).andThen .now
 refine Nq (NC (Nq (Nq (Wq l (Nq (hld.here ?_))))));rcases hd with⟨rfl,hmA⟩|⟨dx,rfl,B,W⟩
 ·dsimp only
  rw[Nl (by decide)];rw[Nl (by intro h;injection h)];have c:(h.push { cls:=.type "dict",data:=.dict #[] }).get? x=xV ⟨.ref C,Nm,z,H⟩:=NI _ l;have r:=OV (Oz l);split
  ·exact NK rfl (j _)
  refine Nq (wpAny_alloc' ?_);refine Nq (wpAny_update' c ?_);refine NC ?_;have hfr:=(Heap.get?_some_iff.mp l).2;have hgd:((h.push { cls:=.type "dict",data:=.dict #[] }).update x λo=>{ cls:=o.cls,dict:=xV h.objs.size,data:=o.data,slots:=o.slots }).get? h.objs.size
    = xV { cls:=.type "dict",data:=.dict #[] }:=
   (UL _ _ _ _ r.symm).trans (Heap.get?_push_at rfl rfl)
  have V:((h.push { cls:=.type "dict",data:=.dict #[] }).update x λo=>{ cls:=o.cls,dict:=xV h.objs.size,data:=o.data,slots:=o.slots }).Ns h.objs.size (λ_=>Nm):=
   ⟨_,#[],_,hgd,rfl,λe he=>NK he (by simp),λ_=>rfl⟩
  refine(?_:ON _ _ (storeInDict h.objs.size (.str name t) name v) _ _ _);unfold storeInDict newKeyGuard;refine Nq (NC (Nq (Vl (Heap.Ns1.of_empty V) λm k n=>?_)));refine jc (k.count (Within.cons name v Within.nil)) λoD esD epD u s D=>?_;refine Nq (Tf u (by rw[s];exact Tg (Nj D (by rw[Nn];rw[NL];rw[O0];exact QG _))) ?_);refine NC (NC (NC ?_));have J:m.get? x=xV { cls:=.ref C,dict:=xV h.objs.size,data:=z,slots:=H }:=by refine(n.2 x r).trans (Pa _ c ?_);clear j l c x_3;induction z<;>first|rfl|exact hfr
  refine P m _ ⟨_,J,rfl,j,.inr ⟨h.objs.size,rfl,r.symm,?_⟩⟩ (λb ob hbx _ L=>?_)
   (λa i=>by obtain rfl:=N1 (l.symm.trans i);exact⟨_,J,rfl,rfl,λdx e=>by injection e with e;subst e;exact .inr (eK h)⟩)
  ·refine Mine.jc k λo' es ep e1 e2 z2_=>?_;refine Mine.A3 z2_ λe3 eu e4=>?_
   exact⟨o',es,ep,e1,e2,e3,eu,λy=>by rw[e4 y];by_cases hy:y=name<;>simp[hy,hmA]⟩
  ·exact(n.2 b (OV (Oz L))).trans ((UL _ _ _ _ hbx).trans (NI _ L))
 ·dsimp only
  rw[Nl (by decide)];refine NC ?_;refine(?_:ON _ _ (storeInDict dx (.str name t) name v) _ _ _);unfold storeInDict newKeyGuard;refine Nq (NC (Nq (Vl W λm k n=>?_)));refine jc (k.count (Within.cons name v hw)) λoD esD epD u s D=>?_;refine Nq (Tf u (by rw[s];exact Tg (Nj D (by rw[Nn];rw[O0];exact Nx hsz (by decide)))) ?_);refine NC (NC (NC ?_));refine P m _ ⟨_,(n.2 x B.symm).trans l,rfl,j,.inr ⟨dx,rfl,B,k⟩⟩ (λb ob _ Y L=>?_)
   (λa i=>⟨a,(n.2 x B.symm).trans i,rfl,rfl,λ_ e=>.inl e⟩)
  exact(n.2 b (Y _ dx l rfl)).trans L
end
end
section
open PySem.Builtin PySem.Builtin.ObjectAttr
section
variable {w:Px}{A:Oj}{E:Nz->NJ->Prop}{h:Heap}{g:O8 Ua}{d:Drawn}{t:Nu}{os:QM}
variable {nm q:NX}{C N x:OO}{bs bm:Ni Nz}{sn:Ni NX}{sub:Ni Nz}{ab:NF}{col:Nt NF}{dd:Nt OO}{k0 k1 k2 k3 k5:Nt Nz}{mA:NX->Nt Nz}{name:NX}{v:Nz}{K:PS}
noncomputable abbrev lO(C t:OO):VW:={ cls:=.ref C,data:=.fields #[.ref t,.none,.none,.none,.bool Nr,.none] }
def DS(T:qV bm)(X:K.In h)(j:h.get? C=xV (Qu nm q C N bs bm Nk sn sub ab col dd k0 k1 k2 k3 k5 "Exception.__new__"))(hi:P0 K (.ref C) "__init__" = xV (xV (.ref fI)))(s:TB K (.ref fI)=xV (.type "function"))(p:∀k e t0,(∀b o,h.get? b=xV o->k.get? b=xV o)->h.get? e=Nm->k.get? e=xV (lO C t0) ->
   ON (PJ prog w) A (Ot (.ref fI) (.ref e::rest)) (λr s'=>r=.none/\Q (.done (.ret (.ref e))) s') E ⟨k,g,d,t,os⟩)(f:rest.length<=QX):
  ON (PJ prog w) A (Pq.«type.__call__» ⟨.ref C::rest,[]⟩) Q E ⟨h,g,d,t,os⟩:=by
 haveI F:=PA
 repeat (first|with_reducible refine O2 j ?_|with_reducible refine VB j ?_|wp_step)
 refine codeAny_call_builtin_code (Code.quiet_builtin _ F.quiet) (Bz T j ?_);refine HG T j ?_ f;have keep:∀b o,h.get? b=xV o->((h.push { cls:=.type "tuple",data:=.seq rest.toArray }).push (lO C h.objs.size)).get? b=xV o:=λb o e=>NI _ (NI _ e);haveI i:=keep _ _ j;haveI c:=X.keeps keep;haveI a:((h.push { cls:=.type "tuple",data:=.seq rest.toArray }).push (lO C h.objs.size)).get? (h.objs.size+1)=xV (lO C h.objs.size):=by heap_get
 haveI m:(PQ C::bm).contains (.ref C)=Nk:=by simp
 repeat (first|with_reducible refine O2 a ?_|(with_reducible refine PY i ?_;rewrite [m])|wp_step)
 refine(Sq c hi).here ?_;refine OW (Nq ((bind_fn c _ s).here ?_));refine Nq (N4 (p _ (h.objs.size+1) h.objs.size keep (Heap.get?_none_of_le (Ql _)) a) (λr s' hr=>?_) λ_ _ x=>x);refine A2 hr ?_;clear hr;intro l n;subst l
 wp_walk
 exact n
def DR(T:qV bm)(X:K.In h)(f:h.get? C=xV (Qu nm q C N bs bm Nk sn sub ab col dd k0 k1 k2 k3 k5 "Exception.__new__"))(hi:P0 K (.ref C) "__init__" = xV (xV (.ref fI)))(m:TB K (.ref fI)=xV (.type "function"))(l:∀c e t0,(∀b o,h.get? b=xV o->c.get? b=xV o)->h.get? e=Nm->c.get? e=xV (lO C t0) ->
   ON (PJ prog w) (A.under (.builtin "type.__call__" ⟨.ref C::rest,[]⟩)) (Ot (.ref fI) (.ref e::rest)) (λr s'=>r=.none/\Q (.ref e) s') E ⟨c,g,d,t,os⟩)(a:rest.length<=QX):
  ON (PJ prog w) A (Ot (.ref C) rest) Q E ⟨h,g,d,t,os⟩:=by
 haveI s:=tc_lookup;haveI n:=PySem.tc_bind (.ref C);haveI p:(⟨h,g,d,t,os⟩ : NJ).TypeIs (.ref C) "type" :=⟨_,f,rfl⟩;refine RJ (codeAny_of_tree ?_);refine(?_:ON _ _ (callAny (.ref C) _) _ _ _)
 repeat (any_goals (first|assumption|with_reducible refine O2 f ?_|wp_step))
 refine⟨rfl,?_⟩;refine codeAny_call_builtin_at (Code.quiet_builtin _ (by decide +kernel)) entry_typeCall (wpAny_check_type_call_sub f (DS T X f hi m (λc e t0 i j k=>?_) a));exact l c e t0 i j k
end
end
section
variable {w:Px}{A:Oj}{E:Nz->NJ->Prop}{s:NJ}{pe:NO}{K:PS}
def By(k:eQ o=Nk)(j:args.all aR=Nk)(d:args.length<29)(g:(apos.endLine==pos.line)=Nk)(h:ON (PJ prog w) A (eval o pe) (λi s₁=>∀l:XQ NF,ON (PJ prog w) A (WO i name l) (λr s₂=>ON (PJ prog w) A (Wk pos r.1 r.2 (Rl pos (PW args pe)) []) Q E s₂) E s₁) E s):
  ON (PJ prog w) A (eval (.Call (.Attribute o name apos) args [] pos) pe) Q E s:=by
 rw[WC];rw[gE k];refine Nq (N4 h (λi s₁ f=>?_) λ_ _ e=>e);refine Nq (PH ?_);haveI a:Sw (args.length+([]:Ni XJ).length) (Rl pos (PW args pe)) (backToKw pos (keywordEach [] pe))=Nk:=by unfold Sw;rw[me j];exact NP (Q7 d)
 haveI b:S3 Nk o pe apos pos=pure pos:=by unfold S3;exact(Np ‹_›)
 unfold methodCall;rw[a];exact Nq (OW (N4 (f _) (λr s₂ c=>Nq (P5 b c)) λ_ _ z=>z))
def t7(X:K.In s.heap)(e:Xb K (.type "Exception") (.type "type") "__init__" = xV (.val (.builtin "Exception.__init__")))(h:Q (.builtin "Exception.__init__",[]) { s with toks:=s.toks+1 }):ON (PJ prog w) A (WO (.type "Exception") "__init__" pl) Q E s:=by
 haveI a:Ti (.type "Exception")=pure Nm:=by unfold Ti;rfl
 haveI f:WY (.type "Exception")=pure (.type "type"):=by kernel_rfl
 haveI c:WN (PJ prog w) s.heap (WY (.type "Exception")) (.type "type"):=RP f;haveI b:P0 K (.type "type") "__getattribute__" = xV (xV (.builtin "type.__getattribute__")):=type_tga;refine Nq (Nq (c.here ((Sq X b).here ?_)));refine Nq (N4 ?_ (λ_ _ z=>NC z) λ_ _ z=>z);haveI d:WN (PJ prog w) s.heap (Ti (.type "Exception")) Nm:=RP a;refine cls_open X d c b (looks_hook X (by rfl)) (by rfl) e
  (NC (by refine(?_:ON _ _ (handedOut _) _ _ _);exact NC h))
end
inductive yZ:Ni QS->Prop
 |mk (q0 q1 q2 q3 q4 q5 q6 q7 q8 q9 q10 q11 q12 q13:XM) (hl:(q1.endLine==q4.line)=Nk):yZ
   [.Expr (.Call (.Attribute (.Name "Exception" q0) "__init__" q1) [.Name "self" q2,.Name "what" q3] [] q4) q5,
    .Assign [.Attribute (.Name "self" q6) "what" q7] (.Name "what" q8) q9,
    .Assign [.Attribute (.Name "self" q10) "at" q11] (.Name "at" q12) q13]
inductive Nh(C:OO)(r:Nt VW):Prop
 |mk (nm q N bs bm sn sub ab col dd k0 k1 k2 k3 k5:_) (h:r=xV (Qu nm q C N bs bm Nk sn sub ab col dd k0 k1 k2 k3 k5 "Exception.__new__")) (t:qV bm)
structure PX(P:bx)(K:PS)(fI:OO)(fd:Th)(body:Ni QS):Prop where
 cls:Nh P.qR (P.B0.get? P.qR)
 init:P0 K (.ref P.qR) "__init__" = xV (xV (.ref fI))
 fn:TB K (.ref fI)=xV (.type "function")
 sa:P0 K (.ref P.qR) "__setattr__" = xV (xV (.builtin "object.__setattr__"))
 noW:P0 K (.ref P.qR) "what" = xV Nm
 aca:P0 K (.ref P.qR) "at" = xV Nm
 ei:Xb K (.type "Exception") (.type "type") "__init__" = xV (.val (.builtin "Exception.__init__"))
 keep:Xa K (.ref P.qR)=Nk
 obj:∃o,P.B0.get? fI=xV o/\o.data=.func fd
 bod:fd.body=.stmts body
 pe:yZ body
 code:P.B0.CodeRec fd.code fd.qualname
 co:fd.scope.isCoroutine=Nr
 gen:fd.scope.isGenerator=Nr
 kind:fd.scope.kind=.function
 Du:fd.closure=[]
 yv:fd.globals=O3
 blt:fd.builtins=Q9
 names:fd.scope.names.lookup ("self" : NX)=xV .local/\fd.scope.names.lookup ("what" : NX)=xV .local/\fd.scope.names.lookup ("at" : NX)=xV .local/\fd.scope.names.lookup ("Exception" : NX)=xV .globalImplicit
 bind:∀(s:NJ)(x y z:Nz),(∀b o,P.B0.get? b=xV o->s.heap.get? b=xV o)->VZ s fd ⟨[x,y,z],[]⟩ [("self",x),("what",y),("at",z)]
section
variable {P:bx}{K:PS}{mg mb:NX->Nt Nz}{A:Oj}{E:Nz->NJ->Prop}{s:NJ}
def IP(pc:PC P K)(g:PG P mg mb)(px:PX P K fI fd body){Q:NJ->Prop}(u:∀b o,P.B0.get? b=xV o->s.heap.get? b=xV o)(hne:P.B0.get? e=Nm)(he:s.heap.get? e=xV (lO P.qR t0))(hd:A.depth+2<=950)(hq:∀h' tk,(∀b o,b≠e->s.heap.get? b=xV o->h'.get? b=xV o)->(∃o vs a0,h'.get? e=xV o/\o.cls=.ref P.qR/\o.data=.fields vs/\vs[1]?=xV .none/\vs[0]?=xV a0)->Q { s with heap:=h',toks:=tk }):
  ON (PJ prog P.w) A (Ot (.ref fI) [.ref e,x,y]) (λr s'=>r=.none/\Q s') E s:=by
 obtain⟨nm,q,N,bs,bm,sn,sub,ab,col,dd,k0,k1,k2,k3,k5,hC,T⟩:=px.cls;refine ah px.obj λo ho hdat=>?_;refine A4 px.names λn1 n2 n3 n4=>?_;refine RJ (TU (by unfold Wt;exact Pf (NY hd (by decide))) (u _ _ ho) hdat px.co px.gen px.bod (px.code.keeps u) (px.bind s _ _ _ u _ _ _ _ ?_));rw[px.Du];refine wpAny_newFunctionEnv_cells px.kind (λz hz=>.inl ?_) λenv p s₁ xx=>?_
 ·simp only[NH,SI,Wo] at hz
  rcases hz with rfl|rfl|rfl
  ·exact n1
  ·exact n2
  ·exact n3
 haveI e1:env.locals=s.heap.objs.size:=by rw[p];rfl
 haveI e3:env.scope=fd.scope:=by rw[p];rfl
 haveI e4:env.globals=O3:=by rw[p];exact px.yv
 haveI e5:env.builtins=Q9:=by rw[p];exact px.blt
 haveI ek:∀y,env.kindOf y=fd.scope.names.lookup y:=by intro y;refine(?_:env.scope.names.lookup y=_);rw[e3];rfl
 haveI hk:env.scope.kind=.function:=by rw[e3];exact px.kind
 clear p;obtain⟨z0_,t,a,-⟩:=xx.toInCall;refine X2 z0_ ?_;clear z0_;intro h₁ tk hs1;clear xx;subst hs1;haveI m1:Ud env.kindOf [("self",PQ e),("what",x),("at",y)] (λ_=>Nm) "self" = xV (.ref e):=iw (by rw[ek];exact n1) (by show[("self" : NX), "what", "at"].Nodup;decide +kernel) (by simp);haveI m2:Ud env.kindOf [("self",PQ e),("what",x),("at",y)] (λ_=>Nm) "what" = xV x:=iw (by rw[ek];exact n2) (by show[("self" : NX), "what", "at"].Nodup;decide +kernel) (by simp);haveI m3:Ud env.kindOf [("self",PQ e),("what",x),("at",y)] (λ_=>Nm) "at" = xV y:=iw (by rw[ek];exact n3) (by show[("self" : NX), "what", "at"].Nodup;decide +kernel) (by simp);generalize Ud env.kindOf [("self",PQ e),("what",x),("at",y)] (λ_=>Nm)=m at t m1 m2 m3;haveI hLe:env.locals≠e:=by rw[e1];intro q;haveI:=Oz he;replace this:=(q)▸this;exact P4 _ this
 haveI i:∀b o,P.B0.get? b=xV o->h₁.get? b=xV o:=λb o z=>a _ _ (u _ _ z);haveI ne0:∀{b o},P.B0.get? b=xV o->b≠e:=λz q=>by rw[q,hne] at z;exact nomatch z
 haveI he₁:=a _ _ he;refine⟨g.lim.keeps i,W9 ?_⟩;obtain⟨q0,q1,q2,q3,q4,q5,q6,q7,q8,q9,q10,q11,q12,q13,hline⟩:=px.pe;haveI nl:∀{n}{v}{pos}{s'}{A'}{Q}{E},fd.scope.names.lookup n=xV .local->m n=xV v->s'.heap.Ns env.locals m->aK n=Nk->Q v s'->ON (PJ prog P.w) A' (eval (.Name n pos) env) Q E s':=
  λh1 h2 h3 h4 h5=>wpAny_Name (Ug hk (by rw[ek];exact h1) h3 h2 h5) (by simpa [aK] using h4)
 refine P8 (wpAny_Expr ?_ (by unfold SO;rw[hk];rfl) rfl);refine By rfl rfl (by simp) hline ?_;haveI bi:=g.bi "Exception" (.type "Exception") (by(decide));refine RQ hk (by rw[ek];exact n4) (UY (by rw[e4];exact g.g.keeps i) bi.1 (by rw[e5];exact g.b.keeps i) bi.2 ?_) (by decide +kernel);intro pl;refine t7 (λb o z=>i _ _ (pc.iF _ _ z)) px.ei ?_;refine SG (P:=λ_=>Sl) rfl (λh _=>⟨.machine,.inr (.inl rfl),RP rfl⟩) (b6 rfl ?_);refine Sn (nl n1 m1 t (by decide +kernel) (Sn (nl n2 m2 t (by decide +kernel) (Uh ⟨trivial,?_⟩))));refine DQ T (i _ _ hC) he₁ rfl rfl λd k2 f2=>?_;haveI k:=t.at (λo z=>k2 _ _ hLe z);haveI hB2:∀b o,P.B0.get? b=xV o->d.get? b=xV o:=λb o z=>k2 _ _ (ne0 z) (i _ _ z);refine P8 (QC (nl n2 m2 k (by decide +kernel) (nl n1 m1 k (by decide +kernel) ?_)) rfl);refine Ad T (λb o z=>hB2 _ _ (pc.iF _ _ z)) (hB2 _ _ hC) px.sa px.noW ⟨_,f2,rfl,(λc z=>by contradiction),.inl ⟨rfl,λ_=>rfl⟩⟩ Within.nil (by decide) λj tk₃ I₃ k3 d3=>?_;have k3':∀b o,b≠e->d.get? b=xV o->j.get? b=xV o:=λb o z1 z2=>k3 b o z1 (λo₀ dx l z4=>by replace l:=(f2)▸l;injection l with l;subst l;contradiction) z2;haveI hns3:=k.at (λo z=>k3' _ _ hLe z);haveI hB3:∀b o,P.B0.get? b=xV o->j.get? b=xV o:=λb o z=>k3' _ _ (ne0 z) (hB2 _ _ z);refine iu (d3 _ f2) λo3 f3 c3 da3 di3=>?_;refine P8 (QC (nl n3 m3 hns3 (by decide +kernel) (nl n1 m1 hns3 (by decide +kernel) ?_)) rfl);refine Ad T (λb o z=>hB3 _ _ (pc.iF _ _ z)) (hB3 _ _ hC) px.sa px.aca I₃ (Within.cons "what" x Within.nil) (by decide) λh₄ tk₄ I₄ k4 d4=>?_;haveI k4':∀b o,b≠e->d.get? b=xV o->h₄.get? b=xV o:=λb o z1 z2=>k4 b o z1 (λo₀ dx l z4=>by
  replace l:=(f3)▸l;injection l with l;subst l
  refine ND (di3 dx z4) (λz=>?_) (λz=>?_)
  ·contradiction
  ·intro q;rw[q,z] at z2;exact nomatch z2) (k3' _ _ z1 z2)
 refine iu (d4 _ f3) λo4 f4 c4 da4 di4=>?_;refine PU ⟨rfl,?_⟩;exact hq h₄ _ (λb o z1 z2=>k4' _ _ z1 (k2 _ _ z1 (a _ _ z2))) ⟨o4,_,_,f4,c4.trans c3,da4.trans da3,rfl,rfl⟩
end
section
variable {M:VK}{A:Oj}{E:Nz->NJ->Prop}{pe:NO}
variable {nm q:NX}{C N x:OO}{bs bm:Ni Nz}{sn:Ni NX}{sub:Ni Nz}{ab:NF}{col:Nt NF}{dd:Nt OO}{k0 k1 k2 k3 k5:Nt Nz}
def y9{x:XQ Nz}(T:qV bm)(n:A.handled=Nm)(h:ON M A x (λv s₁=>∃e f vs,v=.ref e/\s₁.heap.get? C=xV (Qu nm q C N bs bm Nk sn sub ab col dd k0 k1 k2 k3 k5 "Exception.__new__") /\
   s₁.heap.get? e=xV f/\f.cls=.ref C/\f.data=.fields vs/\vs[1]?=xV .none/\E (.ref e) s₁) E s):
  ON M A (raiseStmt pe (xV x) Nm) Q E s:=by
 haveI i:(PQ C::bm).contains (.type "BaseException")=Nk:=by rw[QA];rw[T.base];rw[Rt];rfl
 refine Nq (N4 h (λv s₁ a=>?_) λ_ _ x=>x);refine Mine.bO a λe f vs j k he c=>?_;refine Mine.A4 c λb hd l r=>?_;clear a;subst j;obtain⟨m,g,d,tk,os⟩:=s₁;obtain⟨t,u,p,o⟩:=f;dsimp only at b hd;clear c;subst b hd;haveI w:∀{Q},Q .none ⟨m,g,d,tk,os⟩->ON M A (field (.ref e) 1) Q E ⟨m,g,d,tk,os⟩:=λq=>SK he rfl l q
 repeat (first|with_reducible refine O2 he ?_|with_reducible refine O2 k ?_|(with_reducible refine PY k ?_;rewrite [i])|wp_step)
 rw[l];exact NC (NC (wpAny_raiseNew_none n r))
end
section
variable {P:bx}{K:PS}{mg mb:NX->Nt Nz}{n:Nu}{pe:NO}{nms:Ni NX}
def aeS:∀{l:Ni α},l.length=2->∃a b,l=[a,b]:=by
 intro l h;induction l with
 |nil=>contradiction
 |cons a l=>
 clear tail_ih;induction l with
 |nil=>exact NK h (OV (Oe 1))
 |cons b l=>exact⟨a,b,by rw[Sx.mp (Q3 (Q3 h))];rfl⟩
def F6(g:PG P mg mb)(pc:PC P K)(px:PX P K fI fd body)(hx:mg x=xV (.ref P.qR))(hk:pe.kindOf x=xV .globalImplicit)(hd:aK x=Nk)(hs:aR m=Nk)(w:aR e=Nk)(hm:SE P n pe nms m (.lit cm))(he:SE P n pe nms e c):SS P n pe nms (.Raise (xV (.Call (.Name x np) [m,e] [] cpos)) Nm pos) (.fault c):=by
 intro A ρ W H s N R Kc X f0 a q;obtain⟨nm,M,Y,bs,bm,sn,sub,ab,col,dd,k0,k1,k2,k3,k5,J,T⟩:=px.cls;refine Nq (PH (y9 (C:=P.qR) (nm:=nm) (q:=M) (N:=Y) (bs:=bs) (sn:=sn) (sub:=sub) (ab:=ab) (col:=col) (dd:=dd) (k0:=k0) (k1:=k1) (k2:=k2) (k3:=k3) (k5:=k5) T a.cx.hd ?_));haveI f:[m,e].all aR=Nk:=by simp[hs,w]
 haveI args:=
  qD hs hm (qD w he AU) A ρ W H s (λvs H=>X) X a q cpos
 refine Nq (N4 (Q:=λv s₁=>∃e G vs,v=.ref e/\s₁.heap.get? P.qR=xV (Qu nm M P.qR Y bs bm Nk sn sub ab col dd k0 k1 k2 k3 k5 "Exception.__new__") /\
   s₁.heap.get? e=xV G/\G.cls=.ref P.qR/\G.data=.fields vs/\vs[1]?=xV .none/\fO P A pe W H s X (.ref e) s₁) (E:=fO P A pe W H s X) ?_ (λv s₃ p=>Nq (PH (NC p))) λ_ _ z=>z)
 refine Call_Name rfl (dn a g hk hx (SG (P:=K.In) (by rw[hG (pos:=cpos) (pe:=pe) f];rfl) (λh X=>keeps_K px.keep h X) (b6 f ?_)) hd);refine N4 args (λys s₁ z=>?_) λ_ _ z=>fO.of z;refine Mine.bo z λW₁ H₁ t i=>?_;refine Mine.a9 i λvs hv hl hX=>?_;have hr:=t.hr;have C1:=a.cx.step t;refine⟨pc.here hr,?_⟩;haveI j:=hv.length;replace j:=(hl)▸j;refine X2 (aeS j) λy1 y2 e_=>?_;rw[e_]
 ·obtain⟨hh,gg,d,tk,os⟩:=s₁
  refine DR (K:=K) T (pc.here hr) (hr.lS J) px.init px.fn (λV ex t0 r k f1=>?_) (by rw[O0];simp);have I:P.B0.get? ex=Nm:=by
   induction D:P.B0.get? ex with
   |none=>rfl
   |some o=>replace k:=(hr.lS D)▸k;exact nomatch k
  haveI kB:∀b o,P.B0.get? b=xV o->V.get? b=xV o:=λb o z=>r _ _ (hr.lS z);refine IP pc g px (s:=⟨V,gg,d,tk,os⟩) kB I f1 ?_ λF tk' k2 f2=>?_
  ·rw[depth_under_make];haveI:=a.cx.depth;exact cj [R0 (zp (zp V0 (zm 4 V1)) (zc 2)) (zc 900)] (zp (S1 V0) (zc 2)) (zc 950) rfl this
  refine Mine.bO f2 λo u a0 L U O i=>?_;refine Mine.A2 i λZ g5=>?_;have y:∀b o,hh.get? b=xV o->F.get? b=xV o:=λb o z=>k2 b o (λq=>by rw[q,k] at z;contradiction) (r _ _ z);refine⟨ex,o,u,rfl,y _ _ (hr.lS J),L,U,O,Z,?_⟩;refine fO.up (.of t) (fO.of ⟨hX,rfl,rfl,?_,λb o _ z _=>⟨o.slots,y _ _ z⟩⟩);refine a9 C1.frames λl l1 l2 l3=>?_;refine⟨l,l1,.new ex a0 rfl (λb o z=>y _ _ (hr.base _ _ z)) ?_ (l2.of_keeps λb o z _=>⟨o,y _ _ z,rfl⟩) o u L U O Z g5⟩;induction D:P.B.get? ex with
  |none=>rfl
  |some o=>replace k:=(hr.base _ _ D)▸k;exact nomatch k
end
noncomputable def fE(cs:Ni (NX×OO)):Ni (NX×RU)->Ni (NX×OO)->Ni (NX×OO)
 |[],acc=>acc
 |(n,k)::r,acc=>if k==.free then(cs.lookup n).elim [] (λa=>fE cs r ((n,a)::acc)) else fE cs r acc
section
variable {cs acc:Ni (NX×OO)}{n:NX}{k:RU}{r:Ni (NX×RU)}
def j9(h:(k==Pm)=Nk)(e:cs.lookup n=xV a):fE cs ((n,k)::r) acc=fE cs r ((n,a)::acc):=(Np h).trans (by rw[e];rfl)
def Hd(h:(k==Pm)=Nk)(e:cs.lookup n=Nm):fE cs ((n,k)::r) acc=[]:=(Np h).trans (by rw[e];rfl)
def nJ(h:(k==Pm)=Nr):fE cs ((n,k)::r) acc=fE cs r acc:=Nl (by rw[h];decide)
end
def Dv(f)(i:∀name kind cs,f (name,kind) cs=if kind==.free then(do let a <- cellOf env name;pure (.yield ((name,a)::cs))) else pure (.yield cs)):
  ∀names acc,(∀x∈names,x.2=.free->(env.cells.lookup x.1).isSome=Nk)->forIn names acc f=pure (fE env.cells names acc):=by
 intro c;induction c with
 |nil=>intro acc _;rfl
 |cons d r b=>
  obtain⟨n,k⟩:=d;intro acc h;rw[Wc];rw[i];haveI hr:∀x∈r,x.2=.free->(env.cells.lookup x.1).isSome=Nk:=λx g=>h x (NB _ g);induction hk:(k==Pm) with
  |true=>
   refine X1 (Qm.mp (h (n,k) (.head _) (Ob.mp hk))) λa e=>?_;rw[j9 hk e];haveI:cellOf env n=pure a:=by unfold cellOf;rw[e];rfl
   rw[this];exact b _ hr
  |false=>rw[nJ hk];exact b _ hr
def jk(h:∀x∈scope.names,x.2=.free->(env.cells.lookup x.1).isSome=Nk):closureFor scope env=pure (fE env.cells scope.names []):=by
 dsimp only[closureFor];rewrite [Dv _ (λname kind cs=>?_) scope.names [] h]
 ·rfl
 ·induction hk:(kind==Pm)<;>(rfl)
def BC:∀{names}{acc},(∀y b,acc.lookup y=xV b->cs.lookup y=xV b)->(fE cs names acc).lookup x=xV a->cs.lookup x=xV a:=by
 intro i;induction i with
 |nil=>intro acc h e;exact h _ _ e
 |cons j r d=>
  obtain⟨n,k⟩:=j;intro acc h e;induction hk:(k==Pm) with
  |false=>rw[nJ hk] at e;exact d h e
  |true=>
   induction l:cs.lookup n with
   |none=>rw[Hd hk l] at e;contradiction
   |some b=>
    rw[j9 hk l] at e;refine d (λy c f=>?_) e;rw[Py] at f;induction g:y==n with
    |true=>replace f:=(g)▸f;injection f with f;subst f;rw[Ob.mp g];exact l
    |false=>rw[g] at f;exact h _ _ f
def BB:∀{names}{acc},(∀x∈names,x.2=.free->(cs.lookup x.1).isSome=Nk)->(acc.lookup x).isSome=Nk->((fE cs names acc).lookup x).isSome=Nk:=by
 intro c;induction c with
 |nil=>intro _ _ h;exact h
 |cons d r b=>
  obtain⟨n,k⟩:=d;intro acc e h;have hr:∀x∈r,x.2=.free->(cs.lookup x.1).isSome=Nk:=λx g=>e x (NB _ g);induction hk:(k==Pm) with
  |false=>rw[nJ hk];exact b hr h
  |true=>
   refine X1 (Qm.mp (e (n,k) (.head _) (Ob.mp hk))) λa f=>?_;rw[j9 hk f];refine b hr ?_;rw[Py];induction x==n
   ·exact h
   ·rfl
theorem oT:∀{names}{acc},(∀x∈names,x.2=.free->(cs.lookup x.1).isSome=Nk)->(x,Pm)∈names->((fE cs names acc).lookup x).isSome=Nk
 |(n,k)::r,acc,hn,h=>by
  have hr:∀x∈r,x.2=.free->(cs.lookup x.1).isSome=Nk:=λx d=>hn x (NB _ d);refine ND (NH.mp h) (λe=>?_) (λh=>?_)
  ·injection e with e c;clear h;subst e c
   refine X1 (Qm.mp (hn (x,.free) (.head _) rfl)) λa b=>?_;rw[j9 rfl b];exact BB hr (by rw[Py];rw[OJ];rfl)
  ·induction hk:(k==Pm) with
   |false=>rw[nJ hk];exact oT hr h
   |true=>refine X1 (Qm.mp (hn (n,k) (.head _) (Ob.mp hk))) λa b=>?_;rw[j9 hk b];exact oT hr h
def eF(scope:Ru)(pe:NO)(C:OO):NO:=compEnvC scope (fE pe.cells scope.names []) C pe
def k9{scope:Ru}{pe:NO}:∀{names:Ni (NX×RU)},(names.map λ(n,k)=>if(k==Pm&&pe.scope.kind==.function&&pe.kindOf n==xV .cell) then(n,SU) else(n,k)).lookup y=xV k ->
  ∃k',names.lookup y=xV k'/\(k'=k\/(k'=.free/\k=.cell)):=by
 intro d;induction d with
 |nil=>intro h;contradiction
 |cons e r b=>
  obtain⟨n,k'⟩:=e;intro h;haveI h:Ni.lookup y ((if(k'==Pm&&pe.scope.kind==.function&&pe.kindOf n==xV .cell)=Nk then(n,SU) else(n,k'))::_)=_:=h;induction c:y==n with
  |true=>
   rw[Py];rw[c];refine⟨k',rfl,?_⟩;split at h
   ·rename_i f
    rw[Py,c] at h;injection h with h;clear b;subst h
    simp only[Od,Ob] at f;exact .inr ⟨f.1.1,rfl⟩
   ·rw[Py,c] at h;injection h with h;clear b;subst h;exact .inl rfl
  |false=>rw[Py];rw[c];refine b ?_;split at h<;>(rw[Py,c] at h;exact h)
structure gB(pe:NO)(nms:Ni NX)(scope:Ru)(x:NX)(j:Nu)(nms':Ni NX):Prop where
 kind:scope.kind=.function
 here:scope.names.lookup x=xV .local
 only:∀y,scope.names.lookup y=xV .local->y=x\/y∉nms'
 yS:∀y∈scope.names,y.2≠.cell
 free:∀y∈scope.names,y.2=.free->(pe.cells.lookup y.1).isSome=Nk
 names:∀y∈scope.names,y.2=.local->scope.names.lookup y.1=xV .local
 slot:nms'[j]?=xV x
 old:∀i y,i≠j->nms'[i]?=xV y->scope.names.lookup y=xV .free->nms[i]?=xV y/\(pe.kindOf y=xV .cell\/pe.kindOf y=xV .free)
 nodup:nms'.Nodup
section
variable {P:bx}{n:Nu}{pe:NO}{nms nms':Ni NX}{A:Oj}{ρ:Env}{W:Wd}{H:ae}{s:NJ}
def FR.comp{h:Heap}(F:FR P pe nms W H h ρ)(g:gB pe nms scope x j nms')(hC:h.Ns C m)(nC:¬ f6 W H C)(s:∀y c,pe.cells.lookup y=xV c->c≠C)(hm:m x=xV y)(hv:VR P.w P.cA W.fz v y):
  FR P (eF scope pe C) nms' W H h (ρ.set j (xV v)):=by
 have sub:∀{z a},(fE pe.cells scope.names []).lookup z=xV a->pe.cells.lookup z=xV a:=λe=>BC (λy b e=>by contradiction) e;refine⟨g.kind,F.yv,F.blt,⟨m,hC,λi z e k=>?_⟩,λi z e k=>?_,nC,λz a e=>?_,λz z' a e e'=>F.vi z z' a (sub e) (sub e'),g.nodup⟩
 ·refine ah (k9 (scope:=scope) k) λk' f l=>?_
  have f:=l.elim (λq=>q▸f) λq=>by cases q.2
  rcases g.only z f with rfl|q
  ·have:i=j:=(SM (Ou.mp e).1 g.nodup).mp (e.trans g.slot.symm)
   rw[this];rw[Rr];rw[Np rfl];split
   ·exact⟨y,hm,hv⟩
   ·trivial
  ·exact NK (mem_of_getElem? e) q
 ·have:∃k',scope.names.lookup z=xV k'/\k'=.free:=by
   rcases k with k|k<;>(refine ah (k9 (scope:=scope) k) ?_;intro k' f l)
   ·rcases l with rfl|⟨rfl,_⟩
    ·exact NK rfl (g.yS _ (mem_of_lookup f))
    ·exact⟨_,f,rfl⟩
   ·rcases l with rfl|⟨rfl,l⟩
    ·exact⟨_,f,rfl⟩
    ·injection l
  refine ah this λk' f r=>?_;subst r;have o:i≠j:=λq=>by rw[q,g.slot] at e;injection e with e;clear k;subst e;replace f:=(g.here)▸f;contradiction
  refine A2 (g.old i z o e f) λe1 e2=>?_;refine aO (F.cell i z e1 e2) λc u g1 g2 g3=>?_;refine X1 (Qm.mp (oT (acc:=[]) g.free (mem_of_lookup f))) λc' n=>?_;have:=sub n;replace this:=(g1)▸this;injection this with this;subst this
  refine⟨c,u,n,g2,?_⟩;rw[PM (OG o)];exact g3
 ·refine Mine.A2 (F.jF z a (sub e)) λc1 p=>Mine.A2 p λc2 p=>p.elim λu c3=>?_
  exact⟨c1,s _ _ (sub e),u,c3⟩
end
section
variable {s s' s'':NJ}
def Trans.pS(T:Trans P W H s W' H' s')(h:s.heap.get? I=Nm)(nI:¬ f6 W' H' I)(j:P.B.get? I=Nm)(k:∀b o,b≠I->s'.heap.get? b=xV o->h'.get? b=xV o):
  Trans P W H s W' H' { s' with heap:=h',toks:=t }:=by
 have f:W'.fz I=Nm:=by
  induction e:W'.fz I with
  |none=>rfl
  |some o=>exact NK (.inr ⟨o,e⟩) nI
 haveI x:=T.hr;have ne:∀{b o},s.heap.get? b=xV o->b≠I:=λe q=>by rw[q,h] at e;exact nomatch e
 refine⟨⟨x.b0,λb o e=>k b o (λq=>by rw[q,j] at e;exact nomatch e) (x.base b o e),λb o e=>k b o (λq=>by rw[q,f] at e;exact nomatch e) (x.fz b o e),λb y e=>(x.live b y e).move e (λc o i d=>k c o (λq=>nI (.inl (q▸i))) d) (λ_ _ e=>e) rfl,x.fy,x.dZ,x.apart,x.inj⟩,T.os,T.gens,T.mono,T.dx,λb o g e=>?_,T.own,λb o e=>?_⟩
 ·exact(T.keep b o g e).trans λa d=>by rw[k b a (ne e) d];exact fw.refl a
 ·refine X1 (T.big b o e) λa d=>?_
  exact⟨a,k b a (ne e) d⟩
noncomputable abbrev fF(ys:O8 Nz)(k:Nu):VW:={ cls:=.type "list",data:=.seq ys k }
structure CS(P:bx)(A:Oj)(xs:Ni V)(W0 W:Wd)(H:ae)(h:Heap)(I D C:OO)(St:Nu->Heap->Prop)(i:Nu)(o:VW)(m:NX->Nt Nz):Prop where
 nI:¬ f6 W H I
 nD:¬ f6 W H D
 nC:¬ f6 W H C
 st:St i h
 dd:h.get? D=xV o
 ns:h.Ns C m
 fz:∀a o,W0.fz a=xV o->W.fz a=xV o
section
variable {xs:Ni V}{W0:Wd}{I D C:OO}{St:Nu->Heap->Prop}{i:Nu}{o:VW}{m:NX->Nt Nz}
def CS.step(c:CS P A xs W0 W' H' s'.heap I D C St i o m)(w:r4 P A W0 I xs St)(T:Trans P W' H' s' W'' H'' s'')(h:o.cls≠.type "frame"):CS P A xs W0 W'' H'' s''.heap I D C St i o m:=by
 refine ah (w.cls i _ c.st) λg f l=>?_;haveI k:s''.heap.get? I=xV g:=by
  rcases T.keep I g (λq=>c.nI (.inl q)) f with q|⟨q,_⟩
  ·exact q
  ·exact NK q (my l)
 refine gC (id c.ns) λn _ _ j _=>?_;refine⟨T.fV c.nI f,T.fV c.nD c.dd,T.fV c.nC j,?_,?_,Heap.Ns.same c.ns λd e=>T.keep _ d (λq=>c.nC (.inl q)) e,λa d e=>T.mono _ _ (c.fz _ _ e)⟩
 ·refine w.keep i _ _ c.st (λd e=>by replace e:=(f)▸e;injection e with e;subst e;exact k) λb d e _=>T.hr.fz _ _ (T.mono _ _ (c.fz _ _ e))
 ·rcases T.keep D o (λq=>c.nD (.inl q)) c.dd with q|⟨q,_⟩
  ·exact q
  ·exact NK q h
def CS.atI(c:CS P A xs W0 W' H' s'.heap I D C St i o m)(k:∀b o,b≠I->s'.heap.get? b=xV o->h'.get? b=xV o)(d:D≠I)(a:C≠I)(st:St i' h'):CS P A xs W0 W' H' h' I D C St i' o m:=
 ⟨c.nI,c.nD,c.nC,st,k _ _ d c.dd,c.ns.at λo e=>k _ _ a e,c.fz⟩
def CS.atC(c:CS P A xs W0 W' H' s'.heap I D C St i o m)(w:r4 P A W0 I xs St)(k:∀b o,b≠C->s'.heap.get? b=xV o->h'.get? b=xV o)(f:I≠C)(g:D≠C)(h:∀a o,W'.fz a=xV o->a≠C)(ns:h'.Ns C m'):CS P A xs W0 W' H' h' I D C St i o m':=
 ⟨c.nI,c.nD,c.nC,w.keep i _ _ c.st (λo e=>k _ _ f e) λb o e d=>k _ _ (h _ _ (c.fz _ _ e)) d,k _ _ g c.dd,ns,c.fz⟩
def CS.atD(c:CS P A xs W0 W' H' s'.heap I D C St i o m)(w:r4 P A W0 I xs St)(k:∀b o,b≠D->s'.heap.get? b=xV o->h'.get? b=xV o)(g:I≠D)(f:C≠D)(h:∀a o,W'.fz a=xV o->a≠D)(dd:h'.get? D=xV o'):CS P A xs W0 W' H' h' I D C St i o' m:=
 ⟨c.nI,c.nD,c.nC,w.keep i _ _ c.st (λo e=>k _ _ g e) λb o e d=>k _ _ (h _ _ (c.fz _ _ e)) d,dd,c.ns.at λo e=>k _ _ f e,c.fz⟩
end
def Kw(P:bx)(n:Nu)(nms':Ni NX)(pe:NO)(scope:Ru)(ifs:Ni Expr)(TQ:dk):Prop:=
 (ifs=[]/\TQ=.always)\/∃c,ifs=[c]/\∀C,lq P n (eF scope pe C) nms' c TQ
def oV{d}(f:Kw P n nms' pe scope ifs d)(a:At P A n (eF scope pe C) nms' W H s ρ')(q:rY (call n) d ρ' H Q OH)(k:∀b W' H' s',Trans P W H s W' H' s'->Q b H'->R b s'):
  bk P A (forIn ifs Nk λc r=>if r=Nk then do let ok <- isTrue c (eF scope pe C) (eval c (eF scope pe C));pure (Q8 ok) else pure (Q8 r)) R E s:=by
 rcases f with⟨rfl,rfl⟩|⟨c,rfl,h⟩
 ·exact wpAny_tests_nil (k Nk W H s (Trans.refl a.hr) q)
 ·exact wpAny_tests_one (N4 (h C A ρ' W H s Q OH a q) (λb s' e=>Mine.bo e λW' H' t z=>k b W' H' s' t z) λ_ _ z=>z.1.elim)
end
section
variable {P:bx}{n:Nu}{pe:NO}{nms nms':Ni NX}{A:Oj}{ρ:Env}{W W' W₀:Wd}{H H' H₀:ae}{s s' s₀:NJ}
variable {xs:Ni V}{I D C:OO}{St:Nu->Heap->Prop}{scope:Ru}{x:NX}{j:Nu}
structure il(P:bx)(h:Heap)(I D C:OO):Prop where
 i:h.get? I=Nm
 d:h.get? D=Nm
 c:h.get? C=Nm
 id:I≠D
 ic:I≠C
 dc:D≠C
def il.b(x:il P h I D C)(hr:HR P W H h):P.B.get? I=Nm/\P.B.get? D=Nm/\P.B.get? C=Nm:=by
 haveI nb:∀b,h.get? b=Nm->P.B.get? b=Nm:=by
  intro b a;induction e:P.B.get? b with
  |none=>rfl
  |some o=>replace a:=(hr.base _ _ e)▸a;contradiction
 exact⟨nb _ x.i,nb _ x.d,nb _ x.c⟩
def l5(h:¬ f6 W H b):∀a o,W.fz a=xV o->a≠b:=λa o e q=>h (.inr ⟨o,q▸e⟩)
def sk(a:At P A n pe nms W H s ρ)(w:r4 P A W I xs St)(ap:il P s.heap I D C)(T:Trans P W H s W' H' s')(hi:i<=xs.length)(c:CS P A xs W W' H' s'.heap I D C St i o m)(l:i=xs.length->∀s'',Trans P W H s W' H' s''->s''.heap.get? D=xV o->s''.heap.Ns C m->F Nm s'')(f:∀u y s'',(hi:i<xs.length)->xs[i]?=xV u->VR P.w P.cA W'.fz u y->Trans P W H s W' H' s''->CS P A xs W W' H' s''.heap I D C St (i+1) o m->F (xV y) s''):bk P A (XC (.ref I)) F E s':=by
 refine A3 (ap.b a.hr) λd r p=>?_;refine(NG (i<xs.length)).elim (λq=>?_) (λq=>?_)
 ·refine w.item i s' F E q c.st λu y g tk j h st k=>?_
  exact f u y _ q j (h.mono c.fz) (T.pS ap.i c.nI d k) (c.atI k (OG ap.id) (OG ap.ic) st)
 ·haveI e:i=xs.length:=by exact TL hi (RD q)
  clear hi f q;subst e;refine w.done s' F E c.st λg tk k=>?_;exact l rfl _ (T.pS ap.i c.nI d k) (k _ _ (OG ap.id) c.dd) (c.ns.at λo e=>k _ _ (OG ap.ic) e)
def so(a:At P A n pe nms W H s ρ)(f:gB pe nms scope x j nms')(w:r4 P A W I xs St)(ap:il P s.heap I D C)(T:Trans P W H s W' H' s')(c:CS P A xs W W' H' s'.heap I D C St i o m)(J:VR P.w P.cA W'.fz u y)(K:∀s'' m,Trans P W H s W' H' s''->CS P A xs W W' H' s''.heap I D C St i o m->At P A n (eF scope pe C) nms' W' H' s'' (ρ.set j (xV u))->F () s''):bk P A (assign (.Name x px) (eF scope pe C) y) F E s':=by refine A3 (ap.b a.hr) λO N r=>?_;haveI hL:(eF scope pe C).locals=C:=rfl;refine QZ (wpAny_storeName_local (lookup_relabel_local f.here) (c.ns) (λL k h=>?_) (by rw[show(eF scope pe C).scope.kind=scope.kind from rfl];rw[f.kind];rfl));rw[hL] at k h;have p:=T.pS (t:=s'.toks+1) ap.c c.nC r λb o g e=>(h.2 b g).trans e;haveI G:=c.atC w (λb o g e=>(h.2 b g).trans e) ap.ic ap.dc (l5 c.nC) k;haveI l:=a.step p;refine K _ _ p G ⟨l.hr,l.cx,l.fr.comp f k c.nC (λz b e q=>?_) (Np rfl) J⟩;refine Mine.A2 (a.fr.jF z b e) λ_ d=>Mine.A2 d λ_ d=>d.elim λv d=>d.elim λM d=>Mine.A2 d λB _=>?_;rw[q,ap.c] at B;contradiction
def og(h:i+1<=n):n - (i+1)<n - i:=Si h (Oe i)
inductive aeg(P:bx)(n:Nu)(A:Oj)(ρ:Env)(W:Wd)(H:ae)(s:NJ)(xs:Ni V)(I D C:OO)(St:Nu->Heap->Prop)(j:Nu)(TQ:dk)(body:aF)(Qf:Ni V->ae->Prop)(k:Nu)(s':NJ):Prop
 |mk (W':Wd) (H':ae) (i:Nu) (ys:O8 Nz) (kk:Nu) (m:NX->Nt Nz) (done:Ni V) (Qk:Ni V->ae->Prop) (e:k=xs.length - i) (hi:i<=xs.length) (T:Trans P W H s W' H' s') (c:CS P A xs W W' H' s'.heap I D C St i (fF ys kk) m) (hs:ys.size<=i) (hv:aB P.w P.cA W'.fz done ys.toList)
   (q:fc (λx H k=>rY (call n) TQ (ρ.set j (xV x)) H k OH) (λx H k=>cL (call n) body (ρ.set j (xV x)) H k OH) (xs.drop i) H' Qk) (hQ:∀vs H,Qk vs H->Qf (done++vs) H)
set_option tactic.hygienic true in
def BE{r}(a:At P A n pe nms W H s ρ)(ca:gB pe nms scope x j nms')(w:r4 P A W I xs St)(ap:il P s.heap I D C)(hz:xs.length<=lim)(ht:Kw P n nms' pe scope ifs r)(he:∀C,SE P n (eF scope pe C) nms' elt body)(T:Trans P W H s W₀ H₀ s₀)(c:CS P A xs W W₀ H₀ s₀.heap I D C St 0 (fF #[] k₀) m₀)(q:fc (λx H k=>rY (call n) r (ρ.set j (xV x)) H k OH) (λx H k=>cL (call n) body (ρ.set j (xV x)) H k OH) xs H₀ Qf)(fin:∀W' H' s' ys V m vs,Trans P W H s W' H' s'->¬ f6 W' H' D->¬ f6 W' H' C->s'.heap.get? D=xV (fF ys V)->s'.heap.Ns C m->aB P.w P.cA W'.fz vs ys.toList->ys.size<=aL->Qf vs H'->R (.ok .next) s'):
  UC (PJ prog P.w) A (.compLoop (.ListComp elt [⟨.Name x px,itx,ifs,0⟩] scope pos) 0 (.ref I) (.ref D) (eF scope pe C)) R s₀:=by
 refine A3 (ap.b a.hr) λb1 b2 b3=>?_;refine codeAny_compLoop_tests (aeg P n A ρ W H s xs I D C St j r body Qf)
  (λk s' z_=>z_.rec λW' H' i ys V m done Qk e hi T c Z hv q hQ=>?_) xs.length ⟨W₀,H₀,0,#[],k₀,m₀,[],Qf,rfl,OL _,T,c,NA _,aB.nil,by exact q,λvs H z=>z⟩
 refine sk a w ap T hi c (λe' s'' T' hd hn=>?_) λu y s₁ h O hy N U=>?_
 ·subst e'
  rw[Ni.drop_length] at q;haveI q:=q;haveI:=hQ _ _ q;rw[N9] at this;exact fin W' H' s'' ys V m done T' c.nD c.nC hd hn hv (Nj Z (Nj hz (by decide))) this
 ·have K:xs.drop i=u::xs.drop (i+1):=by rw[Ni.drop_eq_getElem_cons h];replace O:=(OP h)▸O;injection O with O;subst O;rfl
  rw[K] at q;refine so a ca w ap N U hy λs₂ J X Q E=>?_;refine oV ht E q λb W₃ H₃ s₃ g q=>?_;have G:=X.trans g;have B:=Q.step w g (by refine(?_:Qy "list" ≠ Qy "frame");decide);induction b with
  |false=>dsimp only[QN,Ub] at q ⊢;exact⟨_,by rw[e];exact og h,W₃,H₃,i+1,ys,V,J,done,Qk,rfl,h,G,B,O9 Z,aB.mono g.mono _ _ hv,q,hQ⟩
  |true=>
   dsimp only[VX] at q ⊢;refine N4 (he C A _ W₃ H₃ s₃ _ OH (E.step g) q) (λz l z_=>Mine.bo z_ λY M p z2_=>Mine.ah z2_ λv hz' q=>?_) λ_ _ z=>z.1.elim;haveI L:=G.trans p;have f:=B.step w p (by refine(?_:Qy "list" ≠ Qy "frame");decide);refine Rc Su ⟨_,f.dd,rfl⟩ UG (Ul _ _) (list_append D ys V z (bH (gb [R0 V2 V1,R0 V0 V3,R0 (S1 V3) V2] V0 V1 rfl hz Z h))) ⟨f.dd,?_⟩;have hd:=IsL.update f.dd (λw=>w.push z);have kD:∀b o,b≠D->l.heap.get? b=xV o->(l.heap.update D (Wl λw=>w.push z)).get? b=xV o:=λb o hb e=>(Rq _ _ (OG hb)).trans e;refine⟨xs.length - (i+1),by rw[e];exact og h,Y,M,i+1,ys.push z,_,J,done++[v],_,rfl,h,L.pS ap.d f.nD b2 kD,f.atD w kD ap.id (OG ap.dc) (l5 f.nD) hd,by rw[O8.size_push];exact Oi Z,?_,q,λvs H z=>?_⟩
   ·exact Fx (aB.mono (λb o e=>p.mono _ _ (g.mono _ _ e)) _ _ hv) hz'
   ·rw[NM];exact hQ _ _ z
end
section
variable {P:bx}{n:Nu}{pe:NO}{nms nms':Ni NX}{A:Oj}{ρ:Env}{W W' W₀:Wd}{H H' H₀:ae}{s s' s₀:NJ}{X:Prop}
variable {scope:Ru}{x:NX}{j:Nu}
set_option tactic.hygienic true in
def oW{TQ}(ca:gB pe nms scope x j nms')(hs:∀v,Qr itx pe v=pure v)(hi:SE P n pe nms itx it)(ht:Kw P n nms' pe scope ifs TQ)(he:∀C,SE P n (eF scope pe C) nms' elt body)(a:At P A n pe nms W H s ρ)(q:cL (call n) (.comp j it TQ body) ρ H Qf X)(hE:∀e s',cy P A W H s X e s'->E e s')(fin:∀W' H' s' D C ys kk m vs,Trans P W H s W' H' s'->s.heap.get? D=Nm->s.heap.get? C=Nm->D≠C->¬ f6 W' H' D->¬ f6 W' H' C->s'.heap.get? D=xV (fF ys kk)->s'.heap.Ns C m->aB P.w P.cA W'.fz vs ys.toList->ys.size<=aL->Qf (.lst vs) H'->Xx (PJ prog P.w) A E use Q (.ref D) C (.ok .next) s'):
  bk P A (comprehension (.ListComp elt [⟨.Name x px,itx,ifs,0⟩] scope pos) scope pe pos' (XH []) Nr (eval itx pe) use) Q E s:=by
 refine S4 rfl hs (jk ca.free) ca.kind ca.names (N4 (hi A ρ W H s _ X a q) (λv s₁ z_=>Mine.bo z_ λW₁ H₁ t z2_=>Mine.ah z2_ λu hu q=>?_) hE);refine ah (aM q) λxs hx q=>?_;have hz:=(q).1;have q:=(q).2;have i:=a.step t;refine ui i hx hu λz St w st=>?_;haveI kI:∀b o,s₁.heap.get? b=xV o->(s₁.heap.push z).get? b=xV o:=λb o e=>NI _ e;refine Qo (Uq ca.yS (by intro y hy;simp at hy) (λf l h=>?_) ca.kind) (by refine(?_:([]:Ni Nz).toArray.size<=QX);(decide));generalize hH2:(s₁.heap.push z).push { cls:=.type "list",dict:=Nm,data:=.seq ([]:Ni Nz).toArray }=H2 at l h ⊢;haveI hI:s₁.heap.get? s₁.heap.objs.size=Nm:=eK _;haveI z1:(s₁.heap.push z).objs.size=s₁.heap.objs.size+1:=Pe ..;have z2:H2.objs.size=s₁.heap.objs.size+2:=by refine bB (NU hH2) ?_;rw[Pe];rw[z1];rfl
 have g:∀b,s₁.heap.objs.size<=b->s₁.heap.get? b=Nm:=by
  intro b hb;induction e:s₁.heap.get? b with
  |none=>rfl
  |some o=>exact NK (Oz e) (Pt.mpr hb)
 haveI hID:s₁.heap.objs.size≠(s₁.heap.push z).objs.size:=by rw[z1];exact OV (Oe _)
 haveI hIC:s₁.heap.objs.size≠H2.objs.size:=by rw[z2];exact adI
 have hDC:(s₁.heap.push z).objs.size≠H2.objs.size:=by rw[z1];rw[z2];exact adJ
 have ap:il P s₁.heap s₁.heap.objs.size (s₁.heap.push z).objs.size H2.objs.size:=⟨hI,g _ (by rw[z1];exact GR),g _ (by rw[z2];exact GS),hID,hIC,hDC⟩;have p:∀b o,(s₁.heap.push z).get? b=xV o->f.get? b=xV o:=λb o e=>h.extBut b o (by haveI:=Oz e;rw[z1] at this;rw[z2];exact OV (NY this (Ql _))) (NI _ (hH2▸NI _ e));haveI old:∀b o,s₁.heap.get? b=xV o->f.get? b=xV o:=λb o e=>p _ _ (kI _ _ e);haveI hacc:=h.extBut _ _ hDC (NI _ (hH2▸Oy _ rfl));haveI T₂:Trans P W₁ H₁ s₁ W₁ H₁ { s₁ with heap:=f,toks:=s₁.toks+([]:Ni (NX×Nz)).length }:=Trans.of_keeps i.hr old rfl rfl;haveI k:∀b,s₁.heap.objs.size<=b->¬ f6 W₁ H₁ b:=by
  rintro b hb (hf|⟨o,e⟩)
  ·refine X1 (i.hr.dm hf) λo e=>?_;replace e:=(g b hb)▸e;contradiction
  ·haveI:=g b hb;replace this:=(i.hr.fz _ _ e)▸this;contradiction
 haveI st₁:=w.keep 0 _ _ st (λo e=>p _ _ e) λb o _ e=>p _ _ e;haveI c:CS P A xs W₁ W₁ H₁ f s₁.heap.objs.size (s₁.heap.push z).objs.size H2.objs.size St 0 (fF #[] 0) (λx=>([]:Ni (NX×Nz)).reverse.lookup x):=
  ⟨k _ (NA _),k _ (by rw[z1];exact GR),k _ (by rw[z2];exact GS),st₁,hacc,l,λ_ _ e=>e⟩
 haveI loop:UC (PJ prog P.w) A (.compLoop (.ListComp elt [⟨.Name x px,itx,ifs,0⟩] scope pos) 0 (.ref s₁.heap.objs.size) (.ref (s₁.heap.push z).objs.size) (eF scope pe H2.objs.size))
   (Xx (PJ prog P.w) A E use Q (.ref (s₁.heap.push z).objs.size) H2.objs.size) { s₁ with heap:=f,toks:=s₁.toks+([]:Ni (NX×Nz)).length }:=
  BE i ca w ap hz ht he T₂ c q λW' H' s' ys kk m vs T n1 n2 hd hn hv hb hq=>by
   haveI nn:∀b,s₁.heap.get? b=Nm->s.heap.get? b=Nm:=by
    intro b hb;induction e:s.heap.get? b with
    |none=>rfl
    |some o=>refine X1 (t.big b o e) λo' e'=>?_;replace hb:=(e')▸hb;contradiction
   exact fin W' H' s' _ _ ys kk m vs (t.trans T) (nn _ ap.d) (nn _ ap.c) hDC n1 n2 hd hn hv hb hq
 exact codeAny_compStart_list loop (w.self 0 _ _ _ st₁ loop)
end
section
variable {P:bx}{n:Nu}{pe:NO}{nms nms':Ni NX}{A:Oj}{ρ:Env}{W W' W₀:Wd}{H H' H₀:ae}{s s' s₀:NJ}{X:Prop}
variable {scope:Ru}{x:NX}{j:Nu}
def HR.r8(hr:HR P W H s.heap)(a:s.heap.get? b=Nm):P.B.get? b=Nm:=by
 induction e:P.B.get? b with
 |none=>rfl
 |some o=>replace a:=(hr.base _ _ e)▸a;contradiction
def Ja{c}(l:gB pe nms scope x j nms')(E:∀v,Qr itx pe v=pure v)(hi:SE P n pe nms itx it)(B:Kw P n nms' pe scope ifs c)(he:∀C,SE P n (eF scope pe C) nms' elt body):
  SE P n pe nms (.ListComp elt [⟨.Name x px,itx,ifs,0⟩] scope pos) (.comp j it c body):=by
 intro A ρ W H s Qf X a q;show bk P A (eval _ _) _ _ _;refine oW l E hi B he a q (λ_ _ z=>z) λW' H' s' D C ys p m vs T i g f nD nC hd y u d w=>?_;refine⟨m,y,λF h=>?_⟩;haveI r:=T.pS (t:=s'.toks) g nC (a.hr.r8 g) λb o d e=>(h.2 b d).trans e;haveI k:=r.adopt (t:=s'.toks) i (a.hr.r8 i) nD (PO _ _) ((h.2 D f).trans hd);refine⟨_,_,k,.lst vs,?_,w⟩;exact⟨D,ys,p,rfl,Wd.bP ..,d,aB.mono (λb o e=>Wd.bQ (by
  induction e:W'.fz D with
  |none=>rfl
  |some o=>exact NK (.inr ⟨o,e⟩) nD) b o e) _ _ u⟩
set_option tactic.hygienic true in
def Jm{c}(Y:nms[i]?=xV y)(hk:pe.kindOf y=xV .local)(r:swapsWith (.ListComp elt [⟨.Name x px,itx,ifs,0⟩] scope pos) (xV (.Name y py)) spos.line pe=pure Nk)(ca:gB pe nms scope x j nms')(hs:∀v,Qr itx pe v=pure v)(hi:SE P n pe nms itx it)(ht:Kw P n nms' pe scope ifs c)(he:∀C,SE P n (eF scope pe C) nms' elt body):
  SS P n pe nms (.Assign [.Name y py] (.ListComp elt [⟨.Name x px,itx,ifs,0⟩] scope pos) spos) (.asg i (.comp j it c body)):=by
 intro A ρ W H s N R K X Z a q;show bk P A (exec _ _) _ _ _;rw[exec_Assign_Name_used _ _ _ _ r];refine Nq (PH (Nq ?_));haveI q:=q;refine Nq (N4 (oW ca hs hi ht he a q (λ_ _ z=>fO.of z) λW' H' s' D C ys l m vs T V d F nD nC hd hn hv k hq=>?_) (λ_ s' z=>NC (NC z)) λ_ _ z=>z);have L:=T.adopt (t:=s'.toks) V (a.hr.r8 V) nD (PO _ _) hd;haveI hr:VR P.w P.cA (W'.add D (fF ys l)).fz (.lst vs) (.ref D):=by
  exact⟨D,ys,l,rfl,Wd.bP ..,k,aB.mono (λb o e=>Wd.bQ (by
   induction e:W'.fz D with
   |none=>rfl
   |some o=>exact NK (.inr ⟨o,e⟩) nD) b o e) _ _ hv⟩
 have g:¬ f6 (W'.add D (fF ys l)) H' C:=by
  rintro(h|⟨o,e⟩)
  ·exact nC (.inl h)
  ·haveI e:(if C=D then xV (fF ys l) else W'.fz C)=xV o:=e
   rw[Nl (OG F)] at e;exact nC (.inr ⟨o,e⟩)
 haveI a3:=a.step L;refine QZ (gv Z a3 Y (.inl hk) hr λs'' O a4=>?_);have I:¬ K7 pe C:=by
  rintro(q|⟨z,q⟩)
  ·refine ah a.fr.ns λmm p _=>?_;refine gC p ?_;clear p;intro o _ _ G _
   rw[q,G] at d;exact nomatch d
  ·refine Mine.A2 (a.fr.jF z C q) λ_ f=>Mine.A2 f λ_ f=>f.elim λu f=>f.elim λo f=>Mine.A2 f λG _=>?_
   replace d:=(G)▸d;exact nomatch d
 haveI B:=Heap.Ns.same hn λo e=>O.keep C o I (λq=>g (.inl q)) e;refine⟨m,B,λh' M=>?_⟩;haveI J:=(TF.of L).trans O;haveI E:=g;haveI U:=J.jJ (t:=s''.toks) d E (a.hr.r8 d) λb o k e=>(M.2 b k).trans e;exact⟨_,_,U,_,a.jJ a4 d U.hr λb o k e=>(M.2 b k).trans e,hq⟩
end
noncomputable def cn(w:Px)(cA:eX->OO)(fz:Fz):Ni (NX×Nz)->Ni V->Ni (NX×Nz)->Prop
 |acc,[],kvs=>kvs=acc
 |acc,v::r,kvs=>∃k u y,v=.tup [.str k,u]/\k.length<=aL/\VR w cA fz u y/\cn w cA fz (S0 acc (aw k) y) r kvs
section
variable {w:Px}{cA:eX->OO}{fz fz':Fz}
def cn.mono(h:∀a o,fz a=xV o->fz' a=xV o):∀{l}{acc b},cn w cA fz acc l b->cn w cA fz' acc l b:=by
 intro f;induction f with
 |nil=>intro _ _ e;exact e
 |cons v r c=>intro _ _ d;refine bO d ?_;clear d;intro k u y m i g j;exact⟨k,u,y,m,i,VR.mono h _ _ g,c j⟩
def cn.snoc(hk:k.length<=aL)(g:VR w cA fz u y):∀{l}{acc a},cn w cA fz acc l a->cn w cA fz acc (l++[.tup [.str k,u]]) (S0 a (aw k) y):=by
 intro d;induction d with
 |nil=>intro _ _ e;haveI e:=e;rw[e];exact⟨k,u,y,rfl,hk,g,rfl⟩
 |cons v r b=>intro _ _ c;refine bO c ?_;clear c;intro k' m f n i h j;exact⟨k',m,f,n,i,h,b j⟩
def rT{K:Type}[OY K](a)(k:K)(y):(S0 a k y).length<=a.length+1:=by unfold S0;split<;>simp
def cn.length:∀{l}{acc a},cn w cA fz acc l a->a.length<=acc.length+l.length:=by
 intro d;induction d with
 |nil=>intro _ _ e;haveI e:=e;rw[e];simp
 |cons v r b=>intro acc a c;refine bO c ?_;clear c;intro k u y _ _ _ f;haveI h:=b f;haveI g:=rT acc (aw k) y;rw[Nn];exact gb [R0 V0 (zp V3 V2),R0 V3 (S1 V1)] V0 (zp V1 (S1 V2)) rfl h g
def cn.done:∀{l}{acc b}{ks}{us},cn w cA fz acc l b->pA l=xV (ks,us)->(∀k∈ks,aw k∉acc.map (·.1)) -> 
  (∀k∈ks,k.length<=aL)/\∃a,b=acc++a/\a.map (·.1)=ks.map aw/\aB w cA fz us (a.map (·.2)):=by
 intro m;induction m with
 |nil=>intro acc b ks us e hd _;haveI e:=e;rw[e];cases hd;exact⟨λ_ h=>(by contradiction),[],(N9 _).symm,rfl,aB.nil⟩
 |cons v r j=>
  intro acc b ks us g hd s;refine bO g ?_;clear g;intro k u y F A x o;subst F;induction f:pA r with
  |none=>exact nomatch (NN (Hm k u) f).symm.trans hd
  |some p=>
   obtain⟨d,n⟩:=p;have hd:(if d.contains k then Nm else xV (k::d,u::n))=xV (ks,us):=(NN (Hm k u) f).symm.trans hd;by_cases i:d.contains k=Nk
   ·rw[Np i] at hd;contradiction
   ·rw[Nl i] at hd
    cases hd;haveI hk:=s k (.head _);haveI G:S0 acc (aw k) y=acc++[(aw k,y)]:=by unfold S0;rw[Nl];rfl;intro h;rw[Tb] at h;refine ah h ?_;clear h;intro z t B;exact hk (mem_map.mpr ⟨z,t,by exact N0 B⟩)
    rw[G] at o;haveI i:k∉d:=by simpa using i
    obtain⟨D,a,E,H,C⟩:=j o f λk' c=>by
     rw[N7];rw[Of];rintro(q|q)
     ·exact s k' (.tail _ c) q
     ·simp only[N3,SQ,Oc] at q
      exact i (iK q▸c)
    refine⟨λk' c=>?_,(aw k,y)::a,by rw[E];exact append_assoc ..,by exact NN _ ‹_›,aB.cons x C⟩;rcases NH.mp c with q|q
    ·rw[q];exact A
    ·exact D k' q
end
section
variable {P:bx}{mg mb:NX->Nt Nz}{n:Nu}{pe:NO}{nms nms':Ni NX}{A:Oj}{ρ:Env}{W W' W₀:Wd}{H H' H₀:ae}{s s' s₀:NJ}{X:Prop}
variable {xs:Ni V}{I D C:OO}{St:Nu->Heap->Prop}{scope:Ru}{x:NX}{j:Nu}
def fB.qe(d:fB (OD prog P.w) o kvs):o.cls≠.type "frame" :=by obtain⟨_,_,a,_⟩:=d;refine A3 a ?_;clear a;intro h _ _;rw[h];decide
def fB.has{h:Heap}(d:h.DictOf (OD prog P.w) a kvs):∃o,h.get? a=xV o/\fB (OD prog P.w) o kvs:=by refine Mine.bO d λo es c e k g b=>?_;refine Mine.A3 b λf i j=>?_;exact⟨o,e,es,c,k,g,f,i,j⟩
def MX{v:V}{K:Prop}(q:(match v with|.str _=>K| _=>OH)):∃ks,v=.str ks/\K:=by
 induction v using Mine.V.casesOn with
 |str ks=>exact⟨ks,rfl,q⟩
 | _=>exact q.elim
inductive adh(P:bx)(n:Nu)(A:Oj)(ρ:Env)(W:Wd)(H:ae)(s:NJ)(xs:Ni V)(I D C:OO)(St:Nu->Heap->Prop)(j:Nu)(TQ:dk)(ke ve:aF)(Qf:Ni V->ae->Prop)(k:Nu)(s':NJ):Prop
 |mk (W':Wd) (H':ae) (i:Nu) (o:VW) (kvs:Ni (NX×Nz)) (m:NX->Nt Nz) (done:Ni V) (Qk:Ni V->ae->Prop) (e:k=xs.length - i) (hi:i<=xs.length) (T:Trans P W H s W' H' s') (c:CS P A xs W W' H' s'.heap I D C St i o m) (d:fB (OD prog P.w) o kvs) (hs:done.length<=i) (hv:cn P.w P.cA W'.fz [] done kvs)
   (q:fc (λx H k=>rY (call n) TQ (ρ.set j (xV x)) H k OH) (λx H q=>cL (call n) ke (ρ.set j (xV x)) H (λkv H=>match kv with|.str _=>cL (call n) ve (ρ.set j (xV x)) H (λvv H=>q (.tup [kv,vv]) H) OH| _=>OH) OH) (xs.drop i) H' Qk) (hQ:∀vs H,Qk vs H->Qf (done++vs) H)
def xT{kx vx iter}{B}(a:At P A n pe nms W H s ρ)(ca:gB pe nms scope x j nms')(w:r4 P A W I xs St)(ap:il P s.heap I D C)(hz:xs.length<=1000)(ht:Kw P n nms' pe scope ifs B)(hk:∀C,SE P n (eF scope pe C) nms' kx ke)(he:∀C,SE P n (eF scope pe C) nms' vx ve)(T:Trans P W H s W₀ H₀ s₀)(c:CS P A xs W W₀ H₀ s₀.heap I D C St 0 N m₀)(d₀:fB (OD prog P.w) N [])(q:fc (λx H k=>rY (call n) B (ρ.set j (xV x)) H k OH) (λx H q=>cL (call n) ke (ρ.set j (xV x)) H (λkv H=>match kv with|.str _=>cL (call n) ve (ρ.set j (xV x)) H (λvv H=>q (.tup [kv,vv]) H) OH| _=>OH) OH) xs H₀ Qf)(fin:∀W' H' s' o p m vs,Trans P W H s W' H' s'->¬ f6 W' H' D->¬ f6 W' H' C->s'.heap.get? D=xV o->fB (OD prog P.w) o p->s'.heap.Ns C m->cn P.w P.cA W'.fz [] vs p->vs.length<=1000->Qf vs H'->R (.ok .next) s'):
  UC (PJ prog P.w) A (.compLoop (.DictComp kx vx [⟨.Name x px,iter,ifs,0⟩] scope pos) 0 (.ref I) (.ref D) (eF scope pe C)) R s₀:=by
 refine A3 (ap.b a.hr) λb1 b2 b3=>?_;refine codeAny_compLoop_testsD (adh P n A ρ W H s xs I D C St j B ke ve Qf)
  (λk s' E=>E.rec λW' H' i o p m done Qk e hi T c d hs hv q hQ=>?_) xs.length ⟨W₀,H₀,0,N,[],m₀,[],Qf,rfl,OL _,T,c,d₀,NA _,rfl,by simpa using q,λvs H z=>z⟩
 refine sk a w ap T hi c (λe' s'' T' hd hn=>?_) λu y s₁ g hu hy Y c₁=>?_
 ·subst e'
  rw[drop_length] at q;have q:=q;have:=hQ _ _ q;rw[N9] at this;exact fin W' H' s'' o p m done T' c.nD c.nC hd d hn hv (Nj hs hz) this
 ·have O:xs.drop i=u::xs.drop (i+1):=by rw[Uo g];rw[OP g] at hu;cases hu;rfl
  rw[O] at q;refine so a ca w ap Y c₁ hy λs₂ M T₂ c₂ K=>?_;refine oV ht K q λb W₃ H₃ s₃ f q=>?_;have L:=T₂.trans f;have J:=c₂.step w f d.qe;induction b with
  |false=>simp only[QN,Ub] at q ⊢;exact⟨_,by rw[e];exact og g,W₃,H₃,i+1,o,p,M,done,Qk,rfl,g,L,J,d,O9 hs,hv.mono f.mono,q,hQ⟩
  |true=>
   simp only[VX] at q ⊢;have G:=K.step f;refine N4 (hk C A _ W₃ H₃ s₃ _ OH G q) (λz U E=>bo E λW₄ V l E=>ah E λv hz' q=>?_) λ_ _ z=>z.1.elim;refine ah (MX q) ?_;clear q;intro ks Q q;subst Q;refine ah hz'.str_inv λtk Q hkl=>?_;subst Q;refine N4 (he C A _ W₄ V U _ OH (G.step l) q) (λz F E=>bo E λZ H₅ r E=>ah E λv hz'' q=>?_) λ_ _ z=>z.1.elim;have X:=(L.trans l).trans r;have h:=(J.step w l d.qe).step w r d.qe;have hl:=hv.length;refine wpAny_dictSet_pairs (de (aw ks) tk) (d.of h.dd) (λh' hd sb=>?_) (by rw[O0];simp only[NL] at hl;exact gb [R0 V1 (zc 1000),R0 V2 V3,R0 (S1 V3) V1,R0 V0 (zp K0 V2)] V0 (zc 16777216) rfl hz hs g hl);refine ah (fB.has hd) λo' ho' d'=>?_;have kD:∀b o,b≠D->F.heap.get? b=xV o->h'.get? b=xV o:=λb o hb e=>(sb.2 b hb).trans e;refine⟨xs.length - (i+1),by rw[e];exact og g,Z,H₅,i+1,o',_,M,done++[.tup [.str ks,v]],_,rfl,g,X.pS ap.d h.nD b2 kD,h.atD w kD ap.id (OG ap.dc) (l5 h.nD) ho',d',by rw[Nv];rw[OA];exact Oi hs,?_,q,λvs H z=>?_⟩
   ·exact cn.snoc hkl hz'' (hv.mono λb o e=>r.mono _ _ (l.mono _ _ (f.mono _ _ e)))
   ·rw[NM];exact hQ _ _ z
end
section
variable {P:bx}{mg mb:NX->Nt Nz}{n:Nu}{pe:NO}{nms nms':Ni NX}{A:Oj}{ρ:Env}{W W' W₀:Wd}{H H' H₀:ae}{s s' s₀:NJ}{X:Prop}
variable {scope:Ru}{x:NX}{j:Nu}
set_option tactic.hygienic true in
def F1(g:PG P mg mb){TQ}(ca:gB pe nms scope x j nms')(hs:∀v,Qr itx pe v=pure v)(hi:SE P n pe nms itx it)(ht:Kw P n nms' pe scope ifs TQ)(hk:∀C,SE P n (eF scope pe C) nms' kx ke)(he:∀C,SE P n (eF scope pe C) nms' vx ve):
  SE P n pe nms (.DictComp kx vx [⟨.Name x px,itx,ifs,0⟩] scope pos) (.sr j it TQ ke ve):=by
 intro A ρ W H s Qf X a q;show bk P A (eval _ _) _ _ _;refine S4 rfl hs (jk ca.free) ca.kind ca.names (N4 (hi A ρ W H s _ X a q) (λv s₁ z_=>Mine.bo z_ λW₁ H₁ E z2_=>Mine.ah z2_ λu hu q=>?_) λ_ _ z=>z);refine ah (aM q) λxs hx q=>?_;have hz:=(q).1;have q:=(q).2;have h:=a.step E;refine ui h hx hu λr St w st=>?_;haveI kI:∀b o,s₁.heap.get? b=xV o->(s₁.heap.push r).get? b=xV o:=λb o e=>NI _ e;haveI room:=g.room (s:={ s₁ with heap:=s₁.heap.push r }) (h.hr.keeps kI);dsimp only at room;refine Qo (Uq ca.yS (by intro y hy;simp at hy) (λf B k=>?_) ca.kind);haveI hnew:((s₁.heap.push r).push { cls:=.type "dict",dict:=Nm,data:=.dict #[] }).DictOf (OD prog P.w) (s₁.heap.push r).objs.size []:=Heap.DictOf.new _;generalize hH2:(s₁.heap.push r).push { cls:=.type "dict",dict:=Nm,data:=.dict #[] }=H2 at B k hnew ⊢;haveI hI:s₁.heap.get? s₁.heap.objs.size=Nm:=eK _;haveI z1:(s₁.heap.push r).objs.size=s₁.heap.objs.size+1:=Pe ..;have z2:H2.objs.size=s₁.heap.objs.size+2:=by refine bB (NU hH2) ?_;rw[Pe];rw[z1];rfl
 have i:∀b,s₁.heap.objs.size<=b->s₁.heap.get? b=Nm:=by
  intro b hb;induction e:s₁.heap.get? b with
  |none=>rfl
  |some o=>exact NK (Oz e) (Pt.mpr hb)
 haveI hID:s₁.heap.objs.size≠(s₁.heap.push r).objs.size:=by rw[z1];exact OV (Oe _)
 haveI hIC:s₁.heap.objs.size≠H2.objs.size:=by exact nG [R3 V1 (zp V0 (zc 2))] (R3 V0 V1) rfl z2
 haveI hDC:(s₁.heap.push r).objs.size≠H2.objs.size:=by exact zN [_,_,_] [] [R2 V0 (S1 V2),R3 V1 (zp V2 (zc 2))] (R3 V0 V1) [1,1,1] rfl z1 z2
 have ap:il P s₁.heap s₁.heap.objs.size (s₁.heap.push r).objs.size H2.objs.size:=⟨hI,i _ (by rw[z1];exact GR),i _ (by rw[z2];exact GS),hID,hIC,hDC⟩;have D:∀b o,(s₁.heap.push r).get? b=xV o->f.get? b=xV o:=λb o e=>k.extBut b o (by haveI:=Oz e;replace this:=(z1)▸this;rw[z2];exact OV (NY this (Ql _))) (NI _ (hH2▸NI _ e));haveI old:∀b o,s₁.heap.get? b=xV o->f.get? b=xV o:=λb o e=>D _ _ (kI _ _ e);haveI hacc:=hnew.at λo e=>k.extBut _ _ hDC (NI _ e);refine ah (fB.has hacc) λo₀ hacc d₀=>?_;haveI T₂:Trans P W₁ H₁ s₁ W₁ H₁ { s₁ with heap:=f,toks:=s₁.toks+([]:Ni (NX×Nz)).length }:=Trans.of_keeps h.hr old rfl rfl;haveI p:∀b,s₁.heap.objs.size<=b->¬ f6 W₁ H₁ b:=by
  rintro b hb (hf|⟨o,e⟩)
  ·refine X1 (h.hr.dm hf) λo e=>?_;replace e:=(i b hb)▸e;contradiction
  ·haveI:=i b hb;replace this:=(h.hr.fz _ _ e)▸this;exact nomatch this
 haveI st₁:=w.keep 0 _ _ st (λo e=>D _ _ e) λb o _ e=>D _ _ e;haveI c:CS P A xs W₁ W₁ H₁ f s₁.heap.objs.size (s₁.heap.push r).objs.size H2.objs.size St 0 o₀ (λx=>([]:Ni (NX×Nz)).reverse.lookup x):=
  ⟨p _ (NA _),p _ (by rw[z1];exact GR),p _ (by rw[z2];exact GS),st₁,hacc,B,λ_ _ e=>e⟩
 haveI loop:UC (PJ prog P.w) A (.compLoop (.DictComp kx vx [⟨.Name x px,itx,ifs,0⟩] scope pos) 0 (.ref s₁.heap.objs.size) (.ref (s₁.heap.push r).objs.size) (eF scope pe H2.objs.size))
   (Xx (PJ prog P.w) A (cy P A W H s X) Nm (bC P W H s (SV P Qf)) (.ref (s₁.heap.push r).objs.size) H2.objs.size) { s₁ with heap:=f,toks:=s₁.toks+([]:Ni (NX×Nz)).length }:=
  xT h ca w ap hz ht hk he T₂ c d₀ q λW' H' s' o kvs m vs T nD nC hd d hn hv hb hq=>by
   have nn:∀b,s₁.heap.get? b=Nm->s.heap.get? b=Nm:=by
    intro b hb;induction e:s.heap.get? b with
    |none=>rfl
    |some o=>refine X1 (E.big b o e) λo' e'=>?_;rw[e'] at hb;exact nomatch hb
   refine⟨m,hn,λh' sb=>?_⟩;haveI T':=E.trans T;haveI T2:=T'.pS (t:=s'.toks) (nn _ ap.c) nC (a.hr.r8 (nn _ ap.c)) λb o hb e=>(sb.2 b hb).trans e;haveI T3:=T2.adopt (t:=s'.toks) (nn _ ap.d) (a.hr.r8 (nn _ ap.d)) nD (PO _ _) ((sb.2 _ hDC).trans hd);refine ah (aM hq) λz0_ hdc hq=>?_;obtain⟨ks,us⟩:=z0_;obtain⟨h1,kvs₂,h2,h3,h4⟩:=hv.done hdc (by simp);haveI h2:kvs=kvs₂:=by simpa using h2
   subst h2;haveI hl:=hv.length;refine⟨_,_,T3,.ec ks us,?_,hq⟩;refine⟨_,o,kvs,rfl,Wd.bP ..,room,d,by simp only[NL] at hl;simp only[aL];exact cj [R0 V1 (zc 1000),R0 V0 (zp K0 V1)] V0 (zc 1073741824) rfl hb hl,⟨h3,h1⟩,aB.mono (λb o e=>Wd.bQ (by
    induction e:W'.fz (s₁.heap.push r).objs.size with
    |none=>rfl
    |some o=>exact NK (.inr ⟨o,e⟩) nD) b o e) _ _ h4⟩
 exact codeAny_compStart_dict loop (w.self 0 _ _ _ st₁ loop)
end
noncomputable abbrev bx.on(P:bx)(B:Heap):bx:={ P with B:=B }
noncomputable abbrev Cj:ae:=λ_=>Nm
section
variable {s s':NJ}
noncomputable def Ah(l:Ni NO):Ni OO:=l.filterMap (·.frame)
def HM(he:e∈l)(hL:e.frame=xV L):L∈Ah l:=mem_filterMap.mpr ⟨e,he,hL⟩
def lQ(h:L∈Ah l):∃e∈l,e.frame=xV L:=mem_filterMap.mp h
def fU:¬ aW W Cj b:=by rintro(⟨z,e⟩|⟨d,c,fs,e,q⟩)<;>contradiction
def At.floor(a:At P A n pe nms W H s ρ)(m:A.frames=xV l):At (P.on (Xc s.heap (Ah l))) A n pe nms W Cj s ρ:=by
 have i:∀{b},¬ f6 W H b->¬ f6 W Cj b:=by
  rintro b h (q|q)
  ·exact fU q
  ·exact h (.inr q)
 refine⟨⟨a.hr.b0,λb o e=>of_hideAll _ e,a.hr.fz,λb y e=>(by contradiction),λb g=>NK g fU,λb g=>NK g fU,λb c fs e=>(by contradiction),λb c fs t r p e=>(by contradiction)⟩,⟨a.cx.hd,a.cx.depth,a.cx.units,?_,a.cx.lP⟩,?_⟩
 ·refine a9 a.cx.frames λl' f j k=>?_
  replace f:=(m)▸f;injection f with f;subst f
  exact⟨l,m,funFrames_hide j λe he L hL=>HM he hL,λe he L hL=>i (k e he L hL)⟩
 ·have F:=a.fr
  exact⟨F.kind,F.yv,F.blt,F.ns,F.cell,i F.wF,λx c e=>by refine A3 (F.jF x c e) ?_;intro f j k;exact⟨i f,j,k⟩,F.vi,F.nodup⟩
def Trans.floor(a:At P A n pe nms W H s ρ)(x:A.frames=xV l)(T:Trans (P.on (Xc s.heap (Ah l))) W Cj s W' H' s'):Trans P W H s W' H s':=by
 refine a9 a.cx.frames λl' k D E=>?_;replace k:=(x)▸k;injection k with k;subst k
 have hr:=a.hr;have p:∀b o,b∉Ah l->s.heap.get? b=xV o->s'.heap.get? b=xV o:=λb o f e=>T.hr.base _ _ (hideAll_get _ e f);haveI C:∀b,aW W H b->b∉Ah l:=by intro b f q;refine ah (lQ q) λe he hL=>?_;exact E e he b hL (.inl f)
 haveI nb:∀b o,P.B.get? b=xV o->b∉Ah l:=by intro b o e q;refine ah (lQ q) λF he hL=>?_;refine a9 (FunFrames.there D F he b hL) λ_ _ _ g=>?_;replace g:=(e)▸g;contradiction
 have i:∀b c fs,H b=xV (.inst c fs)->W'.dx b=W.dx b:=λb c fs e=>T.dx b (hr.dm (.inl ⟨_,e⟩));have h:∀b,aW W' H b->aW W H b:=by
  rintro b (⟨z,e⟩|⟨d,c,fs,e,q⟩)
  ·exact .inl ⟨z,e⟩
  ·exact .inr ⟨d,c,fs,e,by refine bB (NU (i d c fs e)) ?_;exact q⟩
 refine⟨⟨T.hr.b0,λb o e=>p b o (nb b o e) (hr.base _ _ e),T.hr.fz,λb y e=>?_,λb f=>hr.fy b (h b f),λb f=>?_,λb c fs e=>by rw[i b c fs e];exact hr.apart b c fs e,λb c fs t r m e j q=>hr.inj b c fs t r m e j (by refine bB (NU (i b c fs e)) ?_;refine bB (NU (i t r m j)) ?_;exact q)⟩,
  T.os,T.gens,T.mono,T.dx,λb o _ e=>T.keep b o fU e,λb f=>?_,T.big⟩
 ·exact(hr.live b y e).move e (λc o v j=>p c o (C c v) j) T.mono (T.dx b (hr.dm (.inl ⟨_,e⟩)))
 ·have f:=h b f
  refine X1 (hr.dm f) λo e=>?_;induction j:W'.fz b with
  |none=>rfl
  |some u=>
   rcases T.own b (.inr ⟨u,j⟩) with(q|⟨w,q⟩)|q
   ·exact NK q fU
   ·replace q:=(hr.dZ b f)▸q;contradiction
   ·replace q:=(e)▸q;contradiction
 ·rcases f with f|⟨o,e⟩
  ·exact .inl (.inl (h b f))
  ·rcases T.own b (.inr ⟨o,e⟩) with(q|q)|q
   ·exact NK q fU
   ·exact .inl (.inr q)
   ·exact .inr q
end
section
variable {X:Prop}
def mQ(a:At P A n pe nms W H s ρ)(m:A.frames=xV l)(os:s'.os=s.os)(gs:s'.gens=s.gens)(st:(Xc s.heap (Ah l)).StaysIn s'.heap)(up:∀b o,s.heap.get? b=xV o->(∀vs,o.data≠.fields vs)->∃j,s'.heap.get? b=xV { o with slots:=j }):Trans P W H s W H s':=by
 refine a9 a.cx.frames λl' f p r=>?_;replace f:=(m)▸f;injection f with f;subst f
 have hr:=a.hr;have i:∀b o,b∉Ah l->s.heap.get? b=xV o->s'.heap.get? b=xV o:=λb o k e=>st _ _ (hideAll_get _ e k);haveI u:∀b,aW W H b->b∉Ah l:=by intro b k q;refine ah (lQ q) λe he hL=>?_;exact r e he b hL (.inl k)
 haveI w:∀b o,W.fz b=xV o->b∉Ah l:=by intro b o e q;refine ah (lQ q) λd he hL=>?_;exact r d he b hL (.inr ⟨o,e⟩)
 haveI nb:∀b o,P.B.get? b=xV o->b∉Ah l:=by intro b o e q;refine ah (lQ q) λd he hL=>?_;refine a9 (FunFrames.there p d he b hL) λ_ _ _ g=>?_;replace g:=(e)▸g;contradiction
 have same:∀b o,s.heap.get? b=xV o->fw o (s'.heap.get? b):=by
  intro b o e;by_cases q:b∈Ah l
  ·refine ah (lQ q) λd he hL=>?_
   refine a9 (FunFrames.there p d he b hL) λz h x _=>?_;replace h:=(e)▸h;injection h with h;subst h
   refine X1 (up b o e x) λj g=>?_;exact .inr ⟨(a.cx.lP l m d he b hL).1 o e,j,g⟩
  ·exact .inl (i b o q e)
 refine⟨⟨hr.b0,λb o e=>i b o (nb b o e) (hr.base _ _ e),λb o e=>i b o (w b o e) (hr.fz _ _ e),λb y e=>(hr.live b y e).move e (λc o t v=>i c o (u c t) v) (λ_ _ e=>e) rfl,hr.fy,hr.dZ,hr.apart,hr.inj⟩,
  os,gs,λ_ _ e=>e,λ_ _=>rfl,λb o _ e=>same b o e,λ_ q=>.inl q,λb o e=>?_⟩
 rcases same b o e with q|⟨_,j,q⟩
 ·exact⟨_,q⟩
 ·exact⟨_,q⟩
end
section
variable {P:bx}{K:PS}{mg mb:NX->Nt Nz}{n:Nu}{pe:NO}{nms:Ni NX}
def Ju(g:PG P mg mb)(px:PX P K fI fd body)(V:nms[i]?=xV x)(hk:pe.kindOf x=xV .local\/pe.kindOf x=xV .cell)(hc:cJ e=Nk)(he:∀B,SE (P.on B) n pe nms e c)(hy:mg y=xV (.ref P.qR))(C:pe.kindOf y=xV .globalImplicit)(hd:aK y=Nk):
  SS P n pe nms (.Try [.Assign [.Name x p1] e p2] [.ExceptHandler (xV (.Name y p3)) Nm [.Assign [.Name x p4] (.Tuple [] k p5) p6] p7] [] [] pos) (.Gv i c (.tup .nil)):=by
 intro A ρ W H s N R Kc X w a q;refine X1 w.frs λr hr=>?_;obtain⟨nm,qn,N',bs,bm,sn,sub,ab,col,dd,k0,k1,k2,k3,k5,hC,T⟩:=px.cls;refine wpAny_Try_except (P8 (SN (N4 (he (Xc s.heap (Ah (pe::r))) A ρ W Cj s _ _ (a.floor hr) q) (λv s' z=>?_) λex s' z=>?_) (gw hc)))
 ·refine Mine.bo z λW' H' T' F=>?_;refine Mine.ah F λu hu q'=>?_
  haveI t:=Trans.floor a hr (T'.less (H₂:=Cj) λa o e=>by contradiction);refine gv w (a.step t) V hk hu λs'' f h=>?_;refine PU (PU ?_);exact⟨W',H,(TF.of t).trans f,_,h,q'⟩
 ·refine A5 z ?_;clear z;intro hX U Y p Z;refine ah p ?_;clear p;intro l m h5
  replace m:=(hr)▸m;injection m with m;subst m
  refine vH hr w.fra h5 λh1 k1 z_ k4=>Mine.bo z_ λa1 a0 k2 k3=>?_;rw[k2];refine W7 k3 λh2 I Q=>?_;haveI t:Trans P W H s W H { s' with heap:=h2 }:=mQ a hr U Y I.1 λb o e d=>by refine X1 (Z b o fU e d) λsl L=>?_;refine X1 (k4 b _ L d) λM D=>?_;refine X1 (Q b _ D d) λj G=>?_;exact⟨j,G⟩
  haveI a2:=a.step t;refine wpAny_handleBy_cons (codeAny_handlers_test (dn a2 g C hy ?_ hd)) (by intro q;contradiction);refine e9 I.first λoe ws g1 g2 g3 g4=>?_;refine wpAny_excMatches_sub_self (t.hr.lS hC) g1 g2 T.base ?_;refine codeAny_handlers_suite (lands_againW I λh3 i1 i2=>?_);have E:Trans P W H s W H { s' with heap:=h3 }:=mQ a hr U Y i1.1 λb o e d=>by refine X1 (Z b o fU e d) λsl L=>?_;refine X1 (k4 b _ L d) λM D=>?_;refine X1 (Q b _ D d) λj G=>?_;refine X1 (i2 b _ G d) λJ f4=>?_;exact⟨J,f4⟩
  haveI a3:=a.step E;refine P8 (SN (Tuple_ (Uh ?_)) (gw rfl));refine Qo ?_ (OL _);haveI O:=Trans.alloc (o:={ cls:=.type "tuple",data:=.seq ([]:Ni Nz).toArray }) E.hr rfl;refine gv (v:=.tup []) w (a3.step O) V hk ?_ λs'' f h=>?_
  ·exact⟨_,_,_,rfl,Wd.bP ..,by(decide),aB.nil⟩
  ·exact PU ⟨_,H,((TF.of E).trans (.of O)).trans f,_,h,hX⟩
end
noncomputable abbrev NS:=Ni (NX×RU)
noncomputable def Kb(x:NX)(o:Nt RU):NF:=match o with
 |some k=>(match k with|.local=>Nk|.cell=>Nk|.free=>!(x==("__classdict__" : NX))| _=>Nr)
 |none=>Nr
noncomputable def abV(o:Nt RU):NF:=match o with
 |some k=>(match k with|.local=>Nk|.cell=>Nk| _=>Nr)
 |none=>Nr
def abG(x:NX)(o:Nt RU):NF:=match o with
 |some k=>(match k with|.globalImplicit=>aK x| _=>Nr)
 |none=>Nr
def abL(ns:NS)(x:NX):NF:=Kb x (ns.lookup x)
def LH(ns:NS)(x:NX):NF:=abV (ns.lookup x)
def Ka(ns:NS)(x:NX):NF:=abG x (ns.lookup x)
def H5(h:Kb x o=Nk):o=xV .local\/o=xV .cell\/(o=xV .free/\(x==("__classdict__" : NX))=Nr):=by
 induction o with
 |none=>contradiction
 |some k=>
  induction k with
  | «local»=>exact .inl rfl
  |cell=>exact .inr (.inl rfl)
  |free=>exact .inr (.inr ⟨rfl,Qp _▸h⟩)
  | _=>contradiction
def Ez(h:abV o=Nk):o=xV .local\/o=xV .cell:=by
 induction o with
 |none=>contradiction
 |some k=>
  induction k with
  | «local»=>exact .inl rfl
  |cell=>exact .inr rfl
  | _=>contradiction
def Lw(h:abG x o=Nk):o=xV .globalImplicit/\aK x=Nk:=by
 induction o with
 |none=>contradiction
 |some k=>
  induction k with
  |globalImplicit=>exact⟨rfl,h⟩
  | _=>contradiction
noncomputable def fM(par ns:NS):NS:=ns.map λ(n,k)=>match k with
 |.free=>(match par.lookup n with|some .cell=>(n,.cell)| _=>(n,.free))
 |k=>(n,k)
noncomputable def caB(ns:NS)(nms:Ni NX)(scope:Ru)(x y:NX)(k:RU):NF:=match k with
 |.cell=>Nr
 |.local=>decide (scope.names.lookup y=xV .local)&&(decide (y=x)||decide (y∉nms))
 |.free=>decide (ns.lookup y=xV .cell)
 | _=>Nk
def nK(ns:NS)(nms:Ni NX)(scope:Ru)(x:NX)(j:Nu):NF:=
 decide (scope.kind=.function)&&decide (scope.names.lookup x=xV .local)&&decide (nms[j]?=xV x) &&
 scope.names.all λp=>caB ns nms scope x p.1 p.2
noncomputable def Fs(e:Expr):NF:=e.ctorIdx !=0&&e.ctorIdx !=3&&e.ctorIdx !=5&&e.ctorIdx !=15
noncomputable def wB(e:Expr):NF:=e.ctorIdx !=7
noncomputable def vf:eX->NX
 |.cursor=> "Cursor" |.decimal=> "Decimal" |.name=> "Name" |.string=> "String" |.reference=> "Reference" |.frame=> "Frame" |.bench=> "Bench" |.shelf=> "Shelf" |.stream=> "Stream"
noncomputable def aeT:Ni NX:=["is_done", "peek", "take", "starts", "skip", "skip_white", "take_regular", "skip_line_end", "text", "least_text", "wants_key"]
noncomputable def LN(m:Nu):NX:=aeT.getD m ""
def acM:Ty->NX
 |.bool=> "bool" |.int=> "int" |.list=> "list" |.dict=> "dict" |.own c=>vf c
noncomputable def Ag:Ni (Nt NX):=[xV ("is_white" : NX),xV ("is_regular" : NX),Nm,Nm,Nm,Nm,Nm,Nm,Nm,Nm,Nm,Nm,Nm,Nm,xV ("sign_text" : NX),xV ("read_decimal" : NX),Nm,Nm,Nm,xV ("kind_of" : NX),xV ("told_plain" : NX),xV ("told" : NX),xV ("parts_of" : NX),xV ("depth_of" : NX),Nm,xV ("text_octets" : NX),xV ("hex_pair" : NX),xV ("name_octets" : NX),xV ("whole_octets" : NX),xV ("decimal_octets" : NX),xV ("lone_brackets" : NX),xV ("literal_octets" : NX),xV ("hex_octets" : NX),xV ("string_octets" : NX),xV ("plain_part" : NX),xV ("lay_reference" : NX),xV ("lay_dict" : NX),xV ("lay_parts" : NX),xV ("run_together" : NX),xV ("joined_parts" : NX),xV ("write_object" : NX),Nm,xV ("object_of" : NX),xV ("octets_line" : NX),xV ("whole_in" : NX),xV ("numbers_in" : NX),xV ("object_asked" : NX),xV ("hex_worth" : NX),xV ("plain_escape" : NX),xV ("name_text" : NX),xV ("octal" : NX),xV ("escaped_codes" : NX),xV ("literal" : NX),xV ("hex_string" : NX),xV ("run_token" : NX),xV ("delimited_token" : NX),xV ("next_token" : NX),xV ("is_sign" : NX),Nm,Nm,xV ("is_whole" : NX),xV ("take_reference" : NX),xV ("word_value" : NX),xV ("plain_value" : NX),xV ("dict_of" : NX),xV ("close_frame" : NX),xV ("object_from" : NX),xV ("read_object" : NX),xV ("read_value" : NX),xV ("_law_draw" : NX),xV ("_law_plain" : NX),xV ("_law_object" : NX),xV ("_law_is_least" : NX),xV ("law" : NX),Nm]
noncomputable def pH(f:Nu):Nt NX:=Ag[f]?.join
def gF(x:NX)(f:Nu):NF:=decide (pH f=xV x)||(decide (f=21)&&decide (x = "told_objects"))
noncomputable def J4:dk->NF
 |.always=>Nk
 | _=>Nr
noncomputable def qz(e:Expr)(k:Const->NF):NF:=match e with|.Constant c _ _=>k c| _=>Nr
noncomputable def fL(e:Expr)(k:NX->NF):NF:=match e with|.Name x _=>k x| _=>Nr
noncomputable def FJ(e:Expr)(k:Ni Expr->NF):NF:=match e with|.Tuple es _ _=>k es| _=>Nr
noncomputable def FF(e:Expr)(k:Ni Expr->NF):NF:=match e with|.List es _=>k es| _=>Nr
noncomputable def AN(e:Expr)(k:Ni (Nt Expr)->Ni Expr->NF):NF:=match e with|.Dict kx vx _=>k kx vx| _=>Nr
noncomputable def wU(e:Expr)(k:Expr->NX->XM->NF):NF:=match e with|.Attribute e nm p=>k e nm p| _=>Nr
noncomputable def I4(e:Expr)(k:Expr->Expr->NF):NF:=match e with|.Subscript a b _=>k a b| _=>Nr
noncomputable def acq(e:Expr)(k:Nt Expr->Nt Expr->Nt Expr->NF):NF:=match e with|.Slice a b c _=>k a b c| _=>Nr
noncomputable def acn(e:Expr)(k:Expr->Operator->Expr->NF):NF:=match e with|.BinOp a o b _=>k a o b| _=>Nr
noncomputable def qUn(e:Expr)(k:UnaryOp->Expr->NF):NF:=match e with|.UnaryOp o e _=>k o e| _=>Nr
noncomputable def I0(e:Expr)(k:Expr->Ni CmpOp->Ni Expr->NF):NF:=match e with|.Compare a os es _=>k a os es| _=>Nr
noncomputable def wV(e:Expr)(k:BoolOp->Ni Expr->NF):NF:=match e with|.BoolOp o es _=>k o es| _=>Nr
noncomputable def acp(e:Expr)(k:Expr->Expr->Expr->NF):NF:=match e with|.IfExp a b c _=>k a b c| _=>Nr
noncomputable def qy(e:Expr)(k:Expr->Ni Expr->Ni XJ->XM->NF):NF:=match e with|.Call f es kw p=>k f es kw p| _=>Nr
noncomputable def qLC(e:Expr)(k:Expr->Ni S5->Ru->XM->NF):NF:=match e with|.ListComp a gs sc p=>k a gs sc p| _=>Nr
noncomputable def qDC(e:Expr)(k:Expr->Expr->Ni S5->Ru->NF):NF:=match e with|.DictComp a b gs sc _=>k a b gs sc| _=>Nr
noncomputable def fZ(l:Ni α):NF:=match l with|[]=>Nk| _=>Nr
noncomputable def hY(l:Ni α)(k:α->Ni α->NF):NF:=match l with|x::r=>k x r| _=>Nr
def g8(l:Ni α)(k:α->NF):NF:=hY l λx r=>fZ r&&k x
noncomputable def wW(o:Nt α)(k:α->NF):NF:=match o with|some x=>k x| _=>Nr
noncomputable def AP(o:Nt α):NF:=match o with|none=>Nk| _=>Nr
noncomputable def Mn(c:Const)(k:NX->NF):NF:=match c with|.str s=>k s| _=>Nr
noncomputable def J3:aF->NF
 |.absent=>Nk
 | _=>Nr
def Ml(o:Nt Expr)(c:aF)(k:Expr->NF):NF:=match o with|none=>J3 c|some e=>k e
def I3(l:Ni Expr)(t:dk)(k:Expr->NF):NF:=match l with|[]=>J4 t|e::r=>fZ r&&k e
def I1(gs:Ni S5)(k:NX->Expr->Ni Expr->NF):NF:=g8 gs λg=>fL g.target λx=>decide (g.is_async=0)&&k x g.iter g.ifs
noncomputable def mf:Ni (Ni Nu)->Ni (Nt Expr)->NF
 |[],l=>fZ l
 |k::ks,l=>hY l λo r=>wW o λe=>qz e λc=>Mn c λs=>decide (aw k=s)&&decide (k.length<=aL)&&mf ks r
noncomputable def Lh:tb->Nt Ty
 |.bA t=>xV t
 | _=>Nm
mutual
noncomputable def bz(top:NF)(ns:NS)(nms:Ni NX):aF->Expr->NF
 |.lit v,e=>qz e λc=>ab1 v c
 |.loc i,e=>fL e λx=>decide (nms[i]?=xV x)&&abL ns x&&aK x
 |.glob i,e=>fL e λx=>decide (i<30)&&decide (Ai i=x)&&Ka ns x
 |.absent,_=>Nr
 |.tup cs,e=>FJ e λes=>decide (es.length<=1000)&&fD top ns nms cs es
 |.eN cs,e=>FF e λes=>decide (es.length<=1000)&&fD top ns nms cs es
 |.iH cs,e=>FF e λes=>decide (es.length<=1000)&&fD top ns nms cs es
 |.rF,e=>AN e λkx vx=>fZ kx&&fZ vx
 |.ye ks cs,e=>AN e λkx vx=>mf ks kx&&decide (kx.length=vx.length)&&decide (kx.length<=15)&&decide (kx.length≠0)&&decide ((ks.map aw).Nodup)&&fD top ns nms cs vx
 |.DD i c,e=>AN e λkx vx=>g8 kx λo=>wW o λx=>qz x λcs=>decide (cs=.int i)&&g8 vx λe=>bz top ns nms c e
 |.attr c f,e=>wU e λe nm _=>decide (nm=az f)&&eQ e&&bz top ns nms c e
 |.idx a b,e=>I4 e λe₁ e₂=>qf e₂&&bz top ns nms a e₁&&bz top ns nms b e₂
 |.xn c cl ch,e=>I4 e λe sl=>acq sl λlo hi st=>AP st&&bz top ns nms c e&&Ml lo cl (λe=>bz top ns nms cl e)&&Ml hi ch (λe=>bz top ns nms ch e)
 |.bin op a b,e=>acn e λe₁ o e₂=>decide (o=LX op)&&bz top ns nms a e₁&&bz top ns nms b e₂
 |.neg c,e=>qUn e λo e=>decide (o=.USub)&&bz top ns nms c e
 |.not c,e=>qUn e λo e=>decide (o=.Not)&&bz top ns nms c e
 |.cmp op a b,e=>I0 e λe₁ os es=>g8 os λo=>g8 es λe₂=>decide (o=G6 op)&&!SY o e₂&&bz top ns nms a e₁&&bz top ns nms b e₂
 |.ig ..,_=>Nr
 |.and cs,e=>wV e λo es=>decide (o=.And)&&decide (es.length≠0)&&fD top ns nms cs es
 |.or cs,e=>wV e λo es=>decide (o=.Or)&&decide (es.length≠0)&&fD top ns nms cs es
 |.ite t a b,e=>acp e λe₁ e₂ e₃=>rp top ns nms t e₁&&bz top ns nms a e₂&&bz top ns nms b e₃
 |.call f cs,e=>qy e λg es kw _=>fL g λx=>fZ kw&&gF x f&&Ka ns x&&fD top ns nms cs es
 |.new c cs,e=>qy e λg es kw _=>fL g λx=>fZ kw&&decide (c≠.stream)&&decide (x=vf c)&&Ka ns x&&fD top ns nms cs es
 |.bM m c cs,e=>qy e λg es kw pos=>wU g λo nm apos=>fZ kw&&decide (nm=LN m)&&decide (m<11)&&eQ o&&(apos.endLine==pos.line)&&decide (es.length<29)&&bz top ns nms c o&&fD top ns nms cs es
 |.ao f cs,e=>qy e λg es kw _=>fL g λx=>fZ kw&&Ka ns x&&match Lh f with
  |some ty=>hY es λe r=>g8 r λe₂=>fL e₂ λy=>decide (x = "isinstance")&&decide (y=acM ty)&&Ka ns y&&fD top ns nms cs [e]
  |none=>decide (x=Dg f)&&fD top ns nms cs es
 |.aH m c cs,e=>qy e λg es kw pos=>wU g λo nm apos=>fZ kw&&decide (nm=EX m)&&eQ o&&(apos.endLine==pos.line)&&decide (es.length<29)&&bz top ns nms c o&&fD top ns nms cs es
 |.comp j it t c,e=>qLC e λelt gs scope _=>I1 gs λx iter ifs=>top&&nK ns nms scope x j&&wB iter&&bz top ns nms it iter&&I3 ifs t (λe=>rp Nr (fM ns scope.names) nms t e)&&bz Nr (fM ns scope.names) nms c elt
 |.sr j it t k v,e=>qDC e λkx vx gs scope=>I1 gs λx iter ifs=>top&&nK ns nms scope x j&&wB iter&&bz top ns nms it iter&&I3 ifs t (λe=>rp Nr (fM ns scope.names) nms t e)&&bz Nr (fM ns scope.names) nms k kx&&bz Nr (fM ns scope.names) nms v vx
 |.fail,_=>Nk
noncomputable def fD(top:NF)(ns:NS)(nms:Ni NX):cS->Ni Expr->NF
 |.nil,es=>fZ es
 |.cons c cs,es=>hY es λe es=>aR e&&bz top ns nms c e&&fD top ns nms cs es
noncomputable def rp(top:NF)(ns:NS)(nms:Ni NX):dk->Expr->NF
 |.always,_=>Nr
 |.tv c,e=>Fs e&&bz top ns nms c e
 |.not t,e=>qUn e λo e=>decide (o=.Not)&&rp top ns nms t e
 |.cmp op a b,e=>I0 e λe₁ os es=>g8 os λo=>g8 es λe₂=>decide (o=G6 op)&&!SY o e₂&&bz top ns nms a e₁&&bz top ns nms b e₂
 |.ig op op' a b c,e=>I0 e λe₁ os es=>hY os λo r=>g8 r λo'=>hY es λe₂ r=>g8 r λe₃=>decide (o=G6 op)&&decide (o'=G6 op')&&!lastMarks [o,o'] [e₂,e₃]&&bz top ns nms a e₁&&bz top ns nms b e₂&&bz top ns nms c e₃
 |.and ts,e=>wV e λo es=>decide (o=.And)&&zX top ns nms ts es
 |.or ts,e=>wV e λo es=>decide (o=.Or)&&zX top ns nms ts es
noncomputable def zX(top:NF)(ns:NS)(nms:Ni NX):iq->Ni Expr->NF
 |.nil,es=>fZ es
 |.cons t ts,es=>hY es λe es=>rp top ns nms t e&&zX top ns nms ts es
end
noncomputable def Ha(ns:NS)(nms:Ni NX):Ni Nu->Ni Expr->NF
 |[],es=>fZ es
 |i::is,es=>hY es λe es=>fL e λx=>decide (nms[i]?=xV x)&&LH ns x&&Ha ns nms is es
def Dt(ns:NS)(nms:Ni NX)(t:Expr)(is:Ni Nu):NF:=
 (g8 is λi=>fL t λx=>decide (nms[i]?=xV x)&&LH ns x)||(FJ t λes=>Ha ns nms is es&&decide (2<=is.length))
noncomputable def FD(c:aF)(k:Nu->aF->dk->aF->NF):NF:=match c with|.comp j it t c=>k j it t c| _=>Nr
def zU(ns:NS)(nms:Ni NX)(i:Nu)(c:aF)(y:NX)(py:XM)(e:Expr):NF:=
 FD c λj it t c=>qLC e λelt gs scope pos=>I1 gs λx iter ifs=>decide (nms[i]?=xV y)&&decide (ns.lookup y=xV .local)&&(py.line==pos.line)&&!(scope.names.any λ(n,k)=>n==y&&(k==.local||k==.cell)) &&
   nK ns nms scope x j&&wB iter&&bz Nk ns nms it iter&&I3 ifs t (λe=>rp Nr (fM ns scope.names) nms t e)&&bz Nr (fM ns scope.names) nms c elt
def ze(s:QS)(k:Expr->Expr->NF):NF:=match s with|.Assign ts e _=>g8 ts λt=>k t e| _=>Nr
noncomputable def acs(s:QS)(k:Expr->NF):NF:=match s with|.Expr e _=>k e| _=>Nr
noncomputable def acw(s:QS)(k:Nt Expr->NF):NF:=match s with|.Return e _=>k e| _=>Nr
noncomputable def sIf(s:QS)(k:Expr->Ni QS->Ni QS->NF):NF:=match s with|.If e a b _=>k e a b| _=>Nr
noncomputable def F7(s:QS)(k:Expr->Ni QS->Ni QS->NF):NF:=match s with|.While e a b _=>k e a b| _=>Nr
noncomputable def acu(s:QS)(k:Expr->Expr->Ni QS->Ni QS->NF):NF:=match s with|.For t e a b _=>k t e a b| _=>Nr
noncomputable def Kq(s:QS):NF:=match s with|.Continue _=>Nk| _=>Nr
noncomputable def F4(s:QS)(k:Nt Expr->Nt Expr->NF):NF:=match s with|.Raise a b _=>k a b| _=>Nr
noncomputable def acz(s:QS)(k:Ni QS->Ni UQ->Ni QS->Ni QS->NF):NF:=match s with|.Try a b c d _=>k a b c d| _=>Nr
noncomputable def FG(e:Expr)(k:NX->XM->NF):NF:=match e with|.Name x p=>k x p| _=>Nr
noncomputable def Em:aF->NF
 |.tup .nil=>Nk
 | _=>Nr
noncomputable def Kl(h:UQ)(k:Nt Expr->Nt NX->Ni QS->NF):NF:=match h with|.ExceptHandler t n b _=>k t n b
mutual
noncomputable def xR(ns:NS)(nms:Ni NX):Nu->aq->QS->NF
 | 0,_,_=>Nr
 |n+1,c,st=>match c with
  |.asg i c=>ze st λt e=>FG t λx px=>(cJ e&&decide (nms[i]?=xV x)&&LH ns x&&bz Nk ns nms c e)||zU ns nms i c x px e
  |.c9 co f c=>ze st λt e=>wU t λo nm _=>decide (nm=az f)&&cJ e&&bz Nk ns nms co o&&bz Nk ns nms c e
  |.qW co ci c=>ze st λt e=>I4 t λo i=>cJ e&&bz Nk ns nms co o&&bz Nk ns nms ci i&&bz Nk ns nms c e
  |.uY is c=>ze st λt e=>FJ t λes=>Ha ns nms is es&&cJ e&&E7 e&&bz Nk ns nms c e
  |.exp c=>acs st λe=>cJ e&&bz Nk ns nms c e
  |.ret c=>acw st λo=>Ml o c λe=>bz Nk ns nms c e
  |.ite t a b=>sIf st λe bs os=>rp Nk ns nms t e&&jf ns nms n a bs&&jf ns nms n b os
  |.loop t b=>F7 st λe bs os=>fZ os&&rp Nk ns nms t e&&jf ns nms n b bs
  |.each is c b=>acu st λt e bs os=>fZ os&&wB e&&Dt ns nms t is&&bz Nk ns nms c e&&jf ns nms n b bs
  |.cont=>Kq st
  |.fault c=>F4 st λx y=>AP y&&wW x λx=>qy x λg es kw _=>fZ kw&&fL g λx=>hY es λe₁ r=>g8 r λe=>qz e₁ λcs=>Mn cs λm=>decide (x = "SyntaxFault")&&Ka ns x&&decide (m.cps.size<=1000)&&aR e&&bz Nk ns nms c e
  |.Gv i c h=>Em h&&acz st λb hs o f=>fZ o&&fZ f&&g8 b λs=>ze s λt e=>fL t λx=>g8 hs λh=>Kl h λty nm hb=>AP nm&&wW ty λty=>fL ty λy=>g8 hb λs=>ze s λt e'=>fL t λx'=>FJ e' λes=>fZ es &&
     decide (nms[i]?=xV x)&&LH ns x&&decide (x=x')&&cJ e&&decide (y = "SyntaxFault")&&Ka ns y&&bz Nk ns nms c e
  |.fail=>Nk
  | _=>Nr
noncomputable def jf(ns:NS)(nms:Ni NX):Nu->aq->Ni QS->NF
 | 0,_,_=>Nr
 |n+1,c,ss=>match c with
  |.skip=>fZ ss
  |.seq a b=>match a with
   |.freeze _=>jf ns nms n b ss
   |.km _ _=>jf ns nms n b ss
   |a=>hY ss λs ss=>xR ns nms n a s&&jf ns nms n b ss
  |.fail=>Nk
  |c=>g8 ss λs=>xR ns nms n c s
end
structure gc(pe:NO)(ns:NS):Prop where
 kind:pe.scope.kind=.function
 names:pe.scope.names=ns
def e7(pe:NO)(ns:NS):Prop:=∀y,ns.lookup y=xV .cell->(pe.cells.lookup y).isSome=Nk
structure xy(P:bx)(K:PS)(mg mb:NX->Nt Nz)(d6:Nu->OO):Prop where
 pg:PG P mg mb
 pc:PC P K
 fn:∀f x,pH f=xV x->mg x=xV (.ref (d6 f))/\∃o fd,P.B0.get? (d6 f)=xV o/\o.data=.func fd
 acJ:mg "told_objects" = xV (.ref (d6 21))
 cls:∀c,c≠.stream->mg (vf c)=xV (.ref (P.cA c))
 ty:∀ty,xA P mg mb (acM ty) ty
 bM:∀c m f,fT c m=xV f->P0 K (.ref (P.cA c)) (LN m)=xV (xV (.ref (d6 f)))/\TB K (.ref (d6 f))=xV (.type "function")/\∃o fd,P.B0.get? (d6 f)=xV o/\o.data=.func fd
 new:∀c,c≠.stream->Xa K (.ref (P.cA c))=Nk/\XK K (P.cA c)=Nk/\P0 K (.ref (P.cA c)) "__init__" = xV (xV (.ref (d6 (jG c))))/\TB K (.ref (d6 (jG c)))=xV (.type "function")
 sf:mg "SyntaxFault" = xV (.ref P.qR)
 px:∃fI fd body,PX P K fI fd body
section
variable {P:bx}{K:PS}{mg mb:NX->Nt Nz}{d6:Nu->OO}{n:Nu}
def gc.kindOf(p:gc pe ns)(x):pe.kindOf x=ns.lookup x:=by show pe.scope.names.lookup x=_;rw[p.names];rfl
def H7(p:gc pe ns)(h:abL ns x=Nk):pe.kindOf x=xV .local\/pe.kindOf x=xV .cell\/(pe.kindOf x=xV .free/\(x==("__classdict__" : NX))=Nr):=p.kindOf x▸H5 h
def uk(p:gc pe ns)(h:LH ns x=Nk):pe.kindOf x=xV .local\/pe.kindOf x=xV .cell:=p.kindOf x▸Ez h
def iE(p:gc pe ns)(h:Ka ns x=Nk):pe.kindOf x=xV .globalImplicit/\aK x=Nk:=p.kindOf x▸Lw h
def df(p:gc pe ns)(scope)(hk:scope.kind=.function)(C):gc (eF scope pe C) (fM ns scope.names):=by
 refine⟨hk,?_⟩;refine map_congr_left λa _=>a.rec λy k=>?_;dsimp only;rw[p.kind];rw[p.kindOf];induction k<;>simp
 induction e:ns.lookup y with
 |none=>(rfl)
 |some k=>clear e;induction k<;>(rfl)
def fH[BEq α][LawfulBEq α]:∀{l:Ni (α×β)},l.lookup x=xV v->(x,v)∈l:=by
 intro b;induction b with
 |nil=>
  intro d
  first|(contradiction;done)|(exact nomatch d)|contradiction
 |cons c r a=>
  obtain⟨y,u⟩:=c;intro h;rw[Py] at h;induction e:x==y with
  |true=>replace h:=(e)▸h;injection h with h;clear a;subst h;rw[Ob.mp e];exact .head _
  |false=>rw[e] at h;exact .tail _ (a h)
def lB(p:gc pe ns)(cl:e7 pe ns)(l:nms.Nodup)(h:nK ns nms scope x j=Nk):gB pe nms scope x j nms:=by
 haveI g:=NQ.mp h;haveI d:=NQ.mp g.1;haveI f:=NQ.mp d.1;have c:∀y k,(y,k)∈scope.names->caB ns nms scope x y k=Nk:=λy k b=>all_eq_true.mp g.2 (y,k) b;have lo:∀y,caB ns nms scope x y .local=Nk->scope.names.lookup y=xV .local/\(y=x\/y∉nms):=λy q=>
  ⟨N0 (NQ.mp q).1,(OK.mp (NQ.mp q).2).imp N0 N0⟩
 refine⟨N0 f.1,N0 f.2,λy b=>(lo y (c _ _ (fH b))).2,λy b e=>?_,λy b e=>?_,λy b e=>?_,N0 d.2,λi y hi b e=>?_,l⟩
 ·exact Oh ((e▸c y.1 y.2 b:caB ns nms scope x y.1 .cell=Nk):Nr=Nk)
 ·exact cl y.1 (N0 (e▸c y.1 y.2 b:caB ns nms scope x y.1 .free=Nk))
 ·exact(lo y.1 (e▸c y.1 y.2 b)).1
 ·exact⟨b,.inl (by rw[p.kindOf];exact N0 (c _ _ (fH e)))⟩
def ai(h:(a&&b)=Nk):a=Nk:=(NQ.mp h).1
def ay(h:(a&&b)=Nk):b=Nk:=(NQ.mp h).2
def bh[Pw p](h:decide p=Nk):p:=N0 h
def nnx(h:(!b)=Nk):b=Nr:=by induction b;rfl;injection h
def ez{M:Prop}(h:Nr=Nk):M:=Oh h
section
variable {M:Expr->Prop}{e:Expr}
@[elab_as_elim] def kY{k}(h:qz e k=Nk)(K:∀c n p,k c=Nk->M (.Constant c n p)):M e:=by induction e using NZ<;>first|exact K _ _ _ h|exact ez h
@[elab_as_elim] def cK{k}(h:fL e k=Nk)(K:∀x p,k x=Nk->M (.Name x p)):M e:=by induction e using NZ<;>first|exact K _ _ h|exact ez h
@[elab_as_elim] def FH{k}(h:FG e k=Nk)(K:∀x p,k x p=Nk->M (.Name x p)):M e:=by induction e using NZ<;>first|exact K _ _ h|exact ez h
@[elab_as_elim] def uB{k}(h:FJ e k=Nk)(K:∀es n p,k es=Nk->M (.Tuple es n p)):M e:=by induction e using NZ<;>first|exact K _ _ _ h|exact ez h
@[elab_as_elim] def AO{k}(h:FF e k=Nk)(K:∀es p,k es=Nk->M (.List es p)):M e:=by induction e using NZ<;>first|exact K _ _ h|exact ez h
@[elab_as_elim] def uz{k}(h:AN e k=Nk)(K:∀x v p,k x v=Nk->M (.Dict x v p)):M e:=by induction e using NZ<;>first|exact K _ _ _ h|exact ez h
@[elab_as_elim] def n5{k}(h:wU e k=Nk)(K:∀o nm p,k o nm p=Nk->M (.Attribute o nm p)):M e:=by induction e using NZ<;>first|exact K _ _ _ h|exact ez h
@[elab_as_elim] def y8{k}(h:I4 e k=Nk)(K:∀a b p,k a b=Nk->M (.Subscript a b p)):M e:=by induction e using NZ<;>first|exact K _ _ _ h|exact ez h
@[elab_as_elim] def Mm{k}(h:acq e k=Nk)(K:∀a b c p,k a b c=Nk->M (.Slice a b c p)):M e:=by induction e using NZ<;>first|exact K _ _ _ _ h|exact ez h
@[elab_as_elim] def Mj{k}(h:acn e k=Nk)(K:∀a o b p,k a o b=Nk->M (.BinOp a o b p)):M e:=by induction e using NZ<;>first|exact K _ _ _ _ h|exact ez h
@[elab_as_elim] def FK{k:UnaryOp->Expr->NF}(h:qUn e k=Nk)(K:∀o a p,k o a=Nk->M (.UnaryOp o a p)):M e:=by induction e using NZ<;>first|exact K _ _ _ h|exact ez h
@[elab_as_elim] def y6{k}(h:I0 e k=Nk)(K:∀a os es p,k a os es=Nk->M (.Compare a os es p)):M e:=by induction e using NZ<;>first|exact K _ _ _ _ h|exact ez h
@[elab_as_elim] def n6{k:BoolOp->Ni Expr->NF}(h:wV e k=Nk)(K:∀o es p,k o es=Nk->M (.BoolOp o es p)):M e:=by induction e using NZ<;>first|exact K _ _ _ h|exact ez h
@[elab_as_elim] def Mk{k}(h:acp e k=Nk)(K:∀a b c p,k a b c=Nk->M (.IfExp a b c p)):M e:=by induction e using NZ<;>first|exact K _ _ _ _ h|exact ez h
@[elab_as_elim] def i7{k}(h:qy e k=Nk)(K:∀f es kw p,k f es kw p=Nk->M (.Call f es kw p)):M e:=by induction e using NZ<;>first|exact K _ _ _ _ h|exact ez h
@[elab_as_elim] def Km{k}(h:qLC e k=Nk)(K:∀a gs b p,k a gs b p=Nk->M (.ListComp a gs b p)):M e:=by induction e using NZ<;>first|exact K _ _ _ _ h|exact ez h
@[elab_as_elim] def aco{k}(h:qDC e k=Nk)(K:∀a b gs c p,k a b gs c=Nk->M (.DictComp a b gs c p)):M e:=by induction e using NZ<;>first|exact K _ _ _ _ _ h|exact ez h
end
@[elab_as_elim] def bW{M:Ni α->Prop}(h:fZ l=Nk)(K:M []):M l:=by induction l;exact K;exact ez h
@[elab_as_elim] def ea{M:Ni α->Prop}(h:hY l k=Nk)(K:∀x r,k x r=Nk->M (x::r)):M l:=by induction l;exact ez h;exact K _ _ h
@[elab_as_elim] def cz{M:Ni α->Prop}(h:g8 l k=Nk)(K:∀x,k x=Nk->M [x]):M l:=ea h λx r h=>bW (ai h) (K x (ay h))
@[elab_as_elim] def n7{M:Nt α->Prop}(h:wW o k=Nk)(K:∀x,k x=Nk->M (xV x)):M o:=by induction o;exact ez h;exact K _ h
@[elab_as_elim] def uA{M:Nt α->Prop}(h:AP o=Nk)(K:M Nm):M o:=by induction o;exact K;exact ez h
@[elab_as_elim] def FI{M:Const->Prop}(h:Mn c k=Nk)(K:∀s,k s=Nk->M (.str s)):M c:=by induction c<;>first|exact K _ h|exact ez h
@[elab_as_elim] def y7{M:Ni S5->Prop}(h:I1 gs k=Nk)(K:∀x p iter ifs,k x iter ifs=Nk->M [⟨.Name x p,iter,ifs,0⟩]):M gs:=by refine cz h λg h=>?_;obtain⟨t,it,ifs,a⟩:=g;refine cK (M:=λt=>M [⟨t,it,ifs,a⟩]) h λx p h=>?_;have e:=bh (ai h);dsimp only at e;subst e;exact K x p it ifs (ay h)
@[elab_as_elim] def ug{M:aF->Prop}(h:J3 c=Nk)(K:M .absent):M c:=by induction c using Mine.aF.casesOn<;>first|exact K|exact ez h
@[elab_as_elim] def HW{M:dk->Prop}(h:J4 c=Nk)(K:M .always):M c:=by induction c using Mine.dk.casesOn<;>first|exact K|exact ez h
def Li(h:Lh f=xV t):f=.bA t:=by induction f<;>first|(injection h with h;subst h;rfl)|contradiction
def uL:∀{ks:Ni (Ni Nu)}{kx:Ni (Nt Expr)},mf ks kx=Nk->∃es:Ni Expr,kx=es.map xV/\r5 (OD prog w) pe es (ks.map aw)/\∀k∈ks,k.length<=aL:=by
 intro d;induction d with
 |nil=>intro kx h;exact bW h ⟨[],rfl,trivial,λ_ h=>(by contradiction)⟩
 |cons k ks b=>
  intro kx h;refine ea h λo r h=>?_;refine n7 h λe h=>?_;refine kY h λc n p h=>?_;refine FI h λs h=>?_;refine a9 (b (ay h)) λf j i g=>?_;exact⟨_::f,by rw[j];rfl,⟨EC (bh (ai (ai h))),i⟩,λk' hk=>by
   rcases NH.mp hk with q|q
   ·rw[q];exact bh (ay (ai h))
   ·exact g k' q⟩
theorem dB:∀{es}{cs},es.all aR=Nk->qU P n pe nms es cs->Bi P n pe nms es cs
 |[],.nil=>λ_ _=>AU
 |[],.cons ..=>λ_ h=>h.elim
 | _::_,.nil=>λ_ h=>h.elim
 |e::es,.cons c cs=>λa h=>by rw[Vh,Od] at a;exact qD a.1 h.1 (dB a.2 h.2)
theorem vF:∀{es}{cs},es.length≠0->qU P n pe nms es cs->SE P n pe nms (.BoolOp .And es pos) (.and cs)
 |[],_=>λh _=>NK rfl h
 | _::_,.nil=>λ_ h=>h.elim
 |[e],.cons c .nil=>λ_ h=>I8 h.1
 |[_],.cons _ (.cons ..)=>λ_ h=>h.2.elim
 | _::_::_,.cons _ .nil=>λ_ h=>h.2.elim
 |e::e'::es,.cons c (.cons c' cs)=>λ_ h=>Ms h.1 (vF (by intro h;injection h) h.2)
theorem z3:∀{es}{cs},es.length≠0->qU P n pe nms es cs->SE P n pe nms (.BoolOp .Or es pos) (.or cs)
 |[],_=>λh _=>NK rfl h
 | _::_,.nil=>λ_ h=>h.elim
 |[e],.cons c .nil=>λ_ h=>MB h.1
 |[_],.cons _ (.cons ..)=>λ_ h=>h.2.elim
 | _::_::_,.cons _ .nil=>λ_ h=>h.2.elim
 |e::e'::es,.cons c (.cons c' cs)=>λ_ h=>acr h.1 (z3 (by intro h;injection h) h.2)
def Cp(h:Fs e=Nk):∀a,isTrue e pe a=(do let v <- a;WX e.pos;holding [v] (XB v)):=by intro a;induction e using NZ<;>first|rfl|exact Oh h
def kP(h:wB e=Nk):∀v,Qr e pe v=pure v:=by intro v;induction e using NZ<;>first|rfl|exact Oh h
def Je:SE P n pe nms e .fail:=λ_ _ _ _ _ _ _ _ q=>Rb q
noncomputable def aaP:Ni jx:=[.data,.at,.stop,.top,.places,.text,.octets,.isHex,.number,.generation,.mark,.items,.base,.shelf,.table,.trailer]
def E0(f):f∈aaP:=by induction f<;>decide
def mOk:NF:=[eX.cursor,.decimal,.name,.string,.reference,.frame,.bench,.shelf,.stream].all λc=>(Pr 11).all λm=>(fT c m).isNone||((aG c).all (λg=>decide (LN m≠az g))&&(bq c||aaP.all λg=>decide (LN m≠az g)))
def Iq:mOk=Nk:=by decide +kernel
def B9(c):(E4 c).length<=11:=by induction c<;>decide
def jP(h:fT c m=xV f):m<11:=by
 haveI a:=B9 c;unfold fT at h;induction e:(E4 c)[m]? with
 |none=>replace h:=(e)▸h;contradiction
 |some x=>have:=(Ou.mp e).1;exact Nj this a
def Az(c):c∈[eX.cursor,.decimal,.name,.string,.reference,.frame,.bench,.shelf,.stream]:=by induction c<;>decide
def EY(c)(m f)(h:fT c m=xV f):(∀g∈aG c,LN m≠az g)/\(bq c=Nr->∀g,LN m≠az g):=by haveI:=all_eq_true.mp (all_eq_true.mp Iq c (Az c)) m (mem_range.mpr (jP h));rw[h,isNone_some,UR] at this;refine⟨λg a=>bh (all_eq_true.mp (ai this) g a),λq g=>?_⟩;haveI:=ay this;rw[q,UR] at this;exact bh (all_eq_true.mp this g (E0 g))
def abh(T:xy P K mg mb d6)(ok:∀f,cP P n f (d6 f))(h:gF x f=Nk)(c:pe.kindOf x=xV .globalImplicit)(d:aK x=Nk)(k2:es.all aR=Nk)(k:Bi P n pe nms es cs):SE P n pe nms (.Call (.Name x xp) es [] pos) (.call f cs):=by
 simp only[gF,PV,Od,N8] at h;rcases h with g|⟨rfl,rfl⟩
 ·obtain⟨e,o,fd,b,a⟩:=T.fn f _ g
  exact AS T.pg ⟨o,b,a⟩ (ok f) e c d k2 k
 ·obtain⟨_,o,fd,b,a⟩:=T.fn 21 "told" rfl
  exact AS T.pg ⟨o,b,a⟩ (ok _) T.acJ c d k2 k
def B2(T:xy P K mg mb d6){x y:NX}(h:x = "isinstance")(b:pe.kindOf x=xV .globalImplicit)(g:aK x=Nk)(a:xA P mg mb y ty)(f:pe.kindOf y=xV .globalImplicit)(d:aK y=Nk)(k:qU P n pe nms [e] cs)(k2:[e].all aR=Nk):SE P n pe nms (.Call (.Name x xp) [e,.Name y yp] [] pos) (.ao (.bA ty) cs):=
 match cs,k with
 |.cons c .nil,k=>CD T.pg T.pc h b g a f d (ai k2) k.1
def yB{scope:Ru}{ns:NS}(h:I3 ifs t k=Nk)(K:∀e C,k e=Nk->lq P n (eF scope pe C) nms e t):(ifs=[]/\t=.always)\/∃e,ifs=[e]/\∀C,lq P n (eF scope pe C) nms e t:=by
 induction ifs using Nw with
 |nil=>exact .inl ⟨rfl,HW h rfl⟩
 |cons e r=>haveI h:=h;exact bW (ai h) (.inr ⟨e,rfl,λC=>K e C (ay h)⟩)
mutual
theorem aC(T:xy P K mg mb d6)(ok:∀f,cP P n f (d6 f))(nms:Ni NX)(hn:nms.Nodup):∀(c:aF)(top:NF)(ns:NS)(pe:NO)(e:Expr),gc pe ns->(top=Nk->e7 pe ns)->bz top ns nms c e=Nk->SE P n pe nms e c
 |.lit v,top,ns,pe,e,p,cl,h=>kY h λ_ _ _ h=>F3 h
 |.loc i,top,ns,pe,e,p,cl,h=>cK h λ_ _ h=>Mx (bh (ai (ai h))) (H7 p (ay (ai h))) (ay h)
 |.glob i,top,ns,pe,e,p,cl,h=>cK h λ_ _ h=>Jf T.pg (bh (ai (ai h))) (bh (ay (ai h))) (iE p (ay h)).1 (iE p (ay h)).2
 |.absent,top,ns,pe,e,p,cl,h=>ez h
 |.tup cs,top,ns,pe,e,p,cl,h=>uB h λes _ _ h=>MD (bh (ai h)) (dB (ba T ok nms hn cs top ns pe es p cl (ay h)).2 (ba T ok nms hn cs top ns pe es p cl (ay h)).1)
 |.eN cs,top,ns,pe,e,p,cl,h=>AO h λes _ h=>Jg (bh (ai h)) (dB (ba T ok nms hn cs top ns pe es p cl (ay h)).2 (ba T ok nms hn cs top ns pe es p cl (ay h)).1)
 |.iH cs,top,ns,pe,e,p,cl,h=>AO h λes _ h=>Jh (bh (ai h)) (dB (ba T ok nms hn cs top ns pe es p cl (ay h)).2 (ba T ok nms hn cs top ns pe es p cl (ay h)).1)
 |.rF,top,ns,pe,e,p,cl,h=>uz h λx v _ h=>bW (M:=λx=>SE P n pe nms (.Dict x v _) .rF) (ai h) (bW (ay h) (Jd T.pg))
 |.ye ks cs,top,ns,pe,e,p,cl,h=>by refine uz h λkx vx _ h=>?_;refine a9 (uL (w:=P.w) (pe:=pe) (ai (ai (ai (ai (ai h)))))) λes e1 e2 e3=>?_;subst e1;have s:=bh (ay (ai (ai (ai (ai h)))));have h3:=bh (ay (ai (ai (ai h))));have H:=bh (ay (ai (ai h)));rw[NR] at s h3 H;exact Jb T.pg e2 (ba T ok nms hn cs top ns pe vx p cl (ay h)).1 s (λq=>H (by rw[q];rfl)) h3 (bh (ay (ai h))) e3
 |.DD i c,top,ns,pe,e,p,cl,h=>by refine uz h λkx vx _ h=>?_;refine cz h λo h=>?_;refine n7 h λx h=>?_;refine kY h λcs _ _ h=>?_;have e:=bh (ai h);subst e;exact cz (ay h) λe h=>Jc T.pg (aC T ok nms hn c top ns pe e p cl h)
 |.attr c f,top,ns,pe,e,p,cl,h=>n5 h λo _ _ h=>I9 T.pc (bh (ai (ai h))) (ay (ai h)) (aC T ok nms hn c top ns pe o p cl (ay h))
 |.idx a b,top,ns,pe,e,p,cl,h=>y8 h λx y _ h=>Mv (ai (ai h)) (aC T ok nms hn a top ns pe x p cl (ay (ai h))) (aC T ok nms hn b top ns pe y p cl (ay h))
 |.xn c a b,top,ns,pe,e,p,cl,h=>by
  refine y8 h λx sl _ h=>?_;refine Mm h λlo hi st _ h=>?_;refine uA (ai (ai (ai h))) ?_;refine MC (aC T ok nms hn c top ns pe x p cl (ay (ai (ai h)))) ?_ ?_
  ·have h:=ay (ai h)
   induction lo with
   |none=>exact ug h w6
   |some x=>exact w7 (aC T ok nms hn a top ns pe x p cl h)
  ·have h:=ay h
   induction hi with
   |none=>exact ug h w6
   |some x=>exact w7 (aC T ok nms hn b top ns pe x p cl h)
 |.bin op a b,top,ns,pe,e,p,cl,h=>Mj h λx _ y _ h=>Mt (bh (ai (ai h))) (aC T ok nms hn a top ns pe x p cl (ay (ai h))) (aC T ok nms hn b top ns pe y p cl (ay h))
 |.neg c,top,ns,pe,e,p,cl,h=>FK h λo x _ h=>(bh (ai h)).symm▸My (aC T ok nms hn c top ns pe x p cl (ay h))
 |.not c,top,ns,pe,e,p,cl,h=>FK h λo x _ h=>(bh (ai h)).symm▸MA (aC T ok nms hn c top ns pe x p cl (ay h))
 |.cmp op a b,top,ns,pe,e,p,cl,h=>y6 h λx os es _ h=>cz (M:=λos=>SE P n pe nms (.Compare x os es _) (.cmp op a b)) h λo h=>cz (M:=λes=>SE P n pe nms (.Compare x [o] es _) (.cmp op a b)) h λy h=>Mu (bh (ai (ai (ai h)))) (nnx (ay (ai (ai h)))) (aC T ok nms hn a top ns pe x p cl (ay (ai h))) (aC T ok nms hn b top ns pe y p cl (ay h))
 |.ig ..,top,ns,pe,e,p,cl,h=>ez h
 |.and cs,top,ns,pe,e,p,cl,h=>n6 h λo es _ h=>(bh (ai (ai h))).symm▸vF (bh (ay (ai h))) (ba T ok nms hn cs top ns pe es p cl (ay h)).1
 |.or cs,top,ns,pe,e,p,cl,h=>n6 h λo es _ h=>(bh (ai (ai h))).symm▸z3 (bh (ay (ai h))) (ba T ok nms hn cs top ns pe es p cl (ay h)).1
 |.ite t a b,top,ns,pe,e,p,cl,h=>Mk h λx y z _ h=>Mw (gJ T ok nms hn t top ns pe x p cl (ai (ai h))) (aC T ok nms hn a top ns pe y p cl (ay (ai h))) (aC T ok nms hn b top ns pe z p cl (ay h))
 |.call f cs,top,ns,pe,e,p,cl,h=>by refine i7 (e:=e) h λg es kw _ h=>?_;refine cK (e:=g) h λx _ h=>?_;refine bW (l:=kw) (ai (ai (ai h))) ?_;have k:=ba T ok nms hn cs top ns pe es p cl (ay h);have g:=iE p (ay (ai h));exact abh T ok (ay (ai (ai h))) g.1 g.2 k.2 (dB k.2 k.1)
 |.new c cs,top,ns,pe,e,p,cl,h=>by refine i7 (e:=e) h λg es kw _ h=>?_;refine cK (e:=g) h λx _ h=>?_;refine bW (l:=kw) (ai (ai (ai (ai h)))) ?_;have k:=ba T ok nms hn cs top ns pe es p cl (ay h);have g:=iE p (ay (ai h));have h0:=bh (ay (ai (ai (ai h))));have D:=T.new c h0;exact Mz T.pg T.pc ⟨D.1,D.2.1,D.2.2.1,D.2.2.2,ok _⟩ ((bh (ay (ai (ai h))))▸T.cls c h0) g.1 g.2 k.2 (dB k.2 k.1)
 |.bM m c cs,top,ns,pe,e,p,cl,h=>by refine i7 (e:=e) h λg es kw _ h=>?_;refine n5 (e:=g) h λo nm ap h=>?_;refine bW (l:=kw) (ai (ai (ai (ai (ai (ai (ai h))))))) ?_;have k:=ba T ok nms hn cs top ns pe es p cl (ay h);have e:=bh (ay (ai (ai (ai (ai (ai (ai h)))))));subst e;refine Ji T.pc (ay (ai (ai (ai (ai h))))) (ay (ai (ai (ai h)))) k.2 (bh (ay (ai (ai h)))) (λc f hm=>?_) (aC T ok nms hn c top ns pe o p cl (ay (ai h))) (dB k.2 k.1);have E:=T.bM c m f hm;refine bo E.2.2 λo fd m5 m6=>?_;exact⟨(EY c m f hm).1,(EY c m f hm).2,_,o,fd,m5,m6,E.1,E.2.1,ok f⟩
 |.ao f cs,top,ns,pe,e,p,cl,h=>by
  refine i7 (e:=e) h λg es kw _ h=>?_;refine cK (e:=g) h λx _ h=>?_;refine bW (l:=kw) (ai (ai h)) ?_;have g:=iE p (ay (ai h));have h:=ay h;induction A:Lh f with
  |some ty=>rw[A] at h;refine ea (l:=es) h λB r h=>?_;refine cz (l:=r) h λu h=>?_;refine cK (e:=u) h λy _ h=>?_;have k:=ba T ok nms hn cs top ns pe [B] p cl (ay h);have g2:=iE p (ay (ai h));have G:=T.ty ty;rw[<- bh (ay (ai (ai h)))] at G;rw[Li A];exact B2 T (bh (ai (ai (ai h)))) g.1 g.2 G g2.1 g2.2 k.1 k.2
  |none=>rw[A] at h;have k:=ba T ok nms hn cs top ns pe es p cl (ay h);exact FZ T.pg (λt q=>by rw[q] at A;cases A) (bh (ai h)) g.1 g.2 k.2 (dB k.2 k.1)
 |.aH m c cs,top,ns,pe,e,p,cl,h=>by refine i7 (e:=e) h λg es kw _ h=>?_;refine n5 (e:=g) h λo nm ap h=>?_;refine bW (l:=kw) (ai (ai (ai (ai (ai (ai h)))))) ?_;have k:=ba T ok nms hn cs top ns pe es p cl (ay h);exact F0 (bh (ay (ai (ai (ai (ai (ai h))))))) (ay (ai (ai (ai (ai h))))) (ay (ai (ai (ai h)))) k.2 (bh (ay (ai (ai h)))) (aC T ok nms hn c top ns pe o p cl (ay (ai h))) (dB k.2 k.1)
 |.comp j it t c,top,ns,pe,e,p,cl,h=>by refine Km (e:=e) h λF gs scope _ h=>?_;refine y7 (gs:=gs) h λx _ iter ifs h=>?_;have s:=ay (ai (ai (ai (ai h))));have hk:scope.kind=.function:=bh (ai (ai (ai s)));exact Ja (lB p (cl (ai (ai (ai (ai (ai h)))))) hn s) (kP (ay (ai (ai (ai h))))) (aC T ok nms hn it top ns pe iter p cl (ay (ai (ai h)))) (yB (ns:=ns) (ay (ai h)) λe C h=>gJ T ok nms hn t Nr _ _ e (df p scope hk C) (λq=>ez q) h) λC=>aC T ok nms hn c Nr _ _ F (df p scope hk C) (λq=>ez q) (ay h)
 |.sr j it t k v,top,ns,pe,e,p,cl,h=>by refine aco (e:=e) h λkx vx gs scope _ h=>?_;refine y7 (gs:=gs) h λx _ iter ifs h=>?_;have s:=ay (ai (ai (ai (ai (ai h)))));have hk:scope.kind=.function:=bh (ai (ai (ai s)));exact F1 T.pg (lB p (cl (ai (ai (ai (ai (ai (ai h))))))) hn s) (kP (ay (ai (ai (ai (ai h)))))) (aC T ok nms hn it top ns pe iter p cl (ay (ai (ai (ai h))))) (yB (ns:=ns) (ay (ai (ai h))) λe C h=>gJ T ok nms hn t Nr _ _ e (df p scope hk C) (λq=>ez q) h) (λC=>aC T ok nms hn k Nr _ _ kx (df p scope hk C) (λq=>ez q) (ay (ai h))) λC=>aC T ok nms hn v Nr _ _ vx (df p scope hk C) (λq=>ez q) (ay h)
 |.fail,top,ns,pe,e,p,cl,h=>Je
theorem ba(T:xy P K mg mb d6)(ok:∀f,cP P n f (d6 f))(nms:Ni NX)(a:nms.Nodup):∀(cs:cS)(top:NF)(ns:NS)(pe:NO)(es:Ni Expr),gc pe ns->(top=Nk->e7 pe ns)->fD top ns nms cs es=Nk ->
  qU P n pe nms es cs/\es.all aR=Nk
 |.nil,top,ns,pe,es,p,cl,h=>bW (M:=λes=>qU P n pe nms es .nil/\es.all aR=Nk) h ⟨trivial,rfl⟩
 |.cons c cs,top,ns,pe,es,p,cl,h=>ea h λe es h=>⟨⟨aC T ok nms a c top ns pe e p cl (ay (ai h)),(ba T ok nms a cs top ns pe es p cl (ay h)).1⟩,NQ.mpr ⟨ai (ai h),(ba T ok nms a cs top ns pe es p cl (ay h)).2⟩⟩
theorem gJ(T:xy P K mg mb d6)(ok:∀f,cP P n f (d6 f))(nms:Ni NX)(d:nms.Nodup):∀(c:dk)(top:NF)(ns:NS)(pe:NO)(e:Expr),gc pe ns->(top=Nk->e7 pe ns)->rp top ns nms c e=Nk->lq P n pe nms e c
 |.always,top,ns,pe,e,p,cl,h=>ez h
 |.tv c,top,ns,pe,e,p,cl,h=>acy (Cp (ai h)) (aC T ok nms d c top ns pe e p cl (ay h))
 |.not t,top,ns,pe,e,p,cl,h=>FK h λo x _ h=>(bh (ai h)).symm▸MQ (gJ T ok nms d t top ns pe x p cl (ay h))
 |.cmp op a b,top,ns,pe,e,p,cl,h=>y6 h λx os es _ h=>cz (M:=λos=>lq P n pe nms (.Compare x os es _) (.cmp op a b)) h λo h=>cz h λy h=>MP (bh (ai (ai (ai h)))) (nnx (ay (ai (ai h)))) (aC T ok nms d a top ns pe x p cl (ay (ai h))) (aC T ok nms d b top ns pe y p cl (ay h))
 |.ig op op' a b c,top,ns,pe,e,p,cl,h=>by refine y6 h λx os es _ h=>?_;refine ea h λo r h=>?_;refine cz h λg h=>?_;refine ea h λy r h=>?_;refine cz h λz h=>?_;exact Jv (bh (ai (ai (ai (ai (ai h)))))) (bh (ay (ai (ai (ai (ai h)))))) (nnx (ay (ai (ai (ai h))))) (aC T ok nms d a top ns pe x p cl (ay (ai (ai h)))) (aC T ok nms d b top ns pe y p cl (ay (ai h))) (aC T ok nms d c top ns pe z p cl (ay h))
 |.and ts,top,ns,pe,e,p,cl,h=>n6 h λo es _ h=>(bh (ai h)).symm▸(oR T ok nms d ts top ns pe es p cl (ay h)).1 _
 |.or ts,top,ns,pe,e,p,cl,h=>n6 h λo es _ h=>(bh (ai h)).symm▸(oR T ok nms d ts top ns pe es p cl (ay h)).2 _
theorem oR(T:xy P K mg mb d6)(ok:∀f,cP P n f (d6 f))(nms:Ni NX)(a:nms.Nodup):∀(ts:iq)(top:NF)(ns:NS)(pe:NO)(es:Ni Expr),gc pe ns->(top=Nk->e7 pe ns)->zX top ns nms ts es=Nk ->
  (∀pos,lq P n pe nms (.BoolOp .And es pos) (.and ts))/\∀pos,lq P n pe nms (.BoolOp .Or es pos) (.or ts)
 |.nil,top,ns,pe,es,p,cl,h=>bW (M:=λes=>(∀pos,lq P n pe nms (.BoolOp .And es pos) (.and .nil))/\∀pos,lq P n pe nms (.BoolOp .Or es pos) (.or .nil)) h ⟨λ_=>zg,λ_=>CF⟩
 |.cons t ts,top,ns,pe,es,p,cl,h=>by refine ea h λe es h=>?_;have k:=oR T ok nms a ts top ns pe es p cl (ay h);have k0:=gJ T ok nms a t top ns pe e p cl (ai h);exact⟨λpos=>MO k0 (k.1 pos),λpos=>acx k0 (k.2 pos)⟩
end
end
section
variable {P:bx}{K:PS}{mg mb:NX->Nt Nz}{d6:Nu->OO}{n:Nu}
def AR{run:XQ XR}:SB P n pe nms run .fail:=λ_ _ _ _ _ _ _ _ _ _ _ q=>Rb q
@[elab_as_elim] def FE{M:aF->Prop}(h:FD c k=Nk)(K:∀j it t b,k j it t b=Nk->M (.comp j it t b)):M c:=by induction c using Mine.aF.casesOn<;>first|exact K _ _ _ _ h|exact ez h
@[elab_as_elim] def mc{M:QS->Prop}(h:ze s k=Nk)(K:∀t e p,k t e=Nk->M (.Assign [t] e p)):M s:=by induction s using O4<;>first|exact cz h λt h=>K t _ _ h|exact ez h
@[elab_as_elim] def ME{M:QS->Prop}(h:acs s k=Nk)(K:∀e p,k e=Nk->M (.Expr e p)):M s:=by induction s using O4<;>first|exact K _ _ h|exact ez h
@[elab_as_elim] def MH{M:QS->Prop}(h:acw s k=Nk)(K:∀e p,k e=Nk->M (.Return e p)):M s:=by induction s using O4<;>first|exact K _ _ h|exact ez h
@[elab_as_elim] def acv{M:QS->Prop}(h:sIf s k=Nk)(K:∀e a b p,k e a b=Nk->M (.If e a b p)):M s:=by induction s using O4<;>first|exact K _ _ _ _ h|exact ez h
@[elab_as_elim] def F8{M:QS->Prop}(h:F7 s k=Nk)(K:∀e a b p,k e a b=Nk->M (.While e a b p)):M s:=by induction s using O4<;>first|exact K _ _ _ _ h|exact ez h
@[elab_as_elim] def MF{M:QS->Prop}(h:acu s k=Nk)(K:∀t e a b p,k t e a b=Nk->M (.For t e a b p)):M s:=by induction s using O4<;>first|exact K _ _ _ _ _ h|exact ez h
@[elab_as_elim] def I7{M:QS->Prop}(h:Kq s=Nk)(K:∀p,M (.Continue p)):M s:=by induction s using O4<;>first|exact K _|exact ez h
@[elab_as_elim] def F5{M:QS->Prop}(h:F4 s k=Nk)(K:∀a b p,k a b=Nk->M (.Raise a b p)):M s:=by induction s using O4<;>first|exact K _ _ _ h|exact ez h
@[elab_as_elim] def MR{M:QS->Prop}(h:acz s k=Nk)(K:∀a b c d p,k a b c d=Nk->M (.Try a b c d p)):M s:=by induction s using O4<;>first|exact K _ _ _ _ _ h|exact ez h
@[elab_as_elim] def I2{M:UQ->Prop}(h:Kl s k=Nk)(K:∀a b c p,k a b c=Nk->M (.ExceptHandler a b c p)):M s:=by induction s using PySem.ExceptHandler.casesOn;exact K _ _ _ _ h
set_option tactic.hygienic true in
@[elab_as_elim] def En{M:aF->Prop}(h:Em c=Nk)(K:M (.tup .nil)):M c:=by
 induction c using Mine.aF.casesOn<;>first|exact ez h|skip
 rename_i cs;induction cs using Mine.cS.casesOn<;>first|exact K|exact ez h
def zW(p:gc pe ns):∀is es,Ha ns nms is es=Nk->mr pe nms es is:=by
 intro b;induction b with
 |nil=>intro es h;exact bW h .nil
 |cons i is a=>intro es h;exact ea h λe es h=>cK h λx _ h=>.cons (bh (ai (ai h))) (uk p (ay (ai h))) (a es (ay h))
def BA(p:gc pe ns)(h:Dt ns nms t is=Nk):Tgt P n pe nms t is:=by
 refine ND (OK.mp h) (λh=>?_) (λh=>?_)
 ·exact cz h λi h=>cK h λx _ h=>Gp (bh (ai h)) (uk p (ay h))
 ·exact uB h λes _ _ h=>JK (zW p _ _ (ai h)) (bh (ay h))
def xQ(T:xy P K mg mb d6)(ok:∀f,cP P n f (d6 f))(b:nms.Nodup)(p:gc pe ns)(cl:e7 pe ns)(h:zU ns nms i c y py e=Nk):
  SS P n pe nms (.Assign [.Name y py] e spos) (.asg i c):=by
 refine FE h λj it t c h=>?_;refine Km h λo gs scope pos h=>?_;refine y7 h λx px iter ifs h=>?_;haveI g:=ay (ai (ai (ai (ai h))));have hk:=bh (ai (ai (ai g)));haveI a:=ai (ai (ai (ai (ai h))));haveI d:pe.kindOf y=xV .local:=by rw[p.kindOf];exact bh (ay (ai (ai a)))
 refine Jm (bh (ai (ai (ai a)))) d ?_ (lB p cl b g) (kP (ay (ai (ai (ai h))))) (aC T ok nms b it Nk ns pe _ p (λ_=>cl) (ay (ai (ai h)))) (yB (ns:=ns) (ay (ai h)) λe C h=>gJ T ok nms b t Nr _ _ e (df p scope hk C) (λq=>ez q) h) λC=>aC T ok nms b c Nr _ _ _ (df p scope hk C) (λq=>ez q) (ay h);haveI l:(pe.blockKind==.function)=Nk:=by unfold NO.blockKind;rw[p.kind];rfl
 haveI m:(pe.kindOf y==xV .local)=Nk:=by rw[d];rfl
 show pure (pe.blockKind==.function&&pe.kindOf y==xV .local&&py.line==pos.line&&!(scope.names.any λ(n,k)=>n==y&&(k==.local||k==.cell)))=pure Nk;rw[l];rw[m];rw[ay (ai a)];rw[ay a];rfl
def JF(m):(⟨m.cps.toList.toArray⟩ : NX)=m:=by rw[RT];rfl
theorem Hb(T:∀B,xy (P.on B) K mg mb d6)(ok:∀B f,cP (P.on B) n f (d6 f)){nms}(q:nms.Nodup){pe}(p:gc pe ns)(cl:e7 pe ns)(j)(E:∀{c e},bz Nk ns nms c e=Nk->SE P n pe nms e c)(l:∀{c e},rp Nk ns nms c e=Nk->lq P n pe nms e c)(d:∀c u,jf ns nms j c u=Nk->xw P n pe nms u c):∀c st,xR ns nms (j+1) c st=Nk->SS P n pe nms st c
 |.asg i c=>λst h=>by
  refine mc h λt e _ h=>?_;refine FH h λx px h=>?_;rcases OK.mp h with h|h
  ·exact MI (bh (ay (ai (ai h)))) (uk p (ay (ai h))) (ai (ai (ai h))) (E (ay h))
  ·exact xQ (T P.B) (ok P.B) q p cl h
 |.c9 co f c=>λst h=>mc h λt e _ h=>n5 (M:=λt=>SS P n pe nms (.Assign [t] e _) (.c9 co f c)) h λo nm _ h=>Jl (T P.B).pc (bh (ai (ai (ai h)))) (ay (ai (ai h))) (E (ay (ai h))) (E (ay h))
 |.qW co C c=>λst h=>mc h λt e _ h=>y8 h λo i _ h=>Jn (ai (ai (ai h))) (E (ay (ai (ai h)))) (E (ay (ai h))) (E (ay h))
 |.uY is c=>λst h=>mc h λt e _ h=>uB h λes _ _ h=>Jo (zW p _ _ (ai (ai (ai h)))) (ay (ai (ai h))) (ay (ai h)) (E (ay h))
 |.exp c=>λst h=>ME h λe _ h=>MJ (ai h) (E (ay h))
 |.ret c=>λst h=>MH h λo _ h=>by
  induction o with
  |none=>exact ug h Jt
  |some e=>exact MN (E h)
 |.ite t a b=>λst h=>acv h λe bs os _ h=>MK (l (ai (ai h))) (d _ _ (ay (ai h))) (d _ _ (ay h))
 |.loop t b=>λst h=>F8 h λe bs os _ h=>bW (ai (ai h)) (Js (l (ay (ai h))) (d _ _ (ay h)))
 |.each is c b=>λst h=>MF h λt e bs os _ h=>bW (ai (ai (ai (ai h)))) (Jr (kP (ay (ai (ai (ai h))))) (BA p (ay (ai (ai h)))) (E (ay (ai h))) (d _ _ (ay h)))
 |.cont=>λst h=>I7 h λ_=>Jq
 |.fault c=>λst h=>by refine F5 h λx y _ h=>?_;refine uA (ai h) ?_;refine n7 (ay h) λx h=>?_;refine i7 h λg es kw _ h=>?_;refine bW (ai h) ?_;refine cK (ay h) λx _ h=>?_;refine ea h λw r h=>?_;refine cz h λe h=>?_;refine kY h λcs _ _ h=>?_;refine FI h λm h=>?_;haveI k:=iE p (ay (ai (ai (ai h))));refine X3 ((T P.B).px) λz fd body px=>?_;haveI hm:=bh (ay (ai (ai h)));exact F6 (T P.B).pg (T P.B).pc px ((bh (ai (ai (ai (ai h)))))▸(T P.B).sf) k.1 k.2 rfl (ay (ai h)) (F3 (v:=.str m.cps.toList) (NQ.mpr ⟨NP (JF m),NP (Nj hm (by decide))⟩)) (E (ay h))
 |.Gv i c hd=>λst h=>by haveI A:=ai h;refine En A ?_;refine MR (ay h) λb I o f _ h=>?_;refine bW (ai (ai h)) (bW (ay (ai h)) ?_);refine cz (ay h) λs h=>?_;refine mc h λt e _ h=>?_;refine cK h λx _ h=>?_;refine cz h λG h=>?_;refine I2 h λty nm F _ h=>?_;refine uA (ai h) ?_;refine n7 (ay h) λty h=>?_;refine cK h λy _ h=>?_;refine cz h λs h=>?_;refine mc h λt H _ h=>?_;refine cK h λx' _ h=>?_;refine uB h λes _ _ h=>?_;refine bW (ai (ai (ai (ai (ai (ai (ai h))))))) ?_;haveI k:=iE p (ay (ai h));refine X3 ((T P.B).px) λz fd body px=>?_;haveI D:=bh (ay (ai (ai (ai (ai h)))));exact D▸(Ju (T P.B).pg px (bh (ay (ai (ai (ai (ai (ai (ai h)))))))) (uk p (ay (ai (ai (ai (ai (ai h))))))) (ay (ai (ai (ai h)))) (λB=>aC (T B) (ok B) nms q _ Nk ns _ _ p (λ_=>cl) (ay h)) ((bh (ay (ai (ai h))))▸(T P.B).sf) k.1 k.2)
 |.fail=>λst h=>AR
 |.skip=>λst h=>ez h
 |.seq _ _=>λst h=>ez h
 |.freeze _=>λst h=>ez h
 |.km _ _=>λst h=>ez h
def zV(T:∀B,xy (P.on B) K mg mb d6)(ok:∀B f,cP (P.on B) n f (d6 f))(l:nms.Nodup)(p:gc pe ns)(cl:e7 pe ns):∀d,
  (∀c st,xR ns nms d c st=Nk->SS P n pe nms st c)/\∀c e,jf ns nms d c e=Nk->xw P n pe nms e c:=by
 intro j;induction j with
 |zero=>exact⟨λ_ _ h=>ez h,λ_ _ h=>ez h⟩
 |succ d i=>
  haveI m:=i;have g:=m.2;refine⟨Hb T ok l p cl d (λh=>aC (T P.B) (ok P.B) nms l _ Nk ns _ _ p (λ_=>cl) h) (λh=>gJ (T P.B) (ok P.B) nms l _ Nk ns _ _ p (λ_=>cl) h) g,λc e h=>?_⟩;have one:∀{c},g8 e (λs=>xR ns nms d c s)=Nk->(∀{s},SS P n pe nms s c->xw P n pe nms [s] c)->xw P n pe nms e c:=λh k=>cz h λs h=>k (m.1 _ s h);induction c with
  |skip=>exact bW h ML
  |seq a b=>have two:hY e (λs e=>xR ns nms d a s&&jf ns nms d b e)=Nk->xw P n pe nms e (.seq a b):=λh=>ea h λs e h=>Jp (m.1 _ s (ai h)) (g _ e (ay h));clear a_ih;induction a<;>first|exact CE (g _ _ h)|exact zf (g _ _ h)|exact two h
  |fail=>exact AR
  | _=>exact one h MM
def Ds(T:∀B,xy (P.on B) K mg mb d6)(ok:∀B f,cP (P.on B) n f (d6 f))(ns:NS)(nms)(d:nms.Nodup)(a):
  (∀c st pe,gc pe ns->e7 pe ns->xR ns nms a c st=Nk->SS P n pe nms st c) /\
  (∀c b pe,gc pe ns->e7 pe ns->jf ns nms a c b=Nk->xw P n pe nms b c):=
 ⟨λc st _ p cl h=>(zV T ok d p cl a).1 c st h,λc b _ p cl h=>(zV T ok d p cl a).2 c b h⟩
end
section
variable {P:bx}{K:PS}{mg mb:NX->Nt Nz}{d6:Nu->OO}
def oq.on{body}(F:oq P a d fd nms body)(B):oq (P.on B) a d fd nms body:=
 ⟨F.obj,F.body,F.code,F.co,F.gen,F.kind,F.Du,F.yv,F.blt,F.nodup,F.len,F.kinds,F.acj,F.bind⟩
def xy.on(T:xy P K mg mb d6)(B):xy (P.on B) K mg mb d6:=by
 obtain⟨g,c,l,f,d,i,e,h,j,k,fd,body,px⟩:=T;exact⟨⟨g.lim,g.g,g.b,g.bi,g.glob⟩,⟨c.iF,c.get,c.D9,c.fld,λa ty=>by haveI:=c.isi a ty;induction a<;>induction ty<;>exact this,c.cls,c.aaZ,c.aa0,c.acC,c.over,c.take,c.mro⟩,l,f,d,λty=>by haveI:=i ty;induction ty<;>exact this,e,h,j,k,fd,body,
  ⟨px.cls,px.init,px.fn,px.sa,px.noW,px.aca,px.ei,px.keep,px.obj,px.bod,px.pe,px.code,px.co,px.gen,px.kind,px.Du,px.yv,px.blt,px.names,px.bind⟩⟩
def xO(hk:fd.scope.kind=.function)(L ad):gc (Ws fd L ad) fd.scope.names/\e7 (Ws fd L ad) fd.scope.names:=
 ⟨⟨hk,rfl⟩,λ_ h=>eG (fH h)⟩
def KL(T:xy P K mg mb d6)(F:∀f d,gO f=xV d->f≠74->∃fd nms body,oq P (d6 f) d fd nms body/\jf fd.scope.names nms 200 d.body body=Nk):∀n B f,cP (P.on B) n f (d6 f):=by
 intro b;induction b with
 |zero=>intro B f;exact λA W H s vs xs Q X _ _ _ q=>by rw[fb] at q;exact Rb q
 |succ n a=>
  intro B f;haveI j:=a;induction hd:gO f with
  |none=>intro A W H s vs xs Q X _ _ _ q;rw[fb] at q;haveI q:eY (gO f) _:=q;rw[hd] at q;exact q.elim
  |some d=>
   by_cases h:f=74
   ·rw[h]
    intro A W H s vs xs Q X _ _ _ q;rw[fb] at q;have q:eY (j6 dA vs) (fun ρ=>eW (sh gO n) fC ρ H (λ_ H=>less (Q .none) H) (λv H=>less (Q v) H) (λ_ _=>OH) X):=q;induction g:j6 dA vs with
    |none=>rw[g] at q;exact q.elim
    |some ρ=>rw[g] at q;exact Rb q
   ·refine gC (F f d hd h) λfd nms body e i=>?_
    refine G7 hd (e.on B) T.pg.lim λL=>?_;refine A2 (xO e.kind L (d6 f)) λp cl=>?_;exact(Ds (P:=P.on B) (λc=>T.on c) (λc=>j c) fd.scope.names nms e.nodup 200).2 d.body body _ p cl i
end
noncomputable def C2(S:Ni (NX×Nz))(p:NX×Nz):Ni (NX×Nz):=if(S.lookup p.1).isNone then S++[p] else S
def fS{S:Ni (NX×Nz)}:(S.lookup x).isNone=Nk↔x∉S.map (·.1):=by
 induction S with
 |nil=>simp
 |cons p r a=>
  obtain⟨y,v⟩:=p;rw[Py];induction e:x==y with
  |true=>simp[Ob.mp e]
  |false=>
   haveI:x≠y:=λq=>by rw[q,OJ] at e;injection e
   simp only[N3,NH,Pl,this,not_false_eq_true,Xy];exact a
def DH:∀(L S:Ni (NX×Nz)),(∀p∈L,p.1∈S.map (·.1))->L.foldl C2 S=S:=by
 intro b;induction b with
 |nil=>intro _ _;exact rfl
 |cons p L a=>
  intro S h;haveI e:C2 S p=S:=by unfold C2;rw[Nl];rfl;intro q;exact fS.mp q (h p (.head _))
  rw[Ra];rw[e];exact a S λq c=>h q (.tail _ c)
def Ht:∀(L S:Ni (NX×Nz)),(S.map (·.1)++L.map (·.1)).Nodup->L.foldl C2 S=S++L:=by
 intro b;induction b with
 |nil=>intro S _;exact(N9 _).symm
 |cons p L a=>
  intro S h;have e:C2 S p=S++[p]:=by unfold C2;rw[Np];rfl;refine fS.mpr λq=>?_;rw[So] at h;exact h.2.2 _ q p.1 (Ny) rfl
  rw[Ra];rw[e];rw[a (S++[p]) (by simpa using h)];exact append_assoc ..
section
variable {M:VK}{A:Oj}{E:Nz->NJ->Prop}{s:NJ}
def mm{g:β->(NX×Nz)->β}(d:∀p b,f p b=pure (.yield (g b p))):∀(L:Ni (NX×Nz)) (b:β) (Q:β->NJ->Prop),Q (L.foldl g b) s->ON M A (forIn L b f) Q E s:=by
 intro c;induction c with
 |nil=>intro b Q h;exact NC h
 |cons p L a=>intro b Q h;rw[Wc];rw[d];exact Nq (NC (a _ Q h))
end
def yP:∀{names:Ni NX}{vs:Ni Nz}{x:NX}{v:Nz},names.Nodup->(x,v)∈names.zip vs->(names.zip vs).lookup x=xV v:=by
 intro b;induction b with
 |nil=>intro _ _ _ _ h;simp at h
 |cons y names a=>
  intro d;induction d using Nw with
  |nil=>intro _ _ _ h;simp at h
  |cons u vs=>
   intro x v c h;rw[Ow] at c;rw[Py];refine ND (NH.mp h) (λq=>?_) (λq=>?_)
   ·injection q with q f;clear h;subst q f;rw[OJ];rfl
   ·haveI:x∈names:=(of_mem_zip q).1
    have ne:(x==y)=Nr:=Sg.mpr λe=>c.1 (e▸this);rw[ne];exact a c.2 q
def rG{names:Ni NX}{vs:Ni Nz}(c:names.Nodup)(a:names.length=vs.length):names.filterMap (λn=>((names.zip vs).lookup n).map (n,·))=names.zip vs:=by
 haveI:∀(l:Ni NX)(us:Ni Nz),l.length=us.length->(∀p∈l.zip us,p∈names.zip vs)->l.filterMap (λn=>((names.zip vs).lookup n).map (n,·))=l.zip us:=by
  intro l;induction l with
  |nil=>intro us _ _;(rfl)
  |cons x l d=>
   intro us a h;induction us using Nw with
   |nil=>contradiction
   |cons u us=>rw[zip_cons_cons];rw[filterMap_cons];rw[yP c (h (x,u) (Ny))];simp only[Wu];rw[d us (by simpa using a) λp b=>h p (by simp[b])];rfl
 exact this names vs a λp b=>b
def eO:∀(names:Ni NX)(xs:Ni Nz),(names.zip xs).map (·.1)=names.take xs.length:=by
 intro b;induction b with
 |nil=>intro _;simp
 |cons x names a=>
  intro c;induction c using Nw with
  |nil=>(rfl)
  |cons v xs=>simp[a xs]
theorem vE:∀(n:Nu)(l:Ni α)(m:Ni β),(l.zip m).drop n=(l.drop n).zip (m.drop n)
 | 0,_,_=>rfl
 | _+1,[],_=>by(exact rfl)
 | _+1,_::_,[]=>by simp
 |n+1,_::l,_::m=>by simpa using vE n l m
def JM:∀(names:Ni NX)(xs ys:Ni Nz),xs.length<=names.length->names.zip (xs++ys)=names.zip xs++(names.drop xs.length).zip ys:=by
 intro c;induction c with
 |nil=>
  intro a;induction a with
  |nil=>
   intro ys _
   (rfl)
  |cons _ _=>intro _ h;simp at h
 |cons n names b=>
  intro a;induction a using Nw with
  |nil=>
   intro ys _
   (rfl)
  |cons x xs=>intro ys h;simp[b xs ys (by simpa using h)]
def JG{d n x:Nu}(f:d<=n)(c:n<=x+d)(g:x<=n):d - (n - x)=x - (n - d):=by
 induction Tj f with|intro a e=>
 clear f;subst e;rw[QJ];induction Tj (Sz (PF x d▸c)) with|intro b e=>
 clear c;subst e;rw[QJ];rw[PF d a];rw[Nu.add_sub_add_left];exact P7 (Sz (PF a d▸g))
def Dj{names:Ni NX}(g:d=ds)(nd:names.Nodup)(ai:xs.length<=names.length)(c:names.length<=xs.length+ds.length)(f:ds.length<=names.length):
  names.filterMap (λn=>((((names.drop (names.length - d.length)).zip d).foldl C2 (names.zip xs)).lookup n).map (n,·))=names.zip (xs++ds.drop (ds.length - (names.length - xs.length))):=by
 rw[g];haveI key:=eO names xs;haveI hk:(names.drop (names.length - ds.length)).zip ds=((names.drop (names.length - ds.length)).zip ds).take (xs.length - (names.length - ds.length))++((names.drop (names.length - ds.length)).zip ds).drop (xs.length - (names.length - ds.length)):=(take_append_drop _ _).symm;haveI a:((names.drop (names.length - ds.length)).zip ds).drop (xs.length - (names.length - ds.length))=(names.drop xs.length).zip (ds.drop (ds.length - (names.length - xs.length))):=by rw[vE];rw[Q0];rw[show names.length - ds.length+(xs.length - (names.length - ds.length))=xs.length from Se (Qd.mpr c)];rw[JG f c ai];rfl
 haveI b:((names.drop (names.length - ds.length)).zip ds).foldl C2 (names.zip xs)=names.zip (xs++ds.drop (ds.length - (names.length - xs.length))):=by
  rw[hk,Ni.foldl_append,DH (WK _ _) (names.zip xs) ?_,Ht _ _ ?_,a]
  ·refine bB (NU (JM names xs _ ai)) ?_;rfl
  ·rw[key];rw[a];rw[eO];rw[P1 (l:=names.drop xs.length) (by rw[Ol];rw[Ol];rw[P7 (TC.mpr c)];exact NA _)];rw[TV]
   exact nd
  ·intro p h
   rw[key];haveI:p.1∈(((names.drop (names.length - ds.length)).zip ds).take (xs.length - (names.length - ds.length))).map (·.1):=TA.mpr ⟨p,h,rfl⟩;rw[Ni.map_take,eO,Ni.take_take] at this;refine X1 (RA.mp this) λi hi=>?_;replace hi:=(U6)▸hi;split at hi
   next e=>
    rw[Ni.getElem?_drop] at hi;refine RA.mpr ⟨names.length - ds.length+i,?_⟩;rw[U6];rw[Np (PF _ i▸Nu.add_lt_of_lt_sub (NY e (QO _ _)))];exact hi
   ·contradiction
 rw[b];rw[rG nd];rfl;rw[Nv];rw[Ol];rw[P7 (TC.mpr c)];rw[Nu.add_sub_of_le ai];rfl
def Bu{names:Ni NX}{d a xs:Ni Nz}(c:d=a)(b:names.length<=xs.length+a.length):((names.take (names.length - d.length)).filter λn=>((names.zip xs).lookup n).isNone)=[]:=by rw[c];rw[QU];intro x e q;refine fS.mp q ?_;rw[eO names xs];exact(take_subset_take_left _ (Qd.mpr b)) e
def Ap(h:c=b)(e:b=Nr)(k:ON M A Y Q E s):ON M A (if c=Nk then X else Y) Q E s:=by rw[Nl (h.trans e▸NF.false_ne_true)];exact k
def BR:(if(b.lookup p.1).isNone=Nk then pure (Q8 (b++[p])) else pure (Q8 b):XQ (ForInStep (Ni (NX×Nz))))=pure (Q8 (C2 b p)):=by unfold C2;split<;>rfl
def HL(k:ON M A (f b) Q E s):ON M A (forIn ([]:Ni α) b h >>= f) Q E s:=by exact k
def DZ{γ:Type}{f}{L:Ni (NX×Nz)}{Q:γ->NJ->Prop}(a:∀p b,h p b=pure (.yield (C2 b p)))(k:ON M A (f (L.foldl C2 b)) Q E s):ON M A (forIn L b h >>= f) Q E s:=
 Nq (mm a _ _ _ k)
def Me(p:Arguments)(u:p.posonlyargs=[])(y:p.vararg=Nm)(q:p.kwonlyargs=[])(B:p.kwarg=Nm):p=⟨[],p.args,Nm,[],p.kw_defaults,Nm,p.defaults⟩:=by obtain⟨a,b,c,d,e,f,g⟩:=p;cases(u:a=[]);cases(y:c=Nm);cases(q:d=[]);cases(B:f=Nm);rfl
def Bt{s:NJ}{j:Ni Arg}(nd:(j.map (·.arg)).Nodup)(hd:(g=.none/\ds=[])\/∃T o items n,g=.ref T/\s.heap.get? T=xV o/\o.data=.seq items n/\items.toList=ds){xs:Ni Nz}(ai:xs.length<=(j.map (·.arg)).length)(h:(j.map (·.arg)).length<=xs.length+ds.length)(i:ds.length<=(j.map (·.arg)).length):
  VZ s ⟨v0,v1,⟨[],j,Nm,[],v2,Nm,v3⟩,v4,v5,v6,v7,g,v8,v9,w0,w1,w2,w3,w4⟩ ⟨xs,[]⟩ ((j.map (·.arg)).zip (xs++ds.drop (ds.length - ((j.map (·.arg)).length - xs.length)))):=by
 intro M A E Q z;haveI m:ds.drop (ds.length - (j.map (·.arg)).length)=ds:=by rw[TX i];rw[drop_zero];rfl
 have items:∀{K},(∀r,(r.getD #[]).toList=ds->K r s)->ON M A (seqItems? g) K E s:=by
  intro K k;rcases hd with⟨e,c⟩|⟨T,o,d,n,e,c,a,v⟩
  ·cases(e:g=_)
   exact NC (k Nm c.symm)
  ·cases(e:g=_)
   exact Rp c a (k (xV d) v)
 refine HL ?_;refine Nq (items λr hr=>?_);refine hr▸(Ap (US _) (N5 (Pt.mpr ai)) ?_);refine Ap rfl (e:=?_) ?_
 ·exact NN (λl:Ni NX=>!l.isEmpty) (Bu m h)
 refine DZ (λp b=>?_) ?_
 ·exact BR
 exact NC (XD (NN (Q · s) ((NN (Ni.filterMap _) (N9 _)).trans (Dj m nd ai h i))) z)
def Dk{s:NJ}(u:fd.params.posonlyargs=[])(w:fd.params.args.map (·.arg)=names)(y:fd.params.vararg=Nm)(q:fd.params.kwonlyargs=[])(B:fd.params.kwarg=Nm)(nd:names.Nodup)(hd:(fd.defaults=.none/\ds=[])\/∃T o items n,fd.defaults=.ref T/\s.heap.get? T=xV o/\o.data=.seq items n/\items.toList=ds){xs:Ni Nz}(ai:xs.length<=names.length)(h:names.length<=xs.length+ds.length)(i:ds.length<=names.length):
  VZ s fd ⟨xs,[]⟩ (names.zip (xs++ds.drop (ds.length - (names.length - xs.length)))):=by
 obtain⟨_,_,p,_,_,_,_,g,_,_,_,_,_,_,_⟩:=fd;subst w;refine(Me p u y q B)▸?_;exact Bt nd hd ai h i
noncomputable def abb:Ni (Ni NX):=[
 (["code"]:Ni NX),
 (["code"]:Ni NX),
 (["self", "data", "at", "end"]:Ni NX),
 (["self"]:Ni NX),
 (["self", "ahead", "spot"]:Ni NX),
 (["self", "code"]:Ni NX),
 (["self", "word"]:Ni NX),
 (["self", "word"]:Ni NX),
 (["self", "code"]:Ni NX),
 (["self", "first"]:Ni NX),
 (["self"]:Ni NX),
 (["self", "top", "places"]:Ni NX),
 (["self", "numerals"]:Ni NX),
 (["self", "numerals"]:Ni NX),
 (["number"]:Ni NX),
 (["octets", "begun", "top", "numerals", "places", "code"]:Ni NX),
 (["self", "text"]:Ni NX),
 (["self", "octets", "is_hex"]:Ni NX),
 (["self", "number", "generation"]:Ni NX),
 (["value"]:Ni NX),
 (["kind", "value"]:Ni NX),
 (["value", "kind", "part", "key"]:Ni NX),
 (["value", "kind", "key"]:Ni NX),
 (["value", "deepest", "line", "here", "above", "part"]:Ni NX),
 (["self", "table", "trailer"]:Ni NX),
 (["text", "sign"]:Ni NX),
 (["code"]:Ni NX),
 (["text", "found", "sign", "code"]:Ni NX),
 (["number"]:Ni NX),
 (["value", "is_least", "text", "sign"]:Ni NX),
 (["octets", "open_ones", "lone", "at"]:Ni NX),
 (["octets", "lone", "found", "at", "code"]:Ni NX),
 (["octets", "found", "code"]:Ni NX),
 (["value", "is_least", "rounded_form", "angled_form"]:Ni NX),
 (["kind", "value", "is_least"]:Ni NX),
 (["parts", "value"]:Ni NX),
 (["parts", "value", "is_least", "key"]:Ni NX),
 (["parts", "value", "is_least", "kind", "part"]:Ni NX),
 (["before", "behind"]:Ni NX),
 (["parts", "is_least", "found", "at"]:Ni NX),
 (["value", "is_least", "parts", "between"]:Ni NX),
 (["self", "data", "base", "shelf"]:Ni NX),
 (["bench", "number"]:Ni NX),
 (["octets", "code"]:Ni NX),
 (["word", "sign"]:Ni NX),
 (["text", "count", "found", "word"]:Ni NX),
 (["bench", "verb", "rest"]:Ni NX),
 (["code"]:Ni NX),
 (["code"]:Ni NX),
 (["octets", "at", "signs", "place", "code", "high", "low"]:Ni NX),
 (["cursor", "first", "code", "taken"]:Ni NX),
 (["cursor", "code"]:Ni NX),
 (["cursor", "opening", "codes", "depth", "code"]:Ni NX),
 (["cursor", "opening", "halves", "code", "worth", "place"]:Ni NX),
 (["cursor", "at", "run", "number"]:Ni NX),
 (["cursor", "code", "at"]:Ni NX),
 (["cursor", "at", "code"]:Ni NX),
 (["token", "sign"]:Ni NX),
 (["self", "mark"]:Ni NX),
 (["self"]:Ni NX),
 (["value"]:Ni NX),
 (["cursor", "number", "probe", "generation"]:Ni NX),
 (["worth", "at"]:Ni NX),
 (["cursor", "token", "lets_references", "kind", "worth", "at"]:Ni NX),
 (["items", "found", "spot", "key"]:Ni NX),
 (["frames", "worth", "at", "opening", "frame"]:Ni NX),
 (["cursor", "token", "lets_references", "frames", "kind", "worth", "at", "is_opening", "value"]:Ni NX),
 (["cursor"]:Ni NX),
 (["data", "cursor", "value"]:Ni NX),
 (["tape", "limit", "cells", "spot"]:Ni NX),
 (["tape", "way", "octets", "count"]:Ni NX),
 (["tape", "way", "parts", "pairs", "part", "count"]:Ni NX),
 (["octets", "value", "due", "at", "heard"]:Ni NX),
 (["script", "tape", "value", "number", "table", "trailer", "bench", "verb", "rest", "thing", "octets", "sign"]:Ni NX),
 (["self", "what", "at"]:Ni NX)]
noncomputable def yq(f:Nu):Ni NX:=abb.getD f []
noncomputable def abc:Ni (Nu×Nt Nu):=[(8,Nm),(9,Nm),(11,xV 0),(11,xV 1),(11,xV 2),(11,xV 3),(11,xV 4),(11,xV 5),(11,xV 6),(11,xV 7),(11,xV 8),(22,xV 0),(22,xV 10),(22,xV 11),(23,Nm),(24,Nm),(27,xV 0),(28,xV 0),(30,xV 0),(31,Nm),(32,Nm),(33,Nm),(35,Nm),(36,Nm),(37,xV 0),(48,Nm),(49,Nm),(50,Nm),(51,Nm),(52,Nm),(53,Nm),(54,Nm),(55,Nm),(56,Nm),(57,Nm),(58,Nm),(59,Nm),(60,Nm),(61,Nm),(62,Nm),(64,Nm),(67,xV 0),(68,Nm),(69,Nm),(70,Nm),(71,Nm),(73,Nm),(83,Nm),(84,Nm),(85,Nm),(86,Nm),(87,Nm),(88,Nm),(89,Nm),(90,Nm),(91,Nm),(92,Nm),(93,Nm),(96,xV 0),(96,xV 1),(97,Nm),(98,Nm),(99,Nm),(100,Nm),(101,Nm),(102,Nm),(103,Nm),(104,Nm),(105,Nm),(107,Nm),(108,Nm),(109,Nm),(110,Nm),(111,Nm),(13,xV 0)]
noncomputable def aer(f:Nu):Nu×Nt Nu:=abc.getD f (0,Nm)
noncomputable def adL:Ni OO:=[30,37,59,66,74,81,88,95,102,109,116,217,287,294,308,315,329,351,393,414,421,426,431,438,453,531,538,545,552,557,564,571,578,585,592,599,606,613,620,627,641,655,669,674,679,684,696,704,711,719,726,733,740,745,752,759,766,773,787,794,808,815,822,829,834,841,849,856,863,870,875,880,887,892,166]
noncomputable def d6(f:Nu):OO:=adL.getD f 0
noncomputable def vd:eX->OO
 |.cursor=>147
 |.decimal=>297
 |.name=>332
 |.string=>354
 |.reference=>403
 |.frame=>797
 |.bench=>658
 |.shelf=>524
 |.stream=>375
noncomputable def oQ:OO:=189
noncomputable def aek:OO:=176
noncomputable def xB:Ni Nu:=[2,3,22,23,29,30,36,37,52,58,59,65,66,67,73,74,80,81,87,88,94,95,101,102,108,109,115,116,146,147,159,165,166,175,176,188,189,200,201,216,217,286,287,293,294,296,297,307,308,314,315,328,329,331,332,344,350,351,353,354,374,375,392,393,402,403,413,414,420,421,425,426,430,431,437,438,446,452,453,469,470,523,524,530,531,537,538,544,545,551,552,556,557,563,564,570,571,577,578,584,585,591,592,598,599,605,606,612,613,619,620,626,627,640,641,654,655,657,658,668,669,673,674,678,679,683,684,695,696,697,703,704,710,711,712,718,719,725,726,732,733,739,740,744,745,751,752,758,759,765,766,772,773,786,787,793,794,796,797,807,808,814,815,821,822,828,829,833,834,840,841,842,848,849,855,856,862,863,869,870,874,875,879,880,886,887,891,892]
noncomputable def xC:Ni eX:=[.cursor,.decimal,.name,.string,.reference,.frame,.bench,.shelf,.stream]
def gq(c):c∈xC:=by induction c<;>decide
noncomputable def gK(K:PS)(x:NX):Nt Nz:=match K.lookup O3 with
 |some o=>(match o.data with|.dict es _=>RY es x| _=>Nm)
 |none=>Nm
noncomputable def kl(h:Heap):PS:=xB.filterMap λa=>(h.get? a).map λo=>(a,o)
def D0(h):(kl h).In h:=by intro a o e;haveI:(a,o)∈kl h:=fH e;refine ah (mem_filterMap.mp this) λb _ hb=>?_;rw[N2] at hb;refine ah hb ?_;clear hb;intro o' h1 h2;injection h2 with h2 h_1;clear e this;subst h2 h_1;exact h1
section
variable {α:Type}{G:Prop}
noncomputable def oB(o:Nt α)(k:α->NF):NF:=match o with|some a=>k a|none=>Nr
def kU(h:oB o k=Nk)(g:∀a,o=xV a->k a=Nk->G):G:=by
 induction o with
 |none=>contradiction
 |some a=>exact g a rfl h
noncomputable def dFn(d:Data)(k:Th->NF):NF:=match d with|.func x=>k x| _=>Nr
def DC(h:dFn d k=Nk)(g:∀x,d=.func x->k x=Nk->G):G:=by induction d<;>first|cases h;done|exact g _ rfl h
noncomputable def dCl(d:Data)(k:ClassData->NF):NF:=match d with|.cls x=>k x| _=>Nr
def aa1(h:dCl d k=Nk)(g:∀x,d=.cls x->k x=Nk->G):G:=by induction d<;>first|cases h;done|exact g _ rfl h
noncomputable def dFl(d:Data)(k:O8 Nz->NF):NF:=match d with|.fields x=>k x| _=>Nr
def aa2(h:dFl d k=Nk)(g:∀x,d=.fields x->k x=Nk->G):G:=by induction d<;>first|cases h;done|exact g _ rfl h
noncomputable def dSq(d:Data)(k:O8 Nz->NF):NF:=match d with|.seq x _=>k x| _=>Nr
def JT(h:dSq d k=Nk)(g:∀x n,d=.seq x n->k x=Nk->G):G:=by induction d<;>first|cases h;done|exact g _ _ rfl h
noncomputable def vRf(v:Nz)(k:OO->NF):NF:=match v with|.ref x=>k x| _=>Nr
def GF(h:vRf v k=Nk)(g:∀x,v=.ref x->k x=Nk->G):G:=by induction v<;>first|cases h;done|exact g _ rfl h
noncomputable def vSt(v:Nz)(k:NX->NF):NF:=match v with|.str x _=>k x| _=>Nr
def acO(h:vSt v k=Nk)(g:∀x n,v=.str x n->k x=Nk->G):G:=by induction v<;>first|cases h;done|exact g _ _ rfl h
end
noncomputable def ES(v:V)(x:Nz):NF:=match v with
 |.none=>decide (x=.none)
 |.bool b=>decide (x=.bool b)
 |.int i=>(match x with|.int j _=>decide (i=j)| _=>Nr)
 |.bytes b=>(match x with|.bytes a _=>decide (a.toList.map Om=b)&&decide (a.size<=1000)| _=>Nr)
 | _=>Nr
noncomputable def Ay:Ni V->Ni Nz->NF
 |[],xs=>xs.isEmpty
 |v::vs,xs=>(match xs with|x::xs=>ES v x&&Ay vs xs|[]=>Nr)
def acK(o:VW)(k:O8 Nz->NF):NF:=dSq o.data λxs=>decide (o.cls=.type "tuple")&&decide (o.dict=Nm)&&decide (o.slots.size=0)&&decide (xs.size<=1000)&&k xs
def ab2(K:PS)(v:V)(x:Nz):NF:=match v with
 |.tup vs=>vRf x λa=>oB (K.lookup a) λo=>acK o λxs=>Ay vs xs.toList
 |v=>ES v x
section
variable {w:Px}{cA:eX->OO}{fz:Fz}{K:PS}
def Ax(h:ES v x=Nk):VR w cA fz v x:=by
 induction v using Mine.V.casesOn<;>(try cases h;done)
 ·exact(N0 h:x=_)
 ·exact(N0 h:x=_)
 ·induction x<;>first|cases h;done|exact(N0 h:_=_)▸VR.bV _ _
 ·induction x<;>first|cases h;done|exact⟨_,_,rfl,N0 (NQ.mp h).1,Nj (N0 (NQ.mp h).2) (by decide)⟩
def wo:∀{vs}{xs},Ay vs xs=Nk->aB w cA fz vs xs:=by
 intro ii_
 induction ii_ with
 |nil=>
  intro jj_;induction jj_ with
  |nil=>intro _;exact aB.nil
  |cons _ _=>
   intro h0_
   first|(contradiction;done)|(exact nomatch h0_)|contradiction
 |cons _ _ ih0_=>
  intro jj_;induction jj_ using Nw with
  |cons _ _=>intro h;exact aB.cons (Ax (NQ.mp h).1) (ih0_ (NQ.mp h).2)
  |nil=>
   intro h0_
   first|(contradiction;done)|(exact nomatch h0_)|contradiction
def M0{G:Prop}(h:acK o k=Nk)(g:∀xs n,o={ cls:=.type "tuple",data:=.seq xs n }->xs.size<=1000->k xs=Nk->G):G:=by refine JT h λxs n e h=>g xs n ?_ (bh (ay (ai h))) (ay h);obtain⟨c,d,da,sl⟩:=o;have h1:c=_:=bh (ai (ai (ai (ai h))));have h2:d=Nm:=bh (ay (ai (ai (ai h))));haveI h3:sl=#[]:=S2 (bh (ay (ai (ai h))));haveI e:da=_:=e;rw[h1];rw[h2];rw[h3];rw[e];rfl
set_option tactic.hygienic true in
def Ij(hk:∀a o,K.lookup a=xV o->fz a=xV o)(h:ab2 K v x=Nk):VR w cA fz v x:=by
 induction v using Mine.V.casesOn
 case tup vs=>exact GF h λa e h=>kU h λo ho h=>M0 h λxs n e2 hs h=>⟨a,xs,n,e,hk _ _ (e2▸ho),Nj hs (by decide),wo h⟩
 all_goals exact Ax h
end
noncomputable def A0:QS->Nt (Ni QS×Ru)
 |.FunctionDef _ _ b _ _ _ sc _ _ _=>xV (b,sc)
 | _=>Nm
def mj(f:Nu):Nt (Ni QS×Ru):=match aer f with
 |(i,Nm)=>(prog.main.body[i]?).bind A0
 |(i,xV j)=>(match prog.main.body[i]? with
  |some (.ClassDef _ _ _ b _ _ _ _ _ _ _)=>(b[j]?).bind A0
  | _=>Nm)
def aem(f:Nu):NF:=oB (gO f) λd=>oB (mj f) λp=>jf p.2.names (yq f) 200 d.body p.1
def Hc:(Pr 75).all (λf=>f==74||aem f)=Nk:=by decide +kernel
def jB(K:PS):Ni (Nt (Wv×Ru)):=(Pr 75).map λf=>(K.lookup (d6 f)).bind λo=>match o.data with
 |.func fd=>xV (fd.body,fd.scope)
 | _=>Nm
def gG:Ni (Nt (Wv×Ru)):=(Pr 75).map λf=>(mj f).map λp=>(.stmts p.1,p.2)
def r9{K}(h:jB K=gG)(hf:f<75)(ho:K.lookup (d6 f)=xV o)(hd:o.data=.func fd):∃b,mj f=xV (b,fd.scope)/\fd.body=.stmts b:=by
 obtain⟨c,d,da,sl⟩:=o;cases(hd:da=_);haveI e:=map_inj_left.mp h f (mem_range.mpr hf);rw[ho] at e;have e:xV (fd.body,fd.scope)=(mj f).map _:=e;induction q:mj f with
 |none=>replace e:=(q)▸e;contradiction
 |some p=>rw[q] at e;haveI e:=N1 e;exact⟨p.1,NN xV (Prod.ext rfl (NN Prod.snd e).symm),NN Prod.fst e⟩
def Dy(K:PS)(fd:Th):NF:=vRf fd.code λc=>oB (K.lookup c) λo=>dFl o.data λvs=>oB (vs[1]? : Nt Nz) λv=>vSt v λq=>decide (q=fd.qualname)
noncomputable def IL(fd:Th)(names:Ni NX):NF:=
 fd.params.posonlyargs.isEmpty&&decide (fd.params.args.map (·.arg)=names)&&fd.params.vararg.isNone&&fd.params.kwonlyargs.isEmpty&&fd.params.kwarg.isNone
def Hr(K:PS)(v:Nz)(ds:Ni V):NF:=(decide (v=.none)&&ds.isEmpty)||vRf v λT=>oB (K.lookup T) λo=>dSq o.data λxs=>Ay ds xs.toList
noncomputable def JZ(fd:Th):NF:=!fd.scope.isCoroutine&&!fd.scope.isGenerator&&decide (fd.scope.kind=.function)&&fd.closure.isEmpty&&decide (fd.globals=O3)&&decide (fd.builtins=Q9)
def ab7(fd:Th)(nms:Ni NX)(ar:Nu):NF:=
 decide nms.Nodup&&decide (ar<=nms.length)&&nms.all (λx=>decide (fd.scope.names.lookup x≠xV .free))&&(nms.take ar).all (λx=>LH fd.scope.names x)
def HO(K:PS)(f:Nu):NF:=oB (K.lookup (d6 f)) λo=>oB (gO f) λd=>dFn o.data λfd=>
 JZ fd&&Dy K fd&&ab7 fd (yq f) d.arity&&IL fd ((yq f).take d.arity)&&Hr K fd.defaults d.dflt&&decide (d.dflt.length<=d.arity)
def nt(h:(!b)=Nk):b=Nr:=Qp b▸h
def abW(h:LH ns x=Nk):ns.lookup x=xV .local\/ns.lookup x=xV .cell:=Ez h
section
variable {P:bx}{K:PS}
def vk(hk:K.In P.B0)(h:Dy K fd=Nk):P.B0.CodeRec fd.code fd.qualname:=
 GF h λc hc h=>kU h λo ho h=>aa2 h λvs hd h=>kU h λv hv h=>acO h λq t e h=>⟨c,o,vs,t,hc,hk _ _ ho,hd,hv.trans (NN xV (e.trans (NN (Nz.str · t) (bh h))))⟩
def IM(h:IL fd names=Nk):fd.params.posonlyargs=[]/\fd.params.args.map (·.arg)=names/\fd.params.vararg=Nm/\fd.params.kwonlyargs=[]/\fd.params.kwarg=Nm:=by exact⟨isEmpty_iff.mp (ai (ai (ai (ai h)))),bh (ay (ai (ai (ai h)))),U7.mp (ay (ai (ai h))),isEmpty_iff.mp (ay (ai h)),U7.mp (ay h)⟩
def Hs(hk:K.In P.B0)(h:Hr K v ds=Nk){s:NJ}(hs:∀b o,P.B0.get? b=xV o->s.heap.get? b=xV o):
  ∃xs,aB P.w P.cA P.B0.get? ds xs/\((v=.none/\xs=[])\/∃T o items n,v=.ref T/\s.heap.get? T=xV o/\o.data=.seq items n/\items.toList=xs):=by
 rcases OK.mp h with h|h
 ·exact⟨[],isEmpty_iff.mp (ay h)▸aB.nil,.inl ⟨bh (ai h),rfl⟩⟩
 ·exact GF h λT e h=>kU h λo ho h=>JT h λxs n hd h=>⟨xs.toList,wo h,.inr ⟨T,o,xs,n,e,hs _ _ (hk _ _ ho),hd,rfl⟩⟩
def zO(hk:K.In P.B0){ds}(h1:IL fd names=Nk)(nd:names.Nodup)(h2:Hr K fd.defaults ds=Nk)(h3:ds.length<=names.length)(s)(xs)(hs:∀b o,P.B0.get? b=xV o->s.heap.get? b=xV o)(ai:xs.length<=names.length)(l2:names.length<=xs.length+ds.length):
  ∃dv,aB P.w P.cA P.B0.get? (ds.drop (ds.length - (names.length - xs.length))) dv/\VZ s fd ⟨xs,[]⟩ (names.zip (xs++dv)):=by
 refine A5 (IM h1) λp1 p2 p3 p4 p5=>?_;refine ah (Hs hk h2 hs) λys r hd=>?_;haveI hl:=r.length;refine⟨ys.drop (ds.length - (names.length - xs.length)),aB.drop _ r,?_⟩;haveI:=Dk (s:=s) p1 p2 p3 p4 p5 nd hd ai (by exact gb [R0 V0 (zp V1 V3),R3 V2 V3] V0 (zp V1 V2) rfl l2 hl) (by exact cR [R0 V2 V1,R2 V0 V2] V0 V1 rfl h3 hl)
 rwa [hl] at this
def HP(hk:K.In P.B0)(hbd:jB K=gG)(hlt:f<75)(hne:f≠74)(hd:gO f=xV d)(h:HO K f=Nk):∃fd nms body,oq P (d6 f) d fd nms body/\jf fd.scope.names nms 200 d.body body=Nk:=by
 refine kU h λo ho h=>kU h λd' hd' h=>DC h λfd hfd h=>?_;cases hd.symm.trans hd';refine ah (r9 hbd hlt ho hfd) λb e1 e2=>?_;haveI h7:jf fd.scope.names (yq f) 200 d.body b=Nk:=by
  rcases OK.mp (all_eq_true.mp Hc f (mem_range.mpr hlt)) with q|q
  ·exact NK (eq_of_beq q) hne
  ·refine kU q λd' hd' q=>kU q λp hp q=>?_
   cases hd.symm.trans hd';cases e1.symm.trans hp;exact q
 haveI g:=ai (ai (ai (ai (ai h))));have nB:=ay (ai (ai (ai h)));haveI nd:(yq f).Nodup:=bh (ai (ai (ai nB)));have hlen:((yq f).take d.arity).length=d.arity:=(OR ..).trans (Qh (bh (ay (ai (ai nB)))));refine⟨fd,yq f,b,⟨⟨o,hk _ _ ho,hfd⟩,e2,vk hk (ay (ai (ai (ai (ai h))))),nt (ai (ai (ai (ai (ai g))))),nt (ay (ai (ai (ai (ai g))))),bh (ay (ai (ai (ai g)))),isEmpty_iff.mp (ay (ai (ai g))),bh (ay (ai g)),bh (ay g),nd,bh (ay (ai (ai nB))),λx hx=>bh (all_eq_true.mp (ay (ai nB)) x hx),
  λx hx=>abW (all_eq_true.mp (ay nB) x hx),λs xs hs l k=>?_⟩,h7⟩
 haveI:=zO hk (ay (ai (ai h))) (nd.sublist (Vn _ _)) (ay (ai h)) (hlen.symm▸bh (ay h)) s xs hs (hlen.symm▸l) (hlen.symm▸k)
 rwa [hlen] at this
end
abbrev AF(w:Px)(B0 B:Heap)(os:QM)(gens:O8 Ua):bx:=⟨w,vd,oQ,B0,B,os,gens⟩
def Mg:∃b a,mj 74=xV (b,a)/\yZ b/\a.names.lookup ("self" : NX)=xV .local/\a.names.lookup ("what" : NX)=xV .local/\a.names.lookup ("at" : NX)=xV .local/\a.names.lookup ("Exception" : NX)=xV .globalImplicit:=
 ⟨_,_,rfl,.mk _ _ _ _ _ _ _ _ _ _ _ _ _ _ rfl,by decide +kernel,by decide +kernel,by decide +kernel,by decide +kernel⟩
def yn:Ni Nz:=[.ref aek,.type "Exception",.type "BaseException",.type "object"]
def HF:qV yn:=⟨by decide +kernel,by decide +kernel,by decide +kernel,by decide +kernel,by decide +kernel,λself=>by rfl⟩
def aa9(K:PS):NF:=oB (K.lookup oQ) λo=>dCl o.data λcd=>decide (o.cls=.type "type")&&decide (cd.mro=.ref oQ::yn)&&cd.hasDict&&!cd.hasDel&&decide (o.slots.toList.length=6)&&decide (o.slots[4]?=xV (xV (.builtin "Exception.__new__")))
def Nb{p:Ni α->Prop}(k:∀a r,r.length=n->p (a::r))(h:l.length=n+1):p l:=by
 induction l using Nw with
 |nil=>contradiction
 |cons a r=>exact k a r (Q3 h)
def pe0{p:Ni α->Prop}(k:p [])(h:l.length=0):p l:=Sx.mp h▸k
@[elab_as_elim] def l6{p:Ni α->Prop}(k:∀a b c d e f,p [a,b,c,d,e,f]):∀{l},l.length=6->p l:=λh=>
 Nb (λa _ h=>Nb (p:=λr=>p (a::r)) (λb _ h=>Nb (p:=λr=>p (a::b::r)) (λc _ h=>Nb (p:=λr=>p (a::b::c::r)) (λd _ h=>Nb (p:=λr=>p (a::b::c::d::r)) (λe _ h=>Nb (p:=λr=>p (a::b::c::d::e::r)) (λf _ h=>pe0 (p:=λr=>p (a::b::c::d::e::f::r)) (k a b c d e f) h) h) h) h) h) h) h
def HE{K:PS}(h:aa9 K=Nk):Nh oQ (K.lookup oQ):=by refine kU h λo he h=>aa1 h λl hd h=>?_;obtain⟨c,d,f,⟨e⟩⟩:=o;obtain⟨nm,bs,mro,ns,j,a,sn,sub,ab,col,del⟩:=l;haveI i:c=_:=bh (ai (ai (ai (ai (ai h)))));haveI k:mro=_:=bh (ay (ai (ai (ai (ai h)))));haveI m:a=Nk:=ay (ai (ai (ai h)));haveI g:del=Nr:=nt (ay (ai (ai h)));haveI b:=(TS ..).symm.trans (bh (ay h));haveI n:e.length=6:=bh (ay (ai h));haveI hd:f=_:=hd;rw[he];rw[hd];rw[i];rw[k];rw[m];rw[g];clear he h;revert b;refine l6 (λk0 k1 k2 k3 p k5 b=>?_) n;exact⟨nm,j,ns,bs,yn,sn,sub,ab,col,d,k0,k1,k2,k3,k5,by rw[N1 b];rfl,HF⟩
def pxB(K:PS):NF:=aa9 K&&decide (P0 K (.ref oQ) "__init__" = xV (xV (.ref (d6 74))))&&decide (TB K (.ref (d6 74))=xV (.type "function")) &&
 decide (P0 K (.ref oQ) "__setattr__" = xV (xV (.builtin "object.__setattr__")))&&decide (P0 K (.ref oQ) "what" = xV Nm)&&decide (P0 K (.ref oQ) "at" = xV Nm) &&
 (match Xb K (.type "Exception") (.type "type") "__init__" with|some (.val v)=>decide (v=.builtin "Exception.__init__")| _=>Nr)&&Xa K (.ref oQ) &&
 oB (K.lookup (d6 74)) λo=>dFn o.data λfd=>Dy K fd&&JZ fd&&IL fd (["self", "what", "at"]:Ni NX)&&Hr K fd.defaults [.int (-1)]
section
variable {w:Px}{B0 B:Heap}{os:QM}{gens:O8 Ua}{K:PS}
def Mi(hk:K.In B0)(a:jB K=gG)(h:pxB K=Nk):∃m fd body,PX (AF w B0 B os gens) K m fd body:=by
 haveI d:=ay h;haveI h:=ai h;refine kU d λo k d=>DC d λfd c g=>?_;refine ah (r9 a (by decide) k c) λb j i=>?_;refine aO Mg λA v n l t=>?_;cases j.symm.trans n;haveI f:=ay (ai (ai g));refine⟨d6 74,fd,b,⟨?_,bh (ay (ai (ai (ai (ai (ai (ai h))))))),bh (ay (ai (ai (ai (ai (ai h)))))),bh (ay (ai (ai (ai (ai h))))),bh (ay (ai (ai (ai h)))),bh (ay (ai (ai h))),?_,ay h,⟨o,hk _ _ k,c⟩,i,l,vk hk (ai (ai (ai g))),
  nt (ai (ai (ai (ai (ai f))))),nt (ay (ai (ai (ai (ai f))))),bh (ay (ai (ai (ai f)))),isEmpty_iff.mp (ay (ai (ai f))),bh (ay (ai f)),bh (ay f),t,λs x y z u=>?_⟩⟩
 ·obtain⟨nm,q,N,bs,bm,sn,sub,ab,col,bh,k0,k1,k2,k3,k5,j,i⟩:=HE (ai (ai (ai (ai (ai (ai (ai h)))))))
  exact⟨nm,q,N,bs,bm,sn,sub,ab,col,bh,k0,k1,k2,k3,k5,hk _ _ j,i⟩
 ·have e:=ay (ai h)
  clear h d g f;generalize Xb K (.type "Exception") (.type "type") "__init__" = r at e ⊢;induction r with
  |none=>injection e
  |some r=>induction r<;>first|contradiction;done|rw[bh e];rfl
 ·refine ah (zO hk (ay (ai g)) (by decide +kernel) (ay g) (by decide) s [x,y,z] u (by decide:3<=3) (by decide:3<=3+1)) λp r a=>?_
  induction p using Nw with
  |nil=>exact a
  |cons _ _=>injection r.length
end
noncomputable def aaR:Ni VT:=[.none,.bool,.int,.list,.dict]++xC.map .own
noncomputable def aaQ:Ni Ty:=[.bool,.int,.list,.dict]++xC.map .own
def E2(t:VT):t∈aaR:=by
 induction t with
 |none=>exact .head _
 |bool=>exact .tail _ (.head _)
 |int=>exact .tail _ (.tail _ (.head _))
 |list=>exact .tail _ (.tail _ (.tail _ (.head _)))
 |dict=>exact .tail _ (.tail _ (.tail _ (.tail _ (.head _))))
 |own c=>exact mem_append_right _ (mem_map.mpr ⟨c,gq c,rfl⟩)
def E1(t):t∈aaQ:=by
 induction t with
 |bool=>exact .head _
 |int=>exact .tail _ (.head _)
 |list=>exact .tail _ (.tail _ (.head _))
 |dict=>exact .tail _ (.tail _ (.tail _ (.head _)))
 |own c=>exact mem_append_right _ (mem_map.mpr ⟨c,gq c,rfl⟩)
def pcB(K:PS):NF:=
 (xC.all λc=>plainGet K (vd c) "" && hasDictIn K (vd c)&&decide (P0 K (.ref (vd c)) "__class__" = xV (xV (.builtin "object.__class__")))&&decide (P0 K (.ref (vd c)) "__setattr__" = xV (xV (.builtin "object.__setattr__")))&&plainOver K (vd c) &&
  decide (mroIn K (vd c) (.type "object")=xV Nk) &&
  (aG c).all λf=>oB (P0 K (.ref (vd c)) (az f)) (noGet K)&&decide (takerIn K (vd c) (az f)=xV Nm)) &&
 (aaR.all λv=>aaQ.all λt=>decide (kitOne K (vtW vd v) (tyW vd t)=xV (lV v t))) &&
 decide (specialIn K (.builtin "object.__class__") "__get__" = xV (xV (.builtin "getset_descriptor.__get__")))&&decide (takesIn K (.builtin "object.__class__")=xV Nk)
def Mf{os:QM}{K}(hk:K.In B0)(h:pcB K=Nk):PC (AF w B0 B os gens) K:=by
 have c:=λc=>all_eq_true.mp (ai (ai (ai h))) c (gq c);haveI f:=λb f (d:f∈aG b)=>all_eq_true.mp (ay (c b)) f d;exact⟨hk,λb nm=>ai (ai (ai (ai (ai (ai (c b)))))),λb=>ay (ai (ai (ai (ai (ai (c b)))))),λb g d=>kU (ai (f b g d)) λa e h=>⟨a,e,h⟩,λv t=>bh (all_eq_true.mp (all_eq_true.mp (ay (ai (ai h))) v (E2 v)) t (E1 t)),
  λb=>bh (ay (ai (ai (ai (ai (c b)))))),bh (ay (ai h)),bh (ay h),λb=>bh (ay (ai (ai (ai (c b))))),λb=>ay (ai (ai (c b))),λb g d=>bh (ay (f b g d)),λb=>bh (ay (ai (c b)))⟩
noncomputable def oN(o:Nt α)(k:α->NF):NF:=match o with|some a=>k a|none=>Nk
def Kh(h:oN o k=Nk)(e:o=xV a):k a=Nk:=by rw[e] at h;exact h
def aeU(K:PS):NF:=(xC.all λc=>(Pr 11).all λm=>oN (fT c m) λf=>decide (P0 K (.ref (vd c)) (LN m)=xV (xV (.ref (d6 f))))&&decide (TB K (.ref (d6 f))=xV (.type "function"))) &&
 xC.all λc=>decide (c=.stream)||(Xa K (.ref (vd c))&&XK K (vd c)&&decide (P0 K (.ref (vd c)) "__init__" = xV (xV (.ref (d6 (jG c)))))&&decide (TB K (.ref (d6 (jG c)))=xV (.type "function")))
def abj(K:PS):NF:=
 (Di.all λp=>decide (gK K p.1=Nm)) &&
 ((Pr 30).all λi=>oB (gK K (Ai i)) (ab2 K (vM i))) &&
 ((Pr 75).all λf=>oN (pH f) λx=>decide (gK K x=xV (.ref (d6 f)))) &&
 decide (gK K "told_objects" = xV (.ref (d6 21)))&&(xC.all λc=>decide (gK K (vf c)=xV (.ref (vd c))))&&decide (gK K "SyntaxFault" = xV (.ref oQ))
def JL(K:PS):NF:=pxB K&&pcB K
def xi(K:PS):NF:=((Pr 75).all λf=>f==74||HO K f)&&aeU K&&abj K
def Ae(h:gO f=xV d):f<75:=(Ou.mp h).1
def sy(h:pH f=xV x):f<75/\f≠74:=by
 refine⟨?_,λe=>by subst e;cases h⟩;unfold pH at h;induction e:Ag[f]? with
 |none=>replace h:=(e)▸h;contradiction
 |some _=>exact(Ou.mp e).1
noncomputable def mLt:NF:=[eX.cursor,.decimal,.name,.string,.reference,.frame,.bench,.shelf,.stream].all λc=>(Pr 11).all λm=>match fT c m with|some f=>decide (f<75/\f≠74)|none=>Nk
def Ip:mLt=Nk:=by decide +kernel
def B8(h:fT c m=xV f):m<11/\f<75/\f≠74:=by haveI:=all_eq_true.mp (all_eq_true.mp Ip c (Az c)) m (mem_range.mpr (jP h));replace this:=(h)▸this;exact⟨jP h,bh this⟩
def qN{K}(h:xi K=Nk)(b:f<75)(a:f≠74):HO K f=Nk:=
 (OK.mp (all_eq_true.mp (ai (ai h)) f (mem_range.mpr b))).elim (λq=>NK (eq_of_beq q) a) id
def vL{K}(hk:K.In B0)(h:HO K f=Nk):∃o fd,B0.get? (d6 f)=xV o/\o.data=.func fd:=
 kU h λo b h=>kU h λ_ _ h=>DC h λfd a _=>⟨o,fd,hk _ _ b,a⟩
def MZ{os:QM}{K}(hk:K.In B0)(j:JL K=Nk)(h:xi K=Nk)(b:jB K=gG)(lim:B0.NoLimit)(s:B0.Ns O3 (gK K))(k:B0.Ns Q9 mb)(hm:∀x v,(x,v)∈Di->mb x=xV v):
  xy (AF w B0 B os gens) K (gK K) mb d6/\∀f d,gO f=xV d->f≠74->∃fd nms body,oq (AF w B0 B os gens) (d6 f) d fd nms body/\jf fd.scope.names nms 200 d.body body=Nk:=by
 have g:=ay h;haveI o:∀p∈Di,gK K p.1=Nm:=λp r=>bh (all_eq_true.mp (ai (ai (ai (ai (ai g))))) p r);have bi:∀x v,(x,v)∈Di->gK K x=Nm/\mb x=xV v:=λx v a=>⟨o _ a,hm x v a⟩;have cl:∀c,gK K (vf c)=xV (.ref (vd c)):=λc=>bh (all_eq_true.mp (ay (ai g)) c (gq c));have l:=λc m (hm:m<11)=>all_eq_true.mp (all_eq_true.mp (ai (ay (ai h))) c (gq c)) m (mem_range.mpr hm);refine⟨⟨⟨lim,s,k,bi,λi hi=>?_⟩,Mf hk (ay j),λf x a=>?_,bh (ay (ai (ai g))),λc _=>cl c,λty=>?_,λc m f e=>?_,λc n=>?_,bh (ay g),Mi hk b (ai j)⟩,λf d hd e=>HP hk b (Ae hd) e hd (qN h (Ae hd) e)⟩
 ·exact kU (all_eq_true.mp (ay (ai (ai (ai (ai g))))) i (mem_range.mpr hi)) λx a h=>⟨x,a,Ij hk h⟩
 ·haveI k1:=(sy a).1;haveI k2:=(sy a).2
  haveI:=Kh (all_eq_true.mp (ay (ai (ai (ai g)))) f (mem_range.mpr k1)) a;exact⟨bh this,vL hk (qN h k1 k2)⟩
 ·induction ty with
  |bool=>exact .inr (bi "bool" (.type "bool") (by decide +kernel))
  |int=>exact .inr (bi "int" (.type "int") (by decide +kernel))
  |list=>exact .inr (bi "list" (.type "list") (by decide +kernel))
  |dict=>exact .inr (bi "dict" (.type "dict") (by decide +kernel))
  |own c=>exact .inl (cl c)
 ·refine A3 (B8 e) λk1 k2 k3=>?_
  haveI:=Kh (l c m k1) e;exact⟨bh (ai this),bh (ay this),vL hk (qN h k2 k3)⟩
 ·rcases OK.mp (all_eq_true.mp (ay (ay (ai h))) c (gq c)) with q|q
  ·exact NK (bh q) n
  ·exact⟨ai (ai (ai q)),ay (ai (ai q)),bh (ay (ai q)),bh (ay q)⟩
end
section
open PySem PySem.W PySem.Calls PyProof.Rows
noncomputable def loose:Ni NX:=(["_wall", "WHITE", "DELIMITERS", "LINE_FEED", "RETURN", "COMMENT", "MOST_FIGURES_cursor", "is_white", "is_regular", "is_figure", "Cursor", "PaperError"]:Ni NX)++(["SyntaxFault", "DeskFault", "MOST_FIGURES_decimals", "PLUS", "MINUS", "POINT", "ZERO", "Decimal", "sign_text", "read_decimal", "MOST_HOPS", "Name"]:Ni NX)++(["String", "Stream", "Reference", "kind_of", "told_plain", "told", "told_objects", "parts_of", "depth_of", "Lookup", "Shelf", "MOST_NESTED"]:Ni NX)++(["MOST_NUMBER", "BACKSLASH_writer", "OPEN_BRACKET", "CLOSE_BRACKET", "CARRIAGE", "NUMBER_SIGN", "HEX_FIGURES", "text_octets", "hex_pair", "name_octets", "whole_octets", "decimal_octets"]:Ni NX)++(["lone_brackets", "literal_octets", "hex_octets", "string_octets", "plain_part", "lay_reference", "lay_dict", "lay_parts", "run_together", "joined_parts", "stream_head", "write_object"]:Ni NX)++(["MOST_FIGURES_OF_LINES", "Bench", "object_of", "octets_line", "whole_in", "numbers_in", "numbers_text", "object_asked", "PAREN", "CLOSE_PAREN", "LESS", "GREATER"]:Ni NX)++(["SLASH", "BACKSLASH_lexer", "HASH", "SIGNS", "hex_worth", "plain_escape", "name_text", "octal", "escaped_codes", "literal", "hex_string", "run_token"]:Ni NX)++(["delimited_token", "next_token", "is_sign", "MOST_DEPTH", "Frame", "is_whole", "take_reference", "word_value", "plain_value", "dict_of", "close_frame", "object_from"]:Ni NX)++(["read_object", "read_value", "_law_draw", "_law_plain", "_law_object", "_law_is_least"]:Ni NX)
def qv:WR:={ pw with main:={ pw.main with body:=(pw.main.body.drop 111).take 1 } }
noncomputable abbrev acB:=PySem.W.Fast.tw10110043849684766642
noncomputable abbrev acI:=PySem.W.Fast.tw14364793385576792824
abbrev Mq(w:Px)(os:QM):=acB acI pw w 11 (xV (.ref 6)) 1 6200 (Nc w os) (Xq (Q2 pw) DI cE C6 [T9 C6])
def ab3(w:Px)(s:NJ):=(Vs [] (RH w.params) s.heap&&V9 pw s.heap&&Xo s&&Xp (RH w.params) s.heap&&recOk [] s,Va qv loose [] (λ_=>Nk) Nk s)
noncomputable abbrev aci:XM:=⟨761,0,773,15⟩
noncomputable def sz(T:BT):PS:=xB.filterMap λa=>(T.get a).map λo=>(a,o)
noncomputable def LV(T:BT)(n:Nu):NF:=xB.all λa=>Nu.blt a n&&(match T.get a with|some o=>(alive o).isSome|none=>Nr)
theorem iB{α β:Type}{f g:α->Nt β}:∀{l:Ni α},(∀a∈l,f a=g a)->l.filterMap f=l.filterMap g
 |[],_=>rfl
 |a::l,h=>by rw[UM,UM,h a (.head _),iB λb hb=>h b (.tail _ hb)]
set_option tactic.hygienic true in
def D1{T:BT}{n:Nu}{life:Life}(h:LV T n=Nk):kl (absHeap T n life)=sz T:=by
 unfold kl sz;refine iB λa ha=>?_;have:=RL.mp h a ha;rw[Od] at this;obtain⟨h1,h2⟩:=this;have lt:a<n:=Nu.le_of_ble_eq_true h1;split at h2
 ·rename_i o ho
  rw[ho,abs_get lt ho];have:alive o=xV o:=by
   unfold alive at h2 ⊢;split at h2
   ·cases h2
   ·rfl
  rw[this];rfl
 ·cases h2
set_option tactic.hygienic true in
def ae5(w:Px)(os:QM):(Mq w os).map (λr=>(r.1,r.2.2.1,r.2.2.2,ab3 w r.2.1.abs))=xV (XR.next,cE,aci,(Nk,openGood qv loose)):=by kernel_rfl
def ae6(w:Px)(os:QM):(Mq w os).map (λr=>LV r.2.1.tree r.2.1.n&&JL (sz r.2.1.tree))=xV Nk:=by kernel_rfl
def ae7(w:Px)(os:QM):(Mq w os).map (λr=>(xi (sz r.2.1.tree),jB (sz r.2.1.tree)))=xV (Nk,gG):=by kernel_rfl
end
section
open PySem PySem.W PySem.Calls PyProof.Rows
def YT(_:Px)(h:Heap):Prop:=∃K:PS,K.In h/\JL K=Nk/\xi K=Nk/\jB K=gG
def YT.keeps(w:Px)(h h':Heap)(x:YT w h)(k:∀b o,h.get? b=xV o->h'.get? b=xV o):YT w h':=by obtain⟨K,h1,h2⟩:=x;exact⟨K,h1.keeps k,h2⟩
set_option tactic.hygienic true in
def HQ{K:PS}(h:xi K=Nk):∃o,K.lookup O3=xV o:=by
 unfold xi abj at h;simp only[Od,N8] at h;have:=h.2.2;unfold gK at this;split at this
 ·rename_i o ho;exact⟨o,ho⟩
 ·cases this
def abi{K:PS}{h:Heap}(hk:K.In h)(h2:xi K=Nk){mg:NX->Nt Nz}(hg:h.Ns O3 mg):mg=gK K:=by obtain⟨o,ho⟩:=HQ h2;obtain⟨o',es,ep,e1,e2,_,e3⟩:=hg;rw[hk _ _ ho] at e1;cases e1;funext x;unfold gK;rw[ho];simp only[e2];exact(e3 x).symm
def yf(s:NJ):NF×NF×Ni (Nt (Wv×Ru)):=(JL (kl s.heap),xi (kl s.heap),jB (kl s.heap))
def ya(_:Px):NF×NF×Ni (Nt (Wv×Ru)):=(Nk,Nk,gG)
def acQ(w:Px)(s:NJ)(h:yf s=ya w):YT w s.heap:=by unfold yf ya at h;simp only[RO] at h;exact⟨kl s.heap,D0 _,h.1,h.2.1,h.2.2⟩
noncomputable def xtB(s:NJ):NF:=recOk [] s
def Jw:@XG=acB:=PySem.W.Fast.te10110043849684766642
def JI:QH=acI:=PySem.W.Fast.te14364793385576792824
def wL{q:WR}{loose mods:Ni NX}{Xt:NJ->NF}{g0:NF}{s:NJ}(h:Xt s=Nk):Va q loose mods Xt g0 s=Va q loose mods (λ_=>Nk) g0 s:=by unfold Va;rw[h];rfl
set_option tactic.hygienic true in
def left:LeftO pw qv loose xtB yf ya 20000 Nk:=by
 refine LeftO.Fg (H₀:=RH) (gs₀:=#[]) (d₀:=Wa) (k₀:=WJ) (m₀:=11) (ann:=xV (.ref 6)) (M:=12+(1+(6200+2))) (boot_open opens (by decide) abf) size (λw os=>?_) (by decide);obtain⟨⟨f,sT,c,p⟩,h1,h2⟩:=Nt.map_eq_some_iff.mp (ae5 w os);simp only[RO] at h2;obtain⟨rfl,rfl,rfl,hl⟩:=h2;unfold ab3 at hl;simp only[RO] at hl;obtain⟨h2,h3⟩:=hl;have r2:=ae6 w os;have r3:=ae7 w os;rw[h1] at r2 r3;simp only[Nt.map_some,Rm,Od,RO] at r2 r3;obtain⟨ok,t1⟩:=r2;obtain⟨t2,bd⟩:=r3;have eq:kl sT.abs.heap=sz sT.tree:=D1 ok;have hrun:XG QH pw w 11 (xV (.ref 6)) 1 6200 (Nc w os) (Xq (Q2 pw) DI cE C6 [T9 C6])=xV (.next,sT,cE,aci):=by rw[JI,Jw];exact h1
 simp only[Od] at h2;obtain⟨⟨⟨⟨a1,a2⟩,a3⟩,a4⟩,a5⟩:=h2;have hx:xtB sT.abs=Nk:=by exact a5
 refine⟨sT.abs,Mr hrun,?_,?_,?_⟩
 ·show(Vs [] _ _&&_&&_&&_)=Nk
  rw[a1,a2,a3,a4];rfl
 ·rw[wL hx];exact h3
 ·unfold yf ya
  rw[eq,t1,t2,bd]
end
section
open scoped Classical
open T
section
set_option genInjectivity true
noncomputable def xk:Ni Nu:=[0,9,10,12,13,32]
noncomputable def jl:Ni Nu:=[40,41,60,62,91,93,123,125,47,37]
noncomputable def nq(c:Nu):NF:=xk.contains c
noncomputable def aI(c:Nu):NF:=!xk.contains c&&!jl.contains c
def aE(r:Ni Nu):Ni Nu:=r.dropWhile nq
def a6(r:Ni Nu):Ni Nu:=r.takeWhile aI
def a8(r:Ni Nu):Ni Nu:=r.dropWhile aI
noncomputable def bT(c:Nu):N6:=if 48<=c/\c<=57 then(c:N6) - 48 else if 65<=c/\c<=70 then(c:N6) - 55 else if 97<=c/\c<=102 then(c:N6) - 87 else -1
def aT(c:Nu)(r:Ni Nu):Nu×Ni Nu:=
 match r with
 |h::l::r'=>if c=35/\0<=bT h/\0<=bT l then((16 * bT h+bT l).toNat,r') else(c,r)
 | _=>(c,r)
def gU{M:Nu×Ni Nu->Prop}(k:M (c,r))(l:∀h l a,r=h::l::a->c=35->0<=bT h->0<=bT l->M ((16 * bT h+bT l).toNat,a)):M (aT c r):=by
 cases r with
 |nil=>exact k
 |cons h r=>
  induction r with
  |nil=>exact k
  |cons x r=>exact(NG (c=35/\0<=bT h/\0<=bT x)).elim (λq=>XD (NN M (Np q)) (l h x r rfl q.1 q.2.1 q.2.2)) λq=>XD (NN M (Nl q)) k
def jQ(h:c≠35):aT c r=(c,r):=gU (M:=(·=(c,r))) rfl λ_ _ _ _ e=>NK e h
def kN(c)(r):(aT c r).2.length<=r.length:=gU (M:=λp=>p.2.length<=r.length) (NA _) λ_ _ _ e _ _ _=>e▸O9 (Ql _)
noncomputable def cU:Ni Nu->Nt (Ni Nu)
 |[]=>xV []
 |c::r=>if(aT c r).1=0 then Nm else(cU (aT c r).2).map ((aT c r).1::·)
termination_by l=>l.length
decreasing_by have:=kN c r;simp only[Nn];exact L1 this
noncomputable def nx:Nu->Nu->Ni Nu->Nu×Ni Nu
 |n+1,c,x::r=>if 48<=x/\x<=55 then nx n (8 * c+(x - 48)) r else(c % 256,x::r)
 | _,c,r=>(c % 256,r)
def nY:∀n c x r,nx  (n+1) (c) (x::r)=(if 48<=x/\x<=55 then nx n (8 * c+(x - 48)) r else(c % 256,x::r)):=by intros;rfl
noncomputable def kW(c:Nu):Nu:=if c=110 then 10 else if c=114 then 13 else if c=116 then 9 else if c=98 then 8 else if c=102 then 12 else c
def eH:Ni Nu->Ni Nu×Ni Nu
 |[]=>([],[])
 |c::r=>if c=10 then([],r) else if 48<=c/\c<=55 then([(nx 2 (c - 48) r).1],(nx 2 (c - 48) r).2) else([kW c],r)
def wJ:∀n c r,(nx n c r).2.length<=r.length:=by
 intro b;induction b with
 |zero=>intro c r;induction r<;>exact NA _
 |succ n a=>
  intro c d;induction d using Nw with
  |nil=>exact NA _
  |cons x r=>
   rw[nY];split
   ·haveI:=a (8 * c+(x - 48)) r
    (exact O9 ‹_›)
   ·exact NA _
def pE(r):(eH r).2.length<=r.length:=by
 induction r using Nw with
 |nil=>exact NA _
 |cons c r=>
  rw[eH];haveI:=wJ 2 (c - 48) r;split
  ·simp
  ·split
   ·simp only[Nn];(exact O9 ‹_›)
   ·simp
noncomputable def cw:Ni Nu->Nu->Nt (Ni Nu×Ni Nu)
 |[],_=>Nm
 |c::r,d=>
  if c=92 then(cw (eH r).2 d).map λp=>((eH r).1++p.1,p.2)
  else if c=41/\d=1 then xV ([],r)
  else(cw r (if c=40 then d+1 else if c=41 then d - 1 else d)).map λp=>(c::p.1,p.2)
termination_by l=>l.length
decreasing_by
 ·have:=pE r;simp only[Nn];exact L1 this
 ·simp
noncomputable def a7:Ni Nu->Ni Nu
 |a::b::r=>(16 * a+b)::a7 r
 |[a]=>[16 * a]
 |[]=>[]
def l7:∀a b r,a7  (a::b::r)=((16 * a+b)::a7 r):=by intros;rfl
def Cn:∀a,a7  ([a])=([16 * a]):=by intros;rfl
def Co:a7  ([])=([]):=by intros;rfl
noncomputable def iD:Ni Nu->Ni Nu->Nt (Ni Nu×Ni Nu)
 |[],_=>Nm
 |c::r,hs=>if c=62 then xV (a7 hs,r) else if 0<=bT c then iD r (hs++[(bT c).toNat]) else if nq c then iD r hs else Nm
def ac3:∀a,iD  ([]) (a)=(Nm):=by intros;rfl
def kp:∀c r a,iD  (c::r) (a)=(if c=62 then xV (a7 a,r) else if 0<=bT c then iD r (a++[(bT c).toNat]) else if nq c then iD r a else Nm):=by intros;rfl
noncomputable def kg:Ni Nu->Nu->Nu->Nt Nu->Nt (Nu×Nu×Nt Nu)
 |[],t,n,p=>xV (t,n,p)
 |c::r,t,n,p=>if c=46/\p=Nm then kg r t n (xV 0) else if 48<=c/\c<=57 then kg r (10 * t+(c - 48)) (n+1) (p.map (·+1)) else Nm
def Hn:∀t n p,kg  ([]) (t) (n) (p)=(xV (t,n,p)):=by intros;rfl
def nN:∀c r t n p,kg  (c::r) (t) (n) (p)=(if c=46/\p=Nm then kg r t n (xV 0) else if 48<=c/\c<=57 then kg r (10 * t+(c - 48)) (n+1) (p.map (·+1)) else Nm):=by intros;rfl
noncomputable def dq:N6->Nu->N6×Nu
 |t,0=>(t,0)
 |t,p+1=>if t % 10=0 then dq (t / 10) p else(t,p+1)
def nX(t)(p):dq t (p+1)=if t % 10=0 then dq (t / 10) p else(t,p+1):=rfl
inductive Num|int (i:N6)|real (t:N6) (p:Nu)
noncomputable def g9(run:Ni Nu):NF:=match run with|c::_=>c==43||c==45|[]=>Nr
noncomputable def c6(run:Ni Nu):NF:=match run with|c::_=>c==45|[]=>Nr
noncomputable def bN(run:Ni Nu):Nt Num:=
 match kg (if g9 run then run.drop 1 else run) 0 0 Nm with
 |none=>Nm
 |some (t,n,p)=>if n=0\/40<n then Nm else
  let t':N6:=if c6 run then -(t:N6) else t
  match p with
  |none=>xV (.int t')
  |some p=>xV (.real (dq t' p).1 (dq t' p).2)
set_option deriving.decEq.linear_construction_threshold 0 in
inductive Tok|word (b:Ni Nu)|int (i:N6)|real (t:N6) (p:Nu)|name (s:Ni Nu)|str (b:Ni Nu)|hex (b:Ni Nu)|sign (b:Ni Nu)|fin
 deriving OY
noncomputable def pC(t:N6)(p:Nu):V:=.obj .decimal [.int t,.int p]
def Num.v:Num->V
 |.int i=>.int i
 |.real t p=>pC t p
noncomputable def Tok.kind:Tok->Ni Nu
 |.word _=>[119,111,114,100]|.int _=>[105,110,116]|.real _ _=>[114,101,97,108]|.name _=>[110,97,109,101]
 |.str _=>[115,116,114,105,110,103]|.hex _=>[104,101,120]|.sign _=>[115,105,103,110]|.fin=>[101,110,100]
def Tok.worth:Tok->V
 |.word b=>.bytes b|.int i=>.int i|.real t p=>pC t p|.name s=>.str s
 |.str b=>.bytes b|.hex b=>.bytes b|.sign b=>.bytes b|.fin=>.bytes []
def Tok.v(t:Tok)(at_:N6):V:=.tup [.str t.kind,t.worth,.int at_]
noncomputable def dg(run:Ni Nu):Tok:=match bN run with|none=>.word run|some (.int i)=>.int i|some (.real t p)=>.real t p
def l0:Ni Nu->Nt (Tok×Ni Nu)
 |[]=>xV (.fin,[])
 |c::r=>
  if c=47 then(cU (a6 r)).map λs=>(.name s,a8 r)
  else if c=40 then(cw r 1).map λp=>(.str p.1,p.2)
  else if c=60 then(if r.head?=xV 60 then xV (.sign [60,60],r.drop 1) else(iD r []).map λp=>(.hex p.1,p.2))
  else if c=62 then(if r.head?=xV 62 then xV (.sign [62,62],r.drop 1) else Nm)
  else if c=41 then Nm
  else if c=91\/c=93\/c=123\/c=125 then xV (.sign [c],r)
  else xV (dg (a6 (c::r)),a8 (c::r))
def bG(r:Ni Nu):Nt (Tok×Ni Nu):=l0 (aE r)
def Mo(r3:Ni Nu)(n:Num):Nt (N6×Ni Nu):=match n with
 |.int g=>if 0<=g/\a6 r3=[82] then xV (g,a8 r3) else Nm
 |.real ..=>Nm
def nz(r:Ni Nu):Nt (N6×Ni Nu):=(bN (a6 (aE r))).bind (Mo (aE (a8 (aE r))))
def FQ(h:nz r=xV (g,r')):bN (a6 (aE r))=xV (.int g)/\(0<=g/\a6 (aE (a8 (aE r)))=[82])/\r'=a8 (aE (a8 (aE r))):=by
 refine oM h λn e h=>?_;induction n with
 |int x=>
  refine jq (h:(if 0<=x/\_ then _ else _)=_) (λq h=>?_) λ_ h=>by contradiction
  injection h with h;injection h with b a;clear h;clear h;subst b a
  exact⟨e,q,rfl⟩
 |real _ _=>contradiction
noncomputable def cV(s:Ni Nu):V:=.obj .name [.str s]
noncomputable def Gj(b:Ni Nu)(h:NF):V:=.obj .string [.bytes b,.bool h]
noncomputable def k7(n g:N6):V:=.obj .reference [.int n,.int g]
def fX(tk:Tok)(r:Ni Nu):Nt (V×Ni Nu):=
 match tk with
 |.int i=>if 0<=i then(match nz r with|some (g,r')=>xV (k7 i g,r')|none=>xV (.int i,r)) else xV (.int i,r)
 |.real t p=>xV (pC t p,r)
 |.name s=>xV (cV s,r)
 |.str b=>xV (Gj b Nr,r)
 |.hex b=>xV (Gj b Nk,r)
 |.word b=>if b=[116,114,117,101] then xV (.bool Nk,r) else if b=[102,97,108,115,101] then xV (.bool Nr,r) else if b=[110,117,108,108] then xV (.none,r) else Nm
 | _=>Nm
noncomputable abbrev Fr:=NF×Ni V
noncomputable def Ke:V->Ni Nu
 |.obj .name [.str s]=>s
 | _=>[]
noncomputable def eR:Ni V->Ni (Ni Nu×V)
 |k::v::r=>(Ke k,v)::eR r
 | _=>[]
def qs:∀k v r,eR  (k::v::r)=((Ke k,v)::eR r):=by intros;rfl
noncomputable def dE(k:Ni Nu)(v:V):Ni (Ni Nu×V)->Ni (Ni Nu×V)
 |[]=>[(k,v)]
 |(k',v')::r=>if k'=k then(k',v)::r else(k',v')::dE k v r
def ac8(k)(v):dE k v ([])=([(k,v)]):=by intros;rfl
def fK(k)(v):∀k' v' r,dE k v ((k',v')::r)=(if k'=k then(k',v)::r else(k',v')::dE k v r):=by intros;rfl
def iC(items:Ni V):Ni (Ni Nu×V):=(eR items).foldl (λd p=>dE p.1 p.2 d) []
def hU(items:Ni V):V:=
 let d:=(iC items).filter λp=>aJ p.2
 .ec (d.map (·.1)) (d.map (·.2))
noncomputable def eI(l:Ni V):NF:=l.length % 2==0
def aQ:Ni Fr->NF
 |(Nk,l)::_=>eI l
 | _=>Nr
noncomputable def gL(fs:Ni Fr)(dict:NF):Nt (V×Ni Fr):=
 match fs with
 |(k,l)::fs=>if k=dict then(if dict then(if eI l then xV (hU l,fs) else Nm) else xV (.lst l,fs)) else Nm
 |[]=>Nm
inductive Step|done (v:V) (r:Ni Nu)|more (fs:Ni Fr) (r:Ni Nu)
noncomputable def fJ(v:V)(r:Ni Nu):Ni Fr->Step
 |[]=>.done v r
 |(k,l)::fs=>.more ((k,l++[v])::fs) r
noncomputable def eB:Tok->NF
 |.name _=>Nk
 | _=>Nr
def Na:∀a,eB  (.name a)=(Nk):=by intros;rfl
def cY(fs:Ni Fr)(tk:Tok)(r:Ni Nu):Nt Step:=
 if aQ fs/\eB tk=Nr/\tk≠.sign [62,62] then Nm
 else if tk=.sign [91]\/tk=.sign [60,60] then(if fs.length=40 then Nm else xV (.more ((tk=.sign [60,60],[])::fs) r))
 else if tk=.sign [93] then(gL fs Nr).map λp=>fJ p.1 r p.2
 else if tk=.sign [62,62] then(gL fs Nk).map λp=>fJ p.1 r p.2
 else(fX tk r).map λp=>fJ p.1 p.2 fs
inductive PL:Ni Fr->Tok->Ni Nu->Nt (V×Ni Nu)->Prop
 |bad {fs tk r} (h:cY fs tk r=Nm):PL fs tk r Nm
 |done {fs tk r v r'} (h:cY fs tk r=xV (.done v r')):PL fs tk r (xV (v,r'))
 |jN {fs tk r fs' r'} (h:cY fs tk r=xV (.more fs' r')) (l:bG r'=Nm):PL fs tk r Nm
 |more {fs tk r fs' r' tk' r'' res} (h:cY fs tk r=xV (.more fs' r')) (l:bG r'=xV (tk',r'')) (p:PL fs' tk' r'' res):PL fs tk r res
inductive RV:Ni Nu->Nt V->Prop
 |jN {t} (l:bG t=Nm):RV t Nm
 |bad {t tk r} (l:bG t=xV (tk,r)) (p:PL [] tk r Nm):RV t Nm
 |rest {t tk r v r'} (l:bG t=xV (tk,r)) (p:PL [] tk r (xV (v,r'))) (h:aE r'≠[]):RV t Nm
 |good {t tk r v r'} (l:bG t=xV (tk,r)) (p:PL [] tk r (xV (v,r'))) (h:aE r'=[]):RV t (xV v)
inductive Atom|null|truth (b:NF)|int (i:N6)|real (t:N6) (p:Nu)|name (s:Ni Nu)|str (b:Ni Nu)|ref (n g:N6)
inductive Fo|nil|atom (a:Atom) (r:Fo)|arr (l r:Fo)|dict (l r:Fo)
noncomputable def Atom.told:Atom->V
 |.null=>.tup [.str [110,117,108,108]]
 |.truth b=>.tup [.str [116,114,117,116,104],.int (if b then 1 else 0)]
 |.int i=>.tup [.str [105,110,116],.int i]
 |.real t p=>.tup [.str [114,101,97,108],.int t,.int p]
 |.name s=>.tup [.str [110,97,109,101],.str s]
 |.str b=>.tup [.str [115,116,114,105,110,103],.bytes b]
 |.ref n g=>.tup [.str [114,101,102],.int n,.int g]
noncomputable def acG(a:V)(f:V->Ni V):Ni V:=match a with
 |.tup l=>(match l with
  |[]=>[]
  | _::m=>(match m with
   |[]=>[]
   |k::n=>(match n with|[]=>f k| _::_=>[])))
 | _=>[]
noncomputable def AK:Ni V->Ni V
 |[]=>[]
 |a::b=>match b with
  |[]=>[]
  |x::r=>acG a λk=>.tup [k,x]::AK r
noncomputable def tv:Fo->Ni V
 |.nil=>[]
 |.atom a r=>a.told::tv r
 |.arr l r=>.tup (.str [97,114,114,97,121]::tv l)::tv r
 |.dict l r=>.tup (.str [100,105,99,116]::AK (tv l))::tv r
def Gz:tv  (.nil)=([]):=by intros;rfl
def GA:∀a r,tv  (.atom a r)=(a.told::tv r):=by intros;rfl
def GB:∀l r,tv  (.arr l r)=(.tup (.str [97,114,114,97,121]::tv l)::tv r):=by intros;rfl
def GC:∀l r,tv  (.dict l r)=(.tup (.str [100,105,99,116]::AK (tv l))::tv r):=by intros;rfl
def el(k:Ni Nu)(v:V):Ni V:=if aJ v then[cV k,v] else[]
noncomputable def qo(k:Ni Nu):Nt V->Ni V
 |some v=>el k v
 |none=>[]
def aX(ks:Ni (Ni Nu))(us:Ni V)(K:Ni (Ni Nu)):Ni V:=K.flatMap λk=>qo k (b7 k ks us)
def HI(ks:Ni (Ni Nu))(us:Ni V):Ni V:=aX ks us (bK ks)
def Ta:Atom->V->Prop
 |.null,v=>v=.none
 |.truth b,v=>v=.bool b
 |.int i,v=>v=.int i
 |.real t p,v=>v=pC t p
 |.name s,v=>v=cV s
 |.str b,v=>∃h,v=Gj b h
 |.ref n g,v=>v=k7 n g
noncomputable def Tl:Fo->Ni V->Prop
 |.nil,vs=>vs=[]
 |.atom a r,vs=>∃v us,vs=v::us/\Ta a v/\Tl r us
 |.arr l r,vs=>∃ws us,vs=.lst ws::us/\ws.length<=1000/\Tl l ws/\Tl r us
 |.dict l r,vs=>∃ks ws us,vs=.ec ks ws::us/\ks.Nodup/\ks.length=ws.length/\ks.length<64/\Tl l (HI ks ws)/\Tl r us
noncomputable def eL(k:Nu):Nu:=if k<10 then 48+k else 55+k
def aS(c:Nu):Ni Nu:=[eL (c / 16),eL (c % 16)]
def bg(c:Nu):Ni Nu:=if c<33\/126<c\/c=35\/aI c=Nr then 35::aS c else[c]
def eh(s:Ni Nu):Ni Nu:=47::s.flatMap bg
noncomputable def bI:Ni Nu->Nu->Ni Nu->Ni Nu->Ni Nu×Ni Nu
 |[],_,st,ln=>(st,ln)
 |c::r,k,st,ln=>if c=40 then bI r (k+1) (st++[k]) ln else if c=41 then(if st=[] then bI r (k+1) st (ln++[k]) else bI r (k+1) st.dropLast ln) else bI r (k+1) st ln
def acA:∀a st b,bI  ([]) (a) (st) (b)=((st,b)):=by intros;rfl
def fq:∀c r k st a,bI  (c::r) (k) (st) (a)=(if c=40 then bI r (k+1) (st++[k]) a else if c=41 then(if st=[] then bI r (k+1) st (a++[k]) else bI r (k+1) st.dropLast a) else bI r (k+1) st a):=by intros;rfl
def fk(b:Ni Nu):Ni Nu:=(bI b 0 [] []).2++(bI b 0 [] []).1
noncomputable def fj(L:Ni Nu):Nu->Ni Nu->Ni Nu
 | _,[]=>[]
 |k,c::r=>(if c=13 then[92,114] else if c=92\/k∈L then[92,c] else[c])++fj L (k+1) r
def ab0(L):∀a,fj L (a) ([])=([]):=by intros;rfl
def gm(L):∀k c r,fj L (k) (c::r)=((if c=13 then[92,114] else if c=92\/k∈L then[92,c] else[c])++fj L (k+1) r):=by intros;rfl
def yN(b:Ni Nu):Ni Nu:=40::(fj (fk b) 0 b++[41])
def yx(b:Ni Nu):Ni Nu:=60::(b.flatMap aS++[62])
def fv(b:Ni Nu):Ni Nu:=if(yN b).length<=(yx b).length then yN b else yx b
noncomputable def gu(t:N6):Ni Nu:=if t<0 then[45] else[]
def cB(t:N6)(p:Nu):Ni Nu:=
 if p=0 then au t++[46] else
  let m:=Pc (p+1 - (aA t.natAbs).length) 48++aA t.natAbs
  gu t++((if 10 ^ p<=t.natAbs\/t=0 then m.take (m.length - p) else[])++46::m.drop (m.length - p))
def Atom.parts:Atom->Ni (Ni Nu)
 |.null=>[[110,117,108,108]]
 |.truth b=>[if b then[116,114,117,101] else[102,97,108,115,101]]
 |.int i=>[au i]
 |.real t p=>[cB t p]
 |.name s=>[eh s]
 |.str b=>[fv b]
 |.ref n g=>[au n,au g,[82]]
noncomputable def cq:Fo->Ni (Ni Nu)
 |.nil=>[]
 |.atom a r=>a.parts++cq r
 |.arr l r=>[91]::(cq l++[93]::cq r)
 |.dict l r=>[60,60]::(cq l++[62,62]::cq r)
def jU:cq  (.nil)=([]):=by intros;rfl
def fY:∀a r,cq  (.atom a r)=(a.parts++cq r):=by intros;rfl
def g6:∀l r,cq  (.arr l r)=([91]::(cq l++[93]::cq r)):=by intros;rfl
def g7:∀l r,cq  (.dict l r)=([60,60]::(cq l++[62,62]::cq r)):=by intros;rfl
def sP(p:Ni Nu):NF:=match p with|c::_=>aI c|[]=>Nr
def eP(p:Ni Nu):NF:=(match p.getLast? with|some c=>aI c|none=>Nr)||p==[47]
noncomputable def jn(e:NF):Ni (Ni Nu)->Ni Nu
 |[]=>[]
 |p::ps=>(if e&&sP p then[32] else[])++p++jn (eP p) ps
def afu(e):jn e ([])=([]):=by intros;rfl
def abr(e):∀p ps,jn e (p::ps)=((if e&&sP p then[32] else[])++p++jn (eP p) ps):=by intros;rfl
noncomputable def dp:Fo->Nu
 |.nil=>0
 |.atom _ r=>dp r
 |.arr l r=>max (dp l+1) (dp r)
 |.dict l r=>max (dp l+1) (dp r)
def iA:dp  (.nil)=(0):=by intros;rfl
def gf:∀a r,dp  (.atom a r)=(dp r):=by intros;rfl
def gh:∀l r,dp  (.arr l r)=(max (dp l+1) (dp r)):=by intros;rfl
def gi:∀l r,dp  (.dict l r)=(max (dp l+1) (dp r)):=by intros;rfl
end
set_option genInjectivity true
def Fb:∀n c r,(nx n c r).2 <:+ r:=by
 intro b;induction b with
 |zero=>intro c r;induction r<;>exact Qv _
 |succ n a=>
  intro c d;induction d using Nw with
  |nil=>exact Qv _
  |cons x r=>
   rw[nY];split
   ·exact(a _ r).trans (P6 _ _)
   ·exact Qv _
def kj(r):(eH r).2 <:+ r:=by
 induction r using Nw with
 |nil=>exact Qv _
 |cons c r=>
  rw[eH];split
  ·exact P6 _ _
  ·split
   ·exact(Fb _ _ r).trans (P6 _ _)
   ·exact P6 _ _
def EU:∀m r t p,r.length<m->cw r t=xV p->p.2 <:+ r:=by
 intro d;induction d with
 |zero=>intro _ _ _ h _;exact L43 h
 |succ m a=>
  intro e;induction e with
  |nil=>intro t p _ h;rw[cw] at h;contradiction
  |cons c r=>
   intro t p hm h;rw[cw] at h;simp only[Nn] at hm;refine(NG (c=92)).elim (λg=>?_) (λg=>?_)
   ·rw[Np g,N2] at h
    refine ah h ?_;clear h;intro q h b;subst b;haveI:=pE r;exact((a _ _ _ (L44 hm this) h).trans (kj r)).trans (P6 _ _)
   ·replace h:=(Nl g)▸h
    refine(NG (c=41/\t=1)).elim (λf=>?_) (λf=>?_)
    ·replace h:=(Np f)▸h;injection h with h;subst h;exact P6 _ _
    ·rw[Nl f,N2] at h
     refine ah h ?_;clear h;intro q h b;subst b;exact(a _ _ _ (L45 hm) h).trans (P6 _ _)
def Eb:∀r d p,iD r d=xV p->p.2 <:+ r:=by
 intro b;induction b with
 |nil=>intro _ _ h;contradiction
 |cons c r a=>
  intro d p h;rw[kp] at h;split at h
  ·injection h with h;subst h;exact P6 _ _
  ·split at h
   ·exact(a _ p h).trans (P6 _ _)
   ·split at h
    ·exact(a _ p h).trans (P6 _ _)
    ·contradiction
def aV(r):aE r <:+ r:=VC _
def cG(r):a8 r <:+ r:=VC _
def mU(r):a6 r++a8 r=r:=Sy
def Mp(b:nq c=Nr)(h:¬ (c=47\/c=40\/c=60\/c=62\/c=41\/c=91\/c=93\/c=123\/c=125))(a:c≠37):aI c=Nk:=by
 haveI e:aI c=(!nq c&&!jl.contains c):=rfl;rw[e];rw[b];have:jl.contains c=Nr:=by
  rw[Pu];intro q;haveI key:∀x∈jl,x=37\/(x=47\/x=40\/x=60\/x=62\/x=41\/x=91\/x=93\/x=123\/x=125):=by decide
  exact(key c (contains_iff_mem.mp q)).elim a h
 rw[this];rfl
def AQ(i:nq c=Nr)(b:¬ c=47)(h:¬ c=40)(g:¬ c=60)(f:¬ c=62)(d:¬ c=41)(e:¬ (c=91\/c=93\/c=123\/c=125))(a:c≠37):aI c=Nk:=
 Mp i (λq=>q.elim b λq=>q.elim h λq=>q.elim g λq=>q.elim f λq=>q.elim d e) a
def jX(h:aE r=c::r'):nq c=Nr:=by
 haveI:∀l:Ni Nu,l.dropWhile nq=c::r'->nq c=Nr:=by
  intro l;induction l with
  |nil=>intro h;contradiction
  |cons x l a=>
   intro h;replace h:=(Ur)▸h;split at h
   ·exact a h
   ·next b=>injection h with h;clear a;subst h;simpa using b
 exact this r h
def wj(l:∀c r1,r=c::r1->nq c=Nr)(m:∀c∈r,c≠37)(h:l0 r=xV (tk,r')):r' <:+ r/\(tk≠.fin->r'.length<r.length):=by
 cases r with
 |nil=>cases h;exact⟨Qv _,λq=>NK rfl q⟩
 |cons c r=>
  haveI go:r' <:+ r->r' <:+ c::r/\(tk≠.fin->r'.length<(c::r).length):=λs=>⟨s.trans (P6 _ _),λ_=>by haveI:=s.length_le;(exact Pd ‹_›)⟩;rw[l0] at h;refine(NG (c=47)).elim (λd=>?_) (λd=>?_)
  ·rw[Np d,N2] at h
   refine ah h ?_;clear h;intro s _ e;injection e with e a;subst e a;exact go (cG r)
  replace h:=(Nl d)▸h;refine(NG (c=40)).elim (λj=>?_) (λj=>?_)
  ·rw[Np j,N2] at h
   refine ah h ?_;clear h;intro p k e;injection e with e a;subst e a;exact go (EU _ r 1 p (Oe _) k)
  replace h:=(Nl j)▸h;refine(NG (c=60)).elim (λi=>?_) (λi=>?_)
  ·replace h:=(Np i)▸h
   split at h
   ·cases h;exact go (drop_suffix _ _)
   ·rw[N2] at h
    refine ah h ?_;clear h;intro p k e;injection e with e a;subst e a;exact go (Eb r _ p k)
  replace h:=(Nl i)▸h;refine(NG (c=62)).elim (λg=>?_) (λg=>?_)
  ·replace h:=(Np g)▸h
   split at h
   ·cases h;exact go (drop_suffix _ _)
   ·exact(by contradiction)
  replace h:=(Nl g)▸h;refine(NG (c=41)).elim (λb=>?_) (λb=>?_)
  ·replace h:=(Np b)▸h;contradiction
  replace h:=(Nl b)▸h;refine(NG (c=91\/c=93\/c=123\/c=125)).elim (λf=>?_) (λf=>?_)
  ·replace h:=(Np f)▸h;cases h;exact go (Qv _)
  replace h:=(Nl f)▸h;cases h;haveI hr:=AQ (l c r rfl) d j i g b f (m c (by(exact Ny)));haveI e:a8 (c::r)=a8 r:=by unfold a8;rw[RB hr];rfl
  exact go (by refine(e)▸?_;exact cG r)
def bl(b:∀c∈r,c≠37)(h:bG r=xV (tk,r')):r' <:+ r/\(tk≠.fin->r'.length<r.length):=by haveI f:=(wj (λc r1 e=>jX e) (λc a=>b c ((aV r).subset a)) h).1;have d:=(wj (λc r1 e=>jX e) (λc a=>b c ((aV r).subset a)) h).2;haveI:=(aV r).length_le;exact⟨f.trans (aV r),λq=>by haveI:=d q;(exact NY ‹_› ‹_›)⟩
def FT(h:nz r=xV (g,r')):r' <:+ r:=(FQ h).2.2▸(((cG _).trans (aV _)).trans (cG _)).trans (aV _)
def Kr(h:xV (a,r)=xV (b,r')):r=r':=by injection h with h;injection h
def uH(h:xV (a,r)=xV (b,r')):r' <:+ r:=Kr h▸Qv _
def jT(h:fX tk r=xV (v,r')):r' <:+ r/\tk≠.fin:=by
 refine⟨?_,λe=>by subst e;contradiction⟩;induction tk with
 |int i=>
  refine jq (h:(if 0<=i then _ else _)=_) (λ_ h=>?_) λ_ h=>uH h;induction q:nz r with
  |none=>rw[q] at h;exact uH h
  |some p=>rw[q] at h;exact Kr h▸FT q
 |real t p=>exact uH h
 |name s=>exact uH h
 |str b=>exact uH h
 |hex b=>exact uH h
 |word b=>refine jq h (λ_ h=>uH h) λ_ h=>?_;refine jq h (λ_ h=>uH h) λ_ h=>?_;exact jq h (λ_ h=>uH h) λ_ h=>by contradiction
 | _=>contradiction
inductive Kd:Ni V->Prop
 |nil:Kd []
 |cons (s:Ni Nu) (v:V) {r:Ni V} (h:Kd r):Kd (cV s::v::r)
def Kd.eI(h:Kd l):l.length % 2=0:=by
 induction h with
 |nil=>rfl
 |cons s v h a=>simp only[Nn];exact L3 a
def Kd.snoc(h:Kd l)(s)(v):Kd (l++[cV s,v]):=by
 induction h with
 |nil=>exact .cons s v .nil
 |cons s' v' h b=>exact .cons s' v' b
def Kx(f:Fr):Prop:=f.1=Nk->Kd f.2\/∃l s,Kd l/\f.2=l++[cV s]
def JN:Ni Fr->Prop
 |[]=>Sl
 |f::fs=>Kx f/\∀g∈fs,Kx g/\aQ [g]=Nr
noncomputable def rV(fs:Ni Fr):Nu:=(fs.map λf=>1+f.2.length).sum
def ml:aQ (f::fs)=aQ [f]:=by obtain⟨d,l⟩:=f;induction d<;>rfl
def Kx.kd(h:Kx (Nk,l))(e:eI l=Nk):Kd l:=by
 rcases h rfl with h|⟨p,s,a,rfl⟩
 ·exact h
 ·haveI:=a.eI
  unfold eI at e;simp only[Nv,Nn,NL,Ob] at e;exact L42 this e
def Kx.push(h:Kx (d,l))(b:aQ [(d,l)]=Nk->∃s,v=cV s):Kx (d,l++[v]):=by
 intro hd;simp only at hd;subst hd;rcases h rfl with h|⟨p,s,c,e⟩
 ·refine X1 (b (by refine(?_:(l.length % 2==0)=Nk);rw[h.eI];rfl)) ?_;intro s a;clear b;subst a
  exact .inr ⟨l,s,h,rfl⟩
 ·simp only at e
  rw[e];exact .inl (by haveI:=c.snoc s v;simpa using this)
def jW(h:fJ v r fs=.more fs' r'):∃d l gs,fs=(d,l)::gs/\fs'=(d,l++[v])::gs/\r'=r:=by
 induction fs using Nw with
 |nil=>contradiction
 |cons f gs=>obtain⟨d,l⟩:=f;simp only[fJ,Step.more.injEq] at h;exact⟨d,l,gs,rfl,h.1.symm,h.2.symm⟩
def jV(h:fJ v r fs=.done v' r'):fs=[]/\v'=v/\r'=r:=by
 induction fs using Nw with
 |nil=>simp only[fJ,Step.done.injEq] at h;exact⟨rfl,h.1.symm,h.2.symm⟩
 |cons f gs=>have d:=(f).1;have l:=(f).2;contradiction
inductive Bf(fs:Ni Fr)(tk:Tok)(r:Ni Nu):Nt Step->Prop
 |key (h1:aQ fs=Nk) (h2:eB tk=Nr) (h3:tk≠.sign [62,62]):Bf fs tk r Nm
 |deep (d:NF) (ht:tk=.sign (if d then[60,60] else[91])) (hw:aQ fs=Nr) (h:fs.length=40):Bf fs tk r Nm
 |opens (d:NF) (ht:tk=.sign (if d then[60,60] else[91])) (hw:aQ fs=Nr) (h:fs.length≠40):Bf fs tk r (xV (.more ((d,[])::fs) r))
 |close (d:NF) (ht:tk=.sign (if d then[62,62] else[93])) (hw:d=Nr->aQ fs=Nr):Bf fs tk r ((gL fs d).map λp=>fJ p.1 r p.2)
 |plain (ht:∀b,tk=.sign b->b≠[91]/\b≠[93]/\b≠[60,60]/\b≠[62,62]) (hw:aQ fs=Nk->eB tk=Nk):Bf fs tk r ((fX tk r).map λp=>fJ p.1 p.2 fs)
def ja(fs)(tk)(r):Bf fs tk r (cY fs tk r):=by
 unfold cY;by_cases a:aQ fs=Nk/\eB tk=Nr/\tk≠.sign [62,62]
 ·rw[Np a];exact .key a.1 a.2.1 a.2.2
 rw[Nl a];by_cases c:tk=.sign [91]\/tk=.sign [60,60]
 ·rw[Np c]
  haveI g:aQ fs=Nr:=by
   rw[Pu];intro q;apply a;refine⟨q,?_,?_⟩
   ·rcases c with e|e<;>rw[e]<;>rfl
   ·rcases c with e|e<;>rw[e]<;>decide
  refine ND (c) (λe=>?_) (λe=>?_)
  ·have i:decide (tk=.sign [60,60])=Nr:=by rw[e];decide
   rw[i];split
   ·next h=>exact .deep Nr e g h
   ·next h=>exact .opens Nr e g h
  ·have i:decide (tk=.sign [60,60])=Nk:=by rw[e];decide
   rw[i];split
   ·next h=>exact .deep Nk e g h
   ·next h=>exact .opens Nk e g h
 rw[Nl c];by_cases d:tk=.sign [93]
 ·rw[Np d]
  refine .close Nr d λ_=>?_;rw[Pu];intro q;exact a ⟨q,by rw[d];rfl,by rw[d];decide⟩
 rw[Nl d];by_cases f:tk=.sign [62,62]
 ·rw[Np f]
  exact .close Nk f λe=>by injection e
 rw[Nl f];refine .plain (λb e=>⟨?_,?_,?_,?_⟩) λq=>?_
 ·rintro rfl;exact c (.inl e)
 ·rintro rfl;exact d e
 ·rintro rfl;exact c (.inr e)
 ·rintro rfl;exact f e
 ·induction j:eB tk with
  |true=>rfl
  |false=>exact NK ⟨q,j,f⟩ a
set_option tactic.hygienic true in
def ix(h:gL fs d=xV (v,fs')):∃l,fs=(d,l)::fs'/\v=(if d then hU l else .lst l)/\(d=Nk->eI l=Nk):=by
 unfold gL at h;split at h
 ·next k l a=>
  split at h
  ·next e=>
   subst e;split at h
   ·next e=>
    subst e;split at h
    ·next e=>cases h;exact⟨l,rfl,rfl,λ_=>e⟩
    ·cases h
   ·next e=>
    cases h;have:k=Nr:=by induction k;rfl;exact NK rfl e
    rw[this];exact⟨l,rfl,rfl,λh=>by cases h⟩
  ·cases h
 ·cases h
def wQ(h:fX tk r=xV (v,r'))(a:eB tk=Nk):∃s,v=cV s:=by
 induction tk with
 |name s=>exact⟨s,NN Prod.fst (N1 h).symm⟩
 | _=>injection a
def n9(g:JN fs)(h:cY fs tk r=xV (.more fs' r')):JN fs'/\rV fs'<=rV fs+1/\r' <:+ r/\tk≠.fin:=by
 haveI k:=ja fs tk r;replace k:=(h)▸k;generalize a:xV (Step.more fs' r')=s at k;induction k with
 |key _ _ _=>contradiction
 |deep _ _ _ _=>contradiction
 |opens d t n A=>
  cases a;refine⟨⟨λ_=>.inl .nil,?_⟩,by simp[rV];exact L46,Qv _,by rw[t];simp⟩;intro w i;clear A h;induction fs using Nw with
  |nil=>contradiction
  |cons f fs=>
   rcases NH.mp i with e|e
   ·exact e▸⟨g.1,by refine bB (NU (ml (fs:=fs))) ?_;exact n⟩
   ·exact g.2 w e
 |close d t n=>symm at a;rw[N2] at a;refine ah a ?_;clear a;intro b c p;obtain⟨v,D⟩:=b;refine a9 (ix c) λl x _ _=>?_;clear h n c;subst x;refine jc (jW p) λy u gs j m o=>?_;simp only at j m o;clear p;subst j m o;have B:=(g.2 (y,u) (by(exact .head _))).1;have z:=(g.2 (y,u) (by(exact .head _))).2;refine⟨⟨B.push (λq=>by rw[q] at z;injection z),λw i=>g.2 w (by(exact NB _ ‹_›))⟩,by simp[rV];exact L47,Qv _,by rw[t];simp⟩
 |plain t n=>symm at a;rw[N2] at a;refine ah a ?_;clear a;intro b c p;obtain⟨v,r1⟩:=b;refine jc (jW p) λy u gs j m o=>?_;simp only at j m o;clear p;subst j m o;haveI C:=(jT c).1;have s2:=(jT c).2;exact⟨⟨g.1.push λq=>wQ c (n (by rw[ml];exact q)),g.2⟩,by simp[rV];exact L48,C,s2⟩
def af(h:Q H):less Q H:=⟨H,λ_ _ e=>e,h⟩
def aj(H:ae)(a)(o):(H.set a o) a=xV o:=Np rfl
def aP{H:ae}(h:b≠a):(H.set a o) b=H b:=Nl h
def ax(H:ae)(a)(o c):(H.set a o).set a c=H.set a c:=by funext b;unfold ae.set;split<;>rfl
def ey{H:ae}(h:H a=xV o):H.set a o=H:=by
 funext b;unfold ae.set;split
 ·next e=>rw[e];rw[h];rfl
 ·rfl
section
variable {C:rZ}{ρ:Env}{H:ae}{Q:av}{Qs:Ni V->ae->Prop}{Qt:NF->ae->Prop}{X:Prop}{v:V}{g j i:Nu}{k:N6}{es:cS}{e a b it:aF}{t:dk}{ts:iq}{f:jx}{op:M5}{co o2:CY}{cl:eX}{bf:tb}{bm:ip}{ks:Ni (Ni Nu)}{s s2:aq}{is:Ni Nu}{N K:dw}{R:av}{w w2:WS}{we we2:WE}{wt:WT}{o o0 o1 o2' o3 o4 o5 o6 o7 o8 o9 o10 o11:Nt V}
variable {x:NF}{l:Ni Nu}{B:Env->ae->dw->Prop}{W:dw}
def K2(h:pA vs=xV (ks,us))(q:Q (.ec ks us) H):HZ Q vs H:=by unfold HZ;rw[h];exact q
def aa{o}{v:α}{k:α->Prop}(h:o=xV v)(q:k v):eY o k:=by rw[h];exact q
def cD{p A B:Prop}[Pw p](h:p)(q:A):if decide p=Nk then A else B:=by rw[Np (NP h)];exact q
def bp{p A B:Prop}[Pw p](h:¬ p)(q:B):if decide p=Nk then A else B:=by refine(Nl (by simp[h])).mpr ?_;exact q
def ak(h:∀a,(∀{ρ H},eW C s2 ρ H N R K X->a ρ H)->eW C s ρ H a R K X):eW C (.seq s s2) ρ H N R K X:=h _ (λq=>q)
end
section
variable {n f:Nu}{vs:Ni V}{H:ae}{Q:av}{X:Prop}{d:aD}{ρ:Env}
def ag(c:gO f=xV d)(a:j6 d vs=xV ρ)(hd:d.body=b)(h:eW (call n) b ρ H (EN Q) (gk Q) noK X):call (n+1) f vs H Q X:=by rw[fb];refine(?_:eY (gO f) _);rw[c];refine(?_:eY (j6 d vs) _);rw[a];rw[hd];rewrite [<- fb];exact h
end
def fx{A B:Prop}(h:b=Nk)(q:A):if b=Nk then A else B:=(Np h).mpr q
def fQ{A B:Prop}(h:b=Nr)(q:B):if b=Nk then A else B:=(Nl (by rw[h];decide)).mpr q
def zP{p A B:Prop}[Pw p](h:p)(q:B):if(!decide p)=Nk then A else B:=fQ (by rw[NP h];rfl) q
def JS{p A B:Prop}[Pw p](h:¬ p)(q:A):if(!decide p)=Nk then A else B:=fx (by rw[N5 h];rfl) q
def kZ{Q:av}(e:b=b')(q:Q (.bool b') H):Q (.bool b) H:=by rw[e];exact q
def eM(h:∀T B a,(∀{ρ H k},rY C cnd ρ H k X->T ρ H k)->(∀{ρ H k},eW C b ρ H k R k X->B ρ H k)->(∀{ρ H},N ρ H->a ρ H)->∃m,gz T B m ρ H a):eW C (.loop cnd b) ρ H N R K X:=h _ _ _ (λq=>q) (λq=>q) (λq=>q)
def c0(he:∀K,K v H->cL C e ρ H K X)(hi:d9 v=xV xs)(h:∀a c,(∀{ρ H k},eW C b ρ H k R k X->a ρ H k)->(∀{ρ H},N ρ H->c ρ H)->bc is a xs ρ H c):eW C (.each is e b) ρ H N R K X:=he _ (aa hi (h _ _ (λq=>q) (λq=>q)))
def cW(h:H a=xV (.inst .cursor fs)):IK (.ref a) H=xV .cursor:=NN Fn h
noncomputable abbrev oY(d:Ni Nu)(k:N6):dQ:=.inst .cursor [(.data,.bytes d),(.at,.int k),(.stop,.int d.length)]
abbrev cO(d:Ni Nu)(k:Nu):dQ:=oY d k
def bY(d:Ni Nu)(k:Nu)(r:Ni Nu):Prop:=k<=d.length/\d.drop k=r
def bY.uniq(h:bY d k r)(c:bY d j r):k=j:=by haveI b:=NN OZ h.2;haveI a:=NN OZ c.2;haveI:=h.1;haveI:=c.1;simp only[Ol] at b a;exact zE [_,_,_,_,_,_] [] [R3 V3 V4,R2 V5 V4,R2 (zp V3 V0) V2,R0 V2 (zp V5 V1),R2 V3 V4,R3 V5 V4,R0 V2 (zp V3 V0),R2 (zp V5 V1) V2] V0 V1 [1,1,1,1,1,0,0,0,0] [1,0,0,0,0,1,1,1,1] rfl rfl b a (NT ((by assumption))) (mV _ _) b a (mV _ _) (NT (this))
def bY.nil(h:bY d k []):k=d.length:=by haveI:=NN OZ h.2;simp only[Ol,NL] at this;haveI:=h.1;exact zE [_,_,_] [] [R0 V0 V1,R2 V2 K0,R0 V1 (zp V2 V0)] V0 V1 [1,1,0,0] [1,0,1,1] rfl rfl this (by assumption) (mV _ _)
def bY.lt(h:bY d k (c::r)):k<d.length:=by haveI:=NN OZ h.2;simp only[Ol,Nn] at this;exact Nu.lt_of_sub_eq_succ this
def bY.get(h:bY d k (c::r)):d[k]?=xV c:=by refine bB (NU (QP)) ?_;rw[h.2];rfl
def bY.next(h:bY d k (c::r)):bY d (k+1) r:=by refine⟨h.lt,?_⟩;refine bB (NU Q0) ?_;rw[h.2];rfl
def Bs{k n:Nu}(d)(hk:k<=n)(a:n<=1000):dM (.int k) d n=xV k:=
 (Np (NP (Nx (Nj hk a) (by decide)))).trans (NN xV (Qh hk))
def aaT{p n:Nu}(d)(b:0<p)(hk:p<=n)(a:n<=1000):dM (.int (-(p:N6))) d n=xV (n - p):=by
 induction p with
 |zero=>exact NK b (P4 0)
 |succ q=>exact(Np (NP (Nx (Nj hk a) (by decide)))).trans (NN (λi:N6=>xV i.toNat) (subNatNat_of_le hk))
def yK(h:n<=1000):n<=lim:=Nj h (by unfold lim;decide)
def JB(d:dM lo 0 b.length=xV l)(a:dM hi b.length b.length=xV h)(c:b.length<=1000):jY (.bytes b) lo hi=xV (.bytes (dS b l h)):=(E8 d a).trans (Np (yK c))
def MT(d:dM lo 0 b.length=xV l)(a:dM hi b.length b.length=xV h)(c:b.length<=1000):jY (.str b) lo hi=xV (.str (dS b l h)):=(E8 d a).trans (Np (yK c))
def acF(d:dM lo 0 b.length=xV l)(a:dM hi b.length b.length=xV h)(c:b.length<=1000):jY (.lst b) lo hi=xV (.lst (dS b l h)):=(E8 d a).trans (Np (yK c))
def nL(b:Ni α)(k):dS b k b.length=b.drop k:=NN (WL k) take_length
def sX{k j:Nu}(hd:d.length<=1000)(hk:k<=j)(a:j<=d.length):jY (.bytes d) (.int k) (.int j)=xV (.bytes ((d.drop k).take (j - k))):=
 (JB (Bs _ (Nj hk a) hd) (Bs _ a hd) hd).trans (NN (λl=>xV (V.bytes l)) drop_take)
section
variable {n a k c:Nu}{d r:Ni Nu}{H:ae}{Q:av}{X:Prop}
def aU(h:d[k]?=xV c)(H):gQ (.bytes d) (.int k) H=xV (.int c):=by
 haveI hk:=(Ou.mp h).1;refine(?_:(if ik k d.length then _ else _)=_);haveI:ik (k:N6) d.length=Nk:=by unfold ik;simp;exact hk
 rw[Np this];haveI:ft (k:N6) d.length=k:=by unfold ft;(rfl)
 rw[this];rw[h];rfl
def dz(b:H a=xV (oY d k)):pJ (.ref a) .at H=xV (.int k):=by refine(?_:sA (H a) _=_);rw[b];rfl
def j8(b:H a=xV (oY d k)):pJ (.ref a) .data H=xV (.bytes d):=by refine(?_:sA (H a) _=_);rw[b];rfl
def iT(b:H a=xV (oY d k)):pJ (.ref a) .stop H=xV (.int d.length):=by refine(?_:sA (H a) _=_);rw[b];rfl
def vg(b:H a=xV (oY d k)):gr (.ref a) .at (.int i) H=xV (H.set a (oY d i)):=by refine(?_:AV (H a) _ _ _ _=_);rw[b];rfl
noncomputable def hd(r:Ni Nu):N6:=match r with|c::_=>c|[]=>-1
def G5:pJ (.ref a) .at (H.set a (oY d k))=xV (.int k):=dz (aj ..)
def cDs:pJ (.ref a) .data (H.set a (oY d k))=xV (.bytes d):=j8 (aj ..)
def cEs:pJ (.ref a) .stop (H.set a (oY d k))=xV (.int d.length):=iT (aj ..)
def cSs:gr (.ref a) .at (.int i) (H.set a (oY d k))=xV (H.set a (oY d i)):=by rw[vg (aj ..)];rw[ax];rfl
def bY.ltI(h:bY d k (c::r)):(k:N6)<d.length:=OT.mpr h.lt
def bY.E6(h:bY d k []):¬ (k:N6)<d.length:=by rw[h.nil];exact UT _
def i6(f:H a=xV (cO d k))(e:bY d k r)(q:Q (.int (hd r)) H):call (n+1) 4 [.ref a] H Q X:=by
 refine ag (ρ:=[xV (.ref a),xV (.int 0),Nm]) rfl rfl rfl (aa (dz f) ?_);refine aa (iT f) ?_;induction r using Nw with
 |nil=>exact bp e.E6 (af q)
 |cons c r=>refine cD e.ltI (aa (j8 f) ?_);exact aa (aU e.get H) (af q)
def gS(f:H a=xV (cO d k))(e:bY d k r)(q:Q (.bool r.isEmpty) H):call (n+1) 3 [.ref a] H Q X:=by
 refine ag (ρ:=[xV (.ref a)]) rfl rfl rfl (aa (dz f) ?_);refine aa (iT f) ?_;induction r using Nw with
 |nil=>exact af (kZ (NP (Ss.mp e.E6)) q)
 |cons c r=>exact af (kZ (N5 (Tn.mpr e.ltI)) q)
def fN(e:H a=xV (cO d k))(f:bY d k (c::r))(q:Q (.int c) (H.set a (cO d (k+1)))):call (n+1) 5 [.ref a] H Q X:=by refine ag (ρ:=[xV (.ref a),Nm]) rfl rfl rfl (aa (dz e) ?_);refine aa (iT e) (bp (Tn.mpr f.ltI) ?_);refine aa (j8 e) (aa (dz e) ?_);refine aa (aU f.get H) (aa (dz e) ?_);exact aa (vg e) (af q)
def CP(hd:d.length<=1000)(c:H a=xV (cO d k))(f:bY d k r)(q:Q (.bool (w.isPrefixOf r)) H):call (n+1) 6 [.ref a,.bytes w] H Q X:=by
 refine ag (ρ:=[xV (.ref a),xV (.bytes w)]) rfl rfl rfl (aa (dz c) ?_);refine aa (iT c) ?_;haveI hr:r.length=d.length - k:=by refine bB (NU f.2) ?_;rw[Ol];rfl
 haveI:=f.1;refine(NG (k+w.length<=d.length)).elim (λh=>?_) (λh=>?_)
 ·haveI e:=sX hd (NV _ _) h
  refine cD (Pk.mpr h) (aa (j8 c) ?_);refine aa (dz c) (aa (dz c) ?_);refine aa e ?_;refine af (kZ ?_ q);rw[f.2];rw[QJ];rw[Pz];rw[isPrefixOf_iff_prefix];rw[prefix_iff_eq_take];rw[Ob];exact Sr
 ·refine bp (λz=>h (Pk.mp z)) ?_
  refine af (kZ (N5 (λz=>h (Pk.mp z))|>.trans ?_) q);refine(Pu.mpr λg=>?_).symm;haveI:=(Ni.isPrefixOf_iff_prefix.mp g).length_le;exact zF [_,_,_,_,_] [] [R2 V0 V1,R1 (zp V2 V4) V3,R0 V4 V0,R2 (zp V1 V2) V3] [1,1,1,1] rfl hr h this (NT ((by assumption)))
def AY{w}(hd:d.length<=1000)(c:H a=xV (cO d k))(e:bY d k r)(q:Q (.bool (w.isPrefixOf r)) (if w.isPrefixOf r then H.set a (cO d (k+w.length)) else H)):call (n+2) 7 [.ref a,.bytes w] H Q X:=by
 refine ag (ρ:=[xV (.ref a),xV (.bytes w)]) rfl rfl rfl ?_;refine ak λW f=>aa (cW c) ?_;refine CP hd c e ?_;induction h:w.isPrefixOf r with
 |true=>rw[h] at q;refine f (aa (dz c) ?_);exact aa (vg c) (af q)
 |false=>rw[h] at q;exact af q
def kK(c:Nu):∀l:Ni Nu,p9 (.int c) (l.map λ(x:Nu)=>V.int x)=xV (l.contains c):=by
 intro b;induction b with
 |nil=>exact rfl
 |cons x xs a=>
  haveI e:((x:N6)==(c:N6))=(c==x):=by rw[Pz];simp only[Ob];exact aap
  refine(?_:orB (xV ((x:N6)==(c:N6))) (p9 (.int c) (xs.map λ(x:Nu)=>V.int x))=_);rw[e];rw[a];rw[QA];rfl
def vS(c:Nu)(H):jg .ud (.int c) (.tup [.int 0,.int 9,.int 10,.int 12,.int 13,.int 32]) H=xV (nq c):=kK c xk
def Ci(c:Nu)(H):jg .C4 (.int c) (.tup [.int 0,.int 9,.int 10,.int 12,.int 13,.int 32]) H=xV (!nq c):=by refine(?_:Nt.map _ (p9 (.int c) (xk.map λ(x:Nu)=>V.int x))=_);rw[kK];rfl
def Cg(c:Nu)(H):jg .C4 (.int c) (.tup [.int 40,.int 41,.int 60,.int 62,.int 91,.int 93,.int 123,.int 125,.int 47,.int 37]) H=xV (!jl.contains c):=by refine(?_:Nt.map _ (p9 (.int c) (jl.map λ(x:Nu)=>V.int x))=_);rw[kK];rfl
def vX(q:Q (.bool (nq c)) H):call (n+1) 0 [.int c] H Q X:=
 ag (ρ:=[xV (.int c)]) rfl rfl rfl (af (kZ (N1 (vS c H)) q))
def d8(q:Q (.bool (aI c)) H):call (n+1) 1 [.int c] H Q X:=by
 refine ag (ρ:=[xV (.int c)]) rfl rfl rfl ?_;haveI e:aI c=(!nq c&&!jl.contains c):=rfl;rw[e] at q;haveI e:=N1 (Ci c H);induction h:nq c with
 |true=>rw[h] at q e;exact fQ e (af (kZ e q))
 |false=>rw[h] at q e;exact fx e (af (kZ (N1 (Cg c H)) q))
def eb{k':Nu}(m:∀c∈r,c≠37)(i:H a=xV (cO d k))(g:bY d k r)(f:bY d k' (aE r))(q:Q .none (H.set a (cO d k'))):call (n+1) 8 [.ref a] H Q X:=by
 refine ag (ρ:=[xV (.ref a),Nm]) rfl rfl rfl (eM λT B N j t s=>⟨r.length+1,?_⟩);refine bB (NU (ey i)) ?_;clear i;generalize(Nm:Nt V)=o;induction r generalizing k o with
 |nil=>refine j (aa G5 ?_);refine aa cEs ?_;refine bp g.E6 (s (af ?_));rw[g.nil];exact bB (NU f.nil) q
 |cons c r u=>
  refine j (aa G5 ?_);refine aa cEs ?_;refine cD g.ltI (t ?_);refine aa cDs (aa G5 ?_);refine aa (aU g.get _) (bp (λe=>m c (Ny ..) (Pg.mp e)) ?_);haveI l:=λH=>N1 (vS c H);induction h:nq c with
  |false=>
   have e:aE (c::r)=c::r:=by unfold aE;rw[TY (by rw[h];decide)];rfl
   rw[e] at f;rw[f.uniq g] at q;exact fQ ((l H).trans h) (af q)
  |true=>
   have e:aE (c::r)=aE r:=by unfold aE;rw[RB h];rfl
   rw[e] at f;refine fx ((l H).trans h) (aa G5 ?_);exact aa cSs (u (λx p=>m x (NB _ p)) g.next f (xV (.int c)))
def c8(hd:d.length<=1000)(m:H a=xV (cO d k))(g:bY d k r)(f:bY d k' (a8 r))(q:Q (.bytes (a6 r)) (H.set a (cO d k'))):call (n+2) 9 [.ref a] H Q X:=by
 refine ag (ρ:=[xV (.ref a),Nm]) rfl rfl rfl ?_;haveI s:r=a6 r++a8 r:=by rw[a6];rw[a8];rw[Sy];rfl
 haveI hk:k'=k+(a6 r).length:=by haveI l:=NN OZ g.2;haveI p:=NN OZ f.2;haveI j:=NN OZ s;haveI:=g.1;haveI:=f.1;simp only[Ol,Nv] at l p j;exact zE [_,_,_,_,_,_,_,_] [] [R2 V4 V5,R3 V6 V7,R2 V5 (zp V2 V7),R0 V3 (zp V4 V1),R2 (zp V6 V0) V3,R3 V4 V5,R2 V6 V7,R3 V5 (zp V2 V7),R2 (zp V4 V1) V3,R0 V3 (zp V6 V0)] V0 (zp V1 V2) [1,1,1,1,1,1,0,0,0,0,0] [1,0,0,0,0,0,1,1,1,1,1] rfl rfl l p j (mV _ _) (NT (this)) l p j (NT ((by assumption))) (mV _ _)
 haveI u:(d.drop k).take (k' - k)=a6 r:=by rw[g.2];rw[hk];rw[QJ];exact(NN _ s).trans take_left
 refine aa (dz m) ?_;refine ak λN h=>eM λT B w t x i=>⟨r.length+1,?_⟩;replace h:w [xV (.ref a),xV (.int k)] (H.set a (cO d k')):=by refine i (h ?_);refine aa cDs (aa G5 ?_);exact aa (sX hd (hk▸NV _ _) f.1) (af (by rw[u];exact q))
 refine bB (NU (ey m)) ?_;clear m hk u q s i;generalize(xV (V.int k))=o at h ⊢;induction r generalizing k with
 |nil=>refine t (aa G5 ?_);refine aa cEs (bp g.E6 ?_);rw[g.nil];exact bB (NU f.nil) h
 |cons c r y=>
  refine t (aa G5 ?_);refine aa cEs (cD g.ltI ?_);refine aa cDs (aa G5 ?_);refine aa (aU g.get _) (d8 ?_);induction v:aI c with
  |false=>
   haveI e:a8 (c::r)=c::r:=by unfold a8;rw[TY (by rw[v];decide)];rfl
   replace f:=(e)▸f;replace h:=(f.uniq g)▸h;exact h
  |true=>
   haveI e:a8 (c::r)=a8 r:=by unfold a8;rw[Ni.dropWhile_cons_of_pos v];rfl
   replace f:=(e)▸f;refine x (aa G5 ?_);exact aa cSs (y g.next f)
def z7{r}(c:H a=xV (cO d k))(e:bY d k (10::r))(q:Q (.bool Nk) (H.set a (cO d (k+1)))):call (n+2) 10 [.ref a] H Q X:=by refine ag (ρ:=[xV (.ref a)]) rfl rfl rfl (aa (cW c) ?_);refine i6 c e (aa (cW c) ?_);refine i6 c e (aa (dz c) ?_);exact aa (vg c) (af q)
def DJ(f:hd r≠13)(e:hd r≠10)(c:H a=xV (cO d k))(g:bY d k r)(q:Q (.bool Nr) H):call (n+2) 10 [.ref a] H Q X:=by refine ag (ρ:=[xV (.ref a)]) rfl rfl rfl (aa (cW c) ?_);refine i6 c g (bp f ?_);exact aa (cW c) (i6 c g (bp e (af q)))
def bD{c}(h:H a=xV (.inst c fs))(b:(aG c).contains f=Nk)(v):gr (.ref a) f v H=xV (H.set a (.inst c (eT f v fs))):=by refine(?_:AV (H a) _ _ _ _=_);rw[h];exact Np b
def sC{c}(h:H a=xV (.inst c fs))(b:(aG c).contains f=Nk):pJ (.ref a) f H=ji f fs:=by refine(?_:sA (H a) _=_);rw[h];exact Np b
def ia{c:eX}(b:(aG c).contains f=Nk)(v):gr (.ref a) f v (H.set a (.inst c fs))=xV (H.set a (.inst c (eT f v fs))):=by rw[bD (aj ..) b];rw[ax];rfl
def oZ{e:N6}(c:H a=xV (.inst .cursor []))(he:e=-1\/e=d.length)(q:Q .none (H.set a (cO d k))):call (n+1) 2 [.ref a,.bytes d,.int k,.int e] H Q X:=by
 refine ag (ρ:=[xV (.ref a),xV (.bytes d),xV (.int k),xV (.int e)]) rfl rfl rfl (aa (bD c rfl _) ?_);refine aa (ia rfl _) ?_;rcases he with rfl|rfl
 ·exact aa (ia rfl _) (af q)
 ·refine aa (ia rfl _) (af ?_)
  rw[Nl (UT _)];exact q
def gX(c:H a=xV (.inst .name []))(q:Q .none (H.set a (.inst .name [(.text,.str s)]))):call (n+1) 16 [.ref a,.str s] H Q X:=
 ag (ρ:=[xV (.ref a),xV (.str s)]) rfl rfl rfl (aa (bD c rfl _) (af q))
def iL(c:H a=xV (.inst .string []))(q:Q .none (H.set a (.inst .string [(.octets,.bytes b),(.isHex,.bool h)]))):call (n+1) 17 [.ref a,.bytes b,.bool h] H Q X:=
 ag (ρ:=[xV (.ref a),xV (.bytes b),xV (.bool h)]) rfl rfl rfl (aa (bD c rfl _) (aa (ia rfl _) (af q)))
def nE(c:H a=xV (.inst .string []))(q:Q .none (H.set a (.inst .string [(.octets,.bytes b),(.isHex,.bool Nr)]))):call (n+1) 17 [.ref a,.bytes b] H Q X:=
 ag (ρ:=[xV (.ref a),xV (.bytes b),xV (.bool Nr)]) rfl rfl rfl (aa (bD c rfl _) (aa (ia rfl _) (af q)))
def dF(c:H a=xV (.inst .reference []))(q:Q .none (H.set a (.inst .reference [(.number,.int i),(.generation,.int j)]))):call (n+1) 18 [.ref a,.int i,.int j] H Q X:=
 ag (ρ:=[xV (.ref a),xV (.int i),xV (.int j)]) rfl rfl rfl (aa (bD c rfl _) (aa (ia rfl _) (af q)))
def rn(c:H a=xV (.inst .bench []))(q:Q .none (H.set a (.inst .bench [(.data,u),(.base,v),(.shelf,w)]))):call (n+1) 41 [.ref a,u,v,w] H Q X:=
 ag (ρ:=[xV (.ref a),xV u,xV v,xV w]) rfl rfl rfl (aa (bD c rfl _) (aa (ia rfl _) (aa (ia rfl _) (af q))))
def rS{u v}(c:aJ u=Nk)(e:aJ v=Nk)(d:H a=xV (.inst .shelf []))(q:Q .none (H.set a (.inst .shelf [(.table,u),(.trailer,v)]))):call (n+1) 24 [.ref a,u,v] H Q X:=by refine ag (ρ:=[xV (.ref a),xV u,xV v]) rfl rfl rfl (fQ (NN (!·) c) ?_);refine aa (bD d rfl _) (fQ (NN (!·) e) ?_);exact aa (ia rfl _) (af q)
def rH(i:H a=xV (.inst .frame []))(q:∀b,H b=Nm->Q .none ((H.set b (.list [])).set a (.inst .frame [(.mark,u),(.items,.ref b)]))):call (n+1) 58 [.ref a,u] H Q X:=by
 refine ag (ρ:=[xV (.ref a),xV u]) rfl rfl rfl (aa (bD i rfl _) ?_);intro b h;have d:b≠a:=λe=>by clear i;subst e;rw[aj] at h;contradiction
 rw[aP d] at h;haveI g:((H.set a (.inst .frame (eT .mark u []))).set b (.list [])) a=xV (.inst .frame (eT .mark u [])):=by rw[aP (OG d)];rw[aj];rfl
 refine aa (bD g rfl _) (af ?_);haveI e:((H.set a (.inst .frame (eT .mark u []))).set b (.list [])).set a (.inst .frame (eT .items (.ref b) (eT .mark u [])))=(H.set b (.list [])).set a (.inst .frame [(.mark,u),(.items,.ref b)]):=by
  funext x;unfold ae.set;by_cases c:x=a
  ·rw[Np c];rw[Np c];rfl
  ·rw[Nl c];rw[Nl c]
   by_cases g:x=b
   ·rw[Np g];rw[Nl c];rfl
   ·rw[Nl g];rw[Nl c];rfl
 rw[e];exact q b h
end
def Af(m k:Nu):Ww (m:N6) (k:N6)=((m % k:Nu):N6):=by rw[Rv _ (C8)];rfl
def abe(m k:Nu):Xz (m:N6) (k:N6)=((m / k:Nu):N6):=by rw[Rw _ (C8)];rfl
noncomputable def bL(l:Ni Nu):Ni V:=l.map λ(c:Nu)=>V.int (c:N6)
def ee(l m):bL (l++m)=bL l++bL m:=map_append
def aY(l):(bL l).length=l.length:=NR _
def ace:∀{l},(∀c∈l,c<256)->dD (bL l)=xV l:=by
 intro b;induction b with
 |nil=>intro _;exact rfl
 |cons c l a=>intro h;haveI f:=h c (Ny);haveI d:=a λx g=>h x (NB _ g);haveI e:bL (c::l)=V.int (c:N6)::bL l:=rfl;refine(?_:(if 0<=(c:N6)/\(c:N6)<256 then(dD (bL l)).map _ else Nm)=_);rw[d];rw[Np ⟨P9 c,OT.mpr f⟩];rw[Wu];rw[Q6];rfl
def qF{H:ae}(h:a≠b):(H.set a x).set b y=(H.set b y).set a x:=by
 funext z;unfold ae.set;by_cases d:z=b
 ·rw[Np d];rw[Nl (((Oq h).elim (λc=>zN [_,_,_] [] [R3 V0 V2,R0 (S1 V1) V2] (R2 V0 V1) [1,1,1] rfl d c) λc=>zN [_,_,_] [] [R2 V0 V2,R0 (S1 V2) V1] (R3 V0 V1) [1,1,1] rfl d c))];rw[Np d];rfl
 ·rw[Nl d];rw[Nl d];rfl
def dh(h:H a=Nm):ae.le H (H.set a o):=λb x e=>by
 haveI:b≠a:=λq=>by rw[q,h] at e;contradiction
 rw[aP this];exact e
def w9(h:ae.le H H'):ae.le (H.set a o) (H'.set a o):=λb x e=>by
 by_cases q:b=a
 ·subst q;rw[aj] at e ⊢;exact e
 ·rw[aP q] at e ⊢;exact h b x e
def cc{H:ae}(d:H a=xV o)(c:H b=Nm):b≠a:=λe=>by rw[e,d] at c;contradiction
def Al{H:ae}(h:H p=xV (.list l)):hL (H p) k=k l:=by rw[h];rfl
def sL{p:Nu}(h:H p=xV (.list l))(c:l.length<lim):js .append (.ref p) H=Nk/\(∀v,cT .append (.ref p) [v] H=xV (.none,H.set p (.list (l++[v])))) /\
  js .extend (.ref p) H=Nk/\(∀l',l.length+l'.length<lim->cT .extend (.ref p) [.lst l'] H=xV (.none,H.set p (.list (l++l'))))/\cp .len [.ref p] H=xV (.int l.length):=by
 haveI b:yF (H p)=Nk:=by rw[h];rfl
 refine⟨b,λv=>(Al h).trans (Np c),b,λl' a=>(Al h).trans (Np a),?_⟩;haveI e:bj (.ref p) H=xV l:=Al h;refine(?_:(bj (.ref p) H).map _=_);rw[e];rfl
def gI{p:Nu}(h:H p=xV (.list (bL l)))(a:l.length<=lim)(b:∀c∈l,c<256):cp .bytes [.ref p] H=xV (.bytes l):=by refine(?_:(match bj (.ref p) H with|some l=>_|none=>_)=_);rw[show bj (.ref p) H=xV (bL l) from Al h];refine(?_:(if(bL l).length<=lim then _ else _)=_);rw[Np (by rw[aY];exact a)];rw[ace b];rfl
def sg(a:l.length<=lim)(b:∀c∈l,c<256):cp .bytes [.lst (bL l)] H=xV (.bytes l):=by refine(?_:(if(bL l).length<=lim then _ else _)=_);rw[Np (by rw[aY];exact a)];rw[ace b];rfl
def aaY(lo hi c:Nu):(if decide ((lo:N6)<=c)=Nk then decide ((c:N6)<=hi) else Nr)=decide (lo<=c/\c<=hi):=by
 by_cases h:lo<=c
 ·rw[Np (NP (Pk.mpr h))]
  exact Vx.mpr ⟨λz=>⟨h,Pk.mp z⟩,λz=>Pk.mpr z.2⟩
 ·rw[Nl (by rw[N8];exact λz=>h (Pk.mp z))];rw[N5 λz=>h z.1];rfl
def ccK{lo hi c:Nu}(q:Q (decide (lo<=c/\c<=hi)) H):HY .le .le (.int lo) (cL C (.lit (.int hi)) ρ) Q X (.int c) H:=by
 rw[<- aaY] at q;refine(?_:(if decide ((lo:N6)<=c)=Nk then Q (decide ((c:N6)<=hi)) H else Q Nr H));split at q<;>rename_i h
 ·rw[Np h];exact q
 ·rw[Nl h];exact q
def ccT{C:rZ}{ρ:Env}{H:ae}{lo hi c i:Nu}{Q:NF->ae->Prop}{X:Prop}(h:ρ[i]?=xV (xV (.int c)))(q:Q (decide (lo<=c/\c<=hi)) H):rY C (.ig .le .le (.lit (.int lo)) (.loc i) (.lit (.int hi))) ρ H Q X:=by refine(?_:(match ρ[i]? with|some (xV v)=>HY .le .le (.int lo) (cL C (.lit (.int hi)) ρ) Q X v H| _=>OH));rw[h];exact ccK q
def dJ{c k:Nu}{A B:Prop}(b:c=k->A)(a:¬ c=k->B):if decide ((c:N6)=(k:N6))=Nk then A else B:=by
 by_cases h:c=k
 ·exact cD (NN _ h) (b h)
 ·exact bp (λe=>h (Pg.mp e)) (a h)
section
variable {n a k k' c:Nu}{d r:Ni Nu}{H:ae}{Q:av}{X:Prop}
def gP(q:Q (.int (bT c)) H):call (n+1) 47 [.int c] H Q X:=by
 refine ag (ρ:=[xV (.int c)]) rfl rfl rfl ?_;unfold bT at q;refine ak λN d=>ccT rfl ?_;by_cases a:48<=c/\c<=57
 ·rw[Np a] at q;exact cD a (af q)
 rw[Nl a] at q;refine bp a (d (ak λN d=>ccT rfl ?_));by_cases a:65<=c/\c<=70
 ·rw[Np a] at q;exact cD a (af q)
 rw[Nl a] at q;refine bp a (d (ak λN d=>ccT rfl ?_));by_cases a:97<=c/\c<=102
 ·rw[Np a] at q;exact cD a (af q)
 rw[Nl a] at q;exact bp a (d (af q))
def ny(q:Q (.int (kW c)) H):call (n+1) 48 [.int c] H Q X:=by refine ag (ρ:=[xV (.int c)]) rfl rfl rfl ?_;refine dJ (λh=>by subst h;exact af q) λg=>?_;refine dJ (λh=>by subst h;exact af q) λf=>?_;refine dJ (λh=>by subst h;exact af q) λa=>?_;refine dJ (λh=>by subst h;exact af q) λd=>?_;refine dJ (λh=>by subst h;exact af q) λe=>?_;rw[kW,Nl g,Nl f,Nl a,Nl d,Nl e] at q;exact af q
def Fc(o:48<=c)(u:H a=xV (cO d k))(f:bY d k r)(e:bY d k' (nx 2 (c - 48) r).2)(q:Q (.int (nx 2 (c - 48) r).1) (H.set a (cO d k'))):call (n+2) 50 [.ref a,.int c] H Q X:=by
 refine ag (ρ:=[xV (.ref a),xV (.int c),Nm,Nm]) rfl rfl rfl ?_;refine(?_:eW (call (n+1)) _ [xV (.ref a),xV (.int c),xV (.int ((c:N6) - 48)),xV (.int (1:Nu))] H _ _ _ _);rw[show(c:N6) - 48=((c - 48:Nu):N6) from(ofNat_sub o).symm];refine ak λN h=>eM λT B p s w m=>⟨3,?_⟩;have h:∀{v t k':Nu},Q (.int ((v % 256:Nu):N6)) (H.set a (cO d k'))->p [xV (.ref a),xV (.int c),xV (.int v),xV (.int t)] (H.set a (cO d k')):=λ{v _ _} q=>m (h (af (by rw[<- Af v 256] at q;exact q)));haveI key:∀(j t v:Nu)(r:Ni Nu)(k:Nu),t+j=3->bY d k r->bY d k' (nx j v r).2->Q (.int (nx j v r).1) (H.set a (cO d k'))->gz T B (j+1) [xV (.ref a),xV (.int c),xV (.int v),xV (.int t)] (H.set a (cO d k)) p:=by
  intro j;induction j with
  |zero=>intro t v r k l f e q;obtain rfl:k'=k:=bY.uniq (by induction r<;>exact e) f;exact s (bp (by refine bB (NU l) ?_;exact UT _:¬ (t:N6)<(3:Nu)) (h (by clear e f;induction r<;>exact q)))
  |succ j i=>
   intro t v r k l f e q;refine s (cD (OT.mpr (cj [R2 (zp V0 (S1 V1)) (zc 3)] (S1 V0) (zc 3) rfl l):(t:N6)<(3:Nu)) ?_);refine aa (cW (aj ..)) (i6 (aj ..) f ?_);cases r with
   |nil=>obtain rfl:k'=k:=bY.uniq e f;exact h q
   |cons x r=>
    refine ccK ?_;rw[nY] at e q;by_cases g:48<=x/\x<=55
    ·rw[Np g] at e q
     refine cD g (w ?_);refine aa (cW (aj ..)) (fN (aj ..) f ?_);rw[ax];haveI i:=i (t+1) _ r (k+1) (by rw[Ph];exact l) f.next e q;replace i:=(by exact zJ [_,_,_] [] [R2 (zp V1 (zc 48)) V2,R0 V2 (zp V1 (zc 48))] (zu (zp (zm 8 V0) V1)) (zs (zp (zm 8 (zu V0)) (zu V2)) (zc 48)) [1,1,0] [1,0,1] rfl rfl (NT (g.1)) (mV _ _):((8 * v+(x - 48):Nu):N6)=8 * (v:N6)+x - 48)▸i;exact i
    ·rw[Nl g] at e q
     obtain rfl:k'=k:=bY.uniq e f;exact bp g (h q)
 exact bB (NU (ey u)) (key 2 1 _ r k rfl f e q)
def ym(m:hd r≠13)(h:H a=xV (cO d k))(g:bY d k r)(f:bY d k' (eH r).2)(q:Q (.lst (bL (eH r).1)) (H.set a (cO d k'))):call (n+3) 51 [.ref a] H Q X:=by
 refine ag (ρ:=[xV (.ref a),Nm]) rfl rfl rfl (ak λN j=>?_);refine aa (cW h) (gS h g ?_);cases r with
 |nil=>obtain rfl:k'=k:=bY.uniq f g;rw[ey h] at q;exact af q
 |cons c r=>
  refine j (ak λN j=>aa (cW h) ?_);rw[eH] at f q;by_cases i:c=10
  ·subst i
   refine z7 h g ?_;obtain rfl:k'=k+1:=bY.uniq f g.next;exact af q
  ·rw[Nl i] at f q
   refine DJ m (λe=>i (Pg.mp e)) h g (j (ak λN j=>aa (cW h) ?_));refine fN h g (j (ak λN j=>ccT rfl ?_));by_cases l:48<=c/\c<=55
   ·rw[Np l] at f q
    refine cD l (Fc l.1 (aj ..) g.next f ?_);rw[ax];exact af q
   ·rw[Nl l] at f q
    obtain rfl:k'=k+1:=bY.uniq f g.next;exact bp l (j (ny (af q)))
end
def fA(x:Nt (Ni Nu×Ni Nu))(X:Prop)(K:Ni Nu->Ni Nu->Prop):Prop:=match x with|none=>X|some p=>K p.1 p.2
def iQ{f:Ni Nu->Ni Nu}:fA (x.map λp=>(f p.1,p.2)) X K↔fA x X λc r=>K (f c) r:=by induction x<;>exact Iff.rfl
def ot(h:fA x X K)(m:∀c r,K c r->K' c r):fA x X K':=by
 induction x with
 |none=>exact h
 |some p=>exact m _ _ h
def fe{T}(t)(f):∀xs Q,
  (∀x∈xs,∀k,k (t x) H->T x H k)->(∀x∈xs,∀k,k (f x) H->B x H k)->Q ((xs.filter t).map f) H->fc T B xs H Q:=by
 intro c;induction c with
 |nil=>intro Q _ _ q;exact q
 |cons x xs a=>
  intro Q d e q;refine d x (Ny ..) _ ?_;induction h:t x with
  |true=>rw[PE h,N3] at q;exact fx rfl (e x (Ny ..) _ (a _ (λy b=>d y (NB _ b)) (λy b=>e y (NB _ b)) q))
  |false=>rw[PN (by rw[h];decide)] at q;exact fQ rfl (a _ (λy b=>d y (NB _ b)) (λy b=>e y (NB _ b)) q)
def uC(st)(b:0<st):∀(m j lo:Nu),j<=m->f5 m (lo:N6) ((lo+j * st:Nu):N6) (st:N6)=(Pr j).map λi=>V.int ((lo+i * st:Nu):N6):=by
 intro c;induction c with
 |zero=>
  intro j lo h;haveI:j=0:=by exact TX h
  rw[this];rfl
 |succ m a=>
  intro d;induction d with
  |zero=>intro lo h;rw[i8];rw[Nl (by simp)];rfl
  |succ j=>
   intro lo h;haveI g:0<(j+1) * st:=Nu.mul_pos (aaj) b;rw[i8];rw[Np (by lia)];haveI e:((lo:N6)+(st:N6))=((lo+st:Nu):N6):=by exact rfl
   haveI f:lo+(j+1) * st=(lo+st)+j * st:=by rw[XA];exact aeb
   rw[e];rw[f];rw[a j (lo+st) (Qa h)];rw[TG];rw[N3];rw[Oo]
   congr 1
   ·simp
   ·apply QE
    intro i _;simp only[Q5];haveI:(i+1) * st=st+i * st:=by rw[XA];exact aaz
    rw[this];rw[Qx];rfl
def gj{p i:Nu}(h:H p=xV (.list l))(hi:l[i]?=xV v):gQ (.ref p) (.int i) H=xV v:=by haveI hk:=(Ou.mp hi).1;refine(?_:Ee (H p) _=_);rw[h];refine(?_:uZ _ _=_);unfold uZ ik ft;rw[Np (by simp;exact hk)];rw[Np (C8)];rw[Q6];rw[hi];rfl
def zT{i x:Nu}(h:l[i]?=xV x):(bL l)[i]?=xV (.int x):=by rw[OB];rw[h];rfl
def iW{H:ae}(h:H a=Nm):(H.set a o).erase a=H:=by
 funext b;unfold ae.erase ae.set;by_cases e:b=a
 ·rw[Np e];rw[e];rw[h];rfl
 ·rw[Nl e];rw[Nl e];rfl
def LO{H:ae}(b:H a=Nm)(d:bq c=Nk)(e:fs.map (·.1)=aG c)(q:Q (.obj c (fs.map (·.2))) H):sI a c Q .none (H.set a (.inst c fs)):=by unfold sI;rw[aj];rw[iW b];exact⟨rfl,rfl,by refine(Np d).mpr ?_;exact⟨e,q⟩⟩
def yQ{H:ae}(b:bq c=Nr)(q:Q (.ref a) (H.set a (.inst c fs))):sI a c Q .none (H.set a (.inst c fs)):=by unfold sI;rw[aj];exact⟨rfl,rfl,by refine(Nl (by rw[b];decide)).mpr ?_;exact q⟩
def dT(d:H a=Nm)(b:bq c=Nk)(e:fs.map (·.1)=aG c)(q:Q (.obj c (fs.map (·.2))) H):sI a c Q .none ((H.set a o).set a (.inst c fs)):=by rw[ax];exact LO d b e q
def ub(c):bT c<16:=by
 unfold bT;split
 ·lia
 ·split
  ·lia
  ·split<;>lia
section
variable {n a k k' c:Nu}{d r:Ni Nu}{H:ae}{Q:av}{X:Prop}
def IC:∀n c r,(nx n c r).1<256:=by
 intro b;induction b with
 |zero=>intro c r;induction r<;>exact RM _ (by decide)
 |succ n a=>
  intro c d;induction d with
  |nil=>exact RM _ (by decide)
  |cons x r=>
   rw[nY];split
   ·exact a _ r
   ·exact RM _ (by decide)
def HD(r)(h:∀c∈r,c<256):∀c∈(eH r).1,c<256:=by
 induction r with
 |nil=>intro c a;cases a
 |cons x r=>
  rw[eH];split
  ·intro c a;cases a
  ·split
   ·intro c a
    rw[mem_singleton.mp a];exact IC _ _ _
   ·intro c a
    rw[mem_singleton.mp a];haveI:=h x (Ny);unfold kW;split
    ·exact O7 _ _
    ·split
     ·exact O7 _ _
     ·split
      ·exact O7 _ _
      ·split
       ·exact O7 _ _
       ·split<;>lia
def DO(r):(eH r).1.length<=1:=by
 induction r with
 |nil=>exact OL _
 |cons x r=>
  rw[eH];split
  ·exact OL _
  ·split<;>exact NA _
def bY.of(h:bY d k r)(hr:r' <:+ r):∃k',bY d k' r':=by refine X1 hr ?_;clear hr;intro u b;subst b;haveI c:=NN OZ h.2;haveI:=h.1;simp only[Ol,Nv] at c;refine⟨k+u.length,by exact jj [_,_,_,_,_] [R3 V3 (zp V1 V4),R2 (zp V3 V0) V2] (zp V0 V1) V2 rfl c (NT (this)),?_⟩;refine bB (NU Q0) ?_;rw[h.2];rw[drop_left];rfl
structure aeh(d:Ni Nu)(H:ae)(a p:Nu)(G:Ni Nu->Nu->ae):Prop where
 ga:∀{l k},G l k a=xV (cO d k)
 gp:∀{l k},G l k p=xV (.list (bL l))
 sa:∀l k j,(G l k).set a (cO d j)=G l j
 ap:∀{l k}{c:Nu},l.length<lim->cT .append (.ref p) [.int c] (G l k)=xV (.none,G (l++[c]) k)
 ex:∀{l k l'},l.length+l'.length<lim->cT .extend (.ref p) [.lst (bL l')] (G l k)=xV (.none,G (l++l') k)
 mA:∀{l k},js .append (.ref p) (G l k)=Nk
 mE:∀{l k},js .extend (.ref p) (G l k)=Nk
 le:∀{l k},ae.le (H.set a (cO d k)) (G l k)
def Kt(e:H a=xV (cO d k))(g:H p=Nm):∃G,aeh d H a p G/\H.set p (.list [])=G [] k:=by
 haveI b:=cc e g;have gp:∀{l k},((H.set p (.list (bL l))).set a (cO d k)) p=xV (.list (bL l)):=λ{_ _}=>by rw[aP b];rw[aj];rfl
 haveI i:∀l l' j,((H.set p (.list (bL l))).set a (cO d j)).set p (.list l')=(H.set p (.list l')).set a (cO d j):=λl l' j=>by rw[qF (OG b)];rw[ax];rfl
 haveI f:∀{l k},yF (((H.set p (.list (bL l))).set a (cO d k)) p)=Nk:=λ{_ _}=>by rw[gp];rfl
 refine⟨λl k=>(H.set p (.list (bL l))).set a (cO d k),⟨aj ..,gp,λ_ _ _=>ax ..,λ{l k c} h=>?_,λ{l k l'} h=>?_,f,f,w9 (dh g)⟩,(ey (by rw[aP (OG b)];exact e)).symm⟩
 ·rw[(sL gp (by rw[aY];exact h)).2.1];rw[i];rw[ee];rfl
 ·rw[(sL gp (by rw[aY];exact Nx (NV _ _) h)).2.2.2.1 _ (by rw[aY];rw[aY];exact h)];rw[i];rw[ee];rfl
def bY.len(h:bY d k r):r.length<=d.length:=by refine bB (NU h.2) ?_;rw[Ol];exact QR _ _
def La(h:∀c∈r,c≠m):hd r≠(m:N6):=by
 induction r with
 |nil=>exact λe=>by haveI:(-1:N6)=(m:N6):=e;exact ad9 this
 |cons c r=>exact λe=>h c (Ny ..) (Pg.mp e)
def LM(q:fA (cw (c::r) t) X K):(c=92->fA (cw (eH r).2 t) X λcs a=>K ((eH r).1++cs) a)/\(c=41->t=1->K [] r) /\
  (c=40->fA (cw r (t+1)) X λcs a=>K (c::cs) a)/\(c=41->t≠1->fA (cw r (t - 1)) X λcs a=>K (c::cs) a)/\(c≠92->c≠40->c≠41->fA (cw r t) X λcs a=>K (c::cs) a):=by
 rw[cw] at q;refine⟨λh=>?_,λh b=>?_,λh=>?_,λh b=>?_,λh e d=>?_⟩
 ·rw[Np h,iQ] at q;exact q
 ·rw[Nl (by rw[h];decide),Np ⟨h,b⟩] at q;exact q
 ·rw[Nl (by rw[h];decide),Nl (by rw[h];exact λz=>NK z.1 (by decide)),iQ,Np h] at q;exact q
 ·rw[Nl (by rw[h];decide),Nl (λz=>b z.2),iQ,Nl (by rw[h];decide),Np h] at q;exact q
 ·rw[Nl h,Nl (λz=>d z.1),iQ,Nl e,Nl d] at q;exact q
def yO(U:∀c∈r,c<256/\c≠13)(I:d.length<=1000)(ha:H a=xV (cO d k))(l:bY d k r)(q:fA (cw r 1) X λcs D=>∀k',bY d k' D->Q (.bytes cs) (H.set a (cO d k'))):call (n+4) 52 [.ref a] H Q X:=by
 refine ag (ρ:=[xV (.ref a),Nm,Nm,Nm,Nm]) rfl rfl rfl (aa (dz ha) ?_);intro p hp;refine ah (Kt ha hp) λG g e0=>?_;rw[e0];generalize(k:N6) - 1=i0;refine(?_:eW (call (n+3)) _ [xV (.ref a),xV (.int i0),xV (.ref p),xV (.int ((0:Nu)+1)),Nm] (G [] k) _ _ _ _);refine ak λN hN=>eM λT B N' hT hB Y=>⟨r.length+1,?_⟩;haveI key:∀m r k acc t o,(∀c∈r,c<256/\c≠13)->r.length<m->bY d k r->acc.length+r.length<=1000->(∀c∈acc,c<256) ->
   fA (cw r (t+1)) X (λcs D=>∀k',bY d k' D->Q (.bytes (acc++cs)) (H.set a (cO d k'))) ->
   gz T B m [xV (.ref a),xV (.int i0),xV (.ref p),xV (.int ((t:N6)+1)),o] (G acc k) N':=by
  intro m;induction m with
  |zero=>intro r k acc t o _ h;exact NK h (O1 _)
  |succ m ih=>
  intro r k acc t o U hm l K Z q;refine hT (aa (cW g.ga) ?_);refine gS g.ga l ?_;cases r with
  |nil=>rw[cw] at q;exact Y (hN q)
  |cons c r=>
   haveI J:=QL hm;have F:acc.length+1+r.length<=1000:=by replace K:=(Nn)▸K;exact cj [R0 (zp V0 (S1 V1)) (zc 1000)] (zp (S1 V0) V1) (zc 1000) rfl K
   have f:acc.length<lim:=by unfold lim;exact aaG K
   haveI u:∀c∈r,c<256/\c≠13:=λx A=>U x (NB _ A);haveI O:=U c (Ny ..);have go:∀P,fA (cw r (P+1)) X (λcs D=>∀k',bY d k' D->Q (.bytes (acc++c::cs)) (H.set a (cO d k')))->∀o,
     gz T B m [xV (.ref a),xV (.int i0),xV (.ref p),xV (.int ((P:N6)+1)),o] (G (acc++[c]) (k+1)) N':=λP q o=>
    ih r (k+1) (acc++[c]) P o u J l.next (by rw[Nv];exact F) (λx A=>(mem_append.mp A).elim (Z x) λh=>by rw[mem_singleton.mp h];exact O.1)
     (ot q λcs D z k' w=>by rw[NM];exact z k' w)
   haveI q:=LM q;refine hB (ak λW j=>aa (cW g.ga) ?_);refine(NG (c=10)).elim (λi=>?_) (λi=>?_)
   ·have E:=l
    replace E:=(i)▸E;haveI go:=go t (q.2.2.2.2 (by rw[i];decide) (by rw[i];decide) (by rw[i];decide)) o;replace go:=(i)▸go;refine z7 g.ga E ?_;rw[g.sa];refine⟨g.mA,?_⟩;exact aa (g.ap f) go
   ·refine DJ (r:=c::r) (λe=>O.2 (Pg.mp e)) (λe=>i (Pg.mp e)) g.ga l (j (ak λW j=>aa (cW g.ga) ?_))
    refine fN g.ga l (j (ak λW j=>?_));rw[g.sa];refine dJ (λC=>?_) λC=>j (ak λW j=>?_)
    ·refine X1 (l.next.of (kj r)) λk2 L=>?_
     refine⟨g.mE,?_⟩;refine ym (La λc hc=>(u c hc).2) g.ga l.next L ?_;rw[g.sa];haveI hex:=DO r;refine aa (g.ex (by unfold lim;exact cR [R0 (zp V0 V2) (zc 1000),R0 V1 K1] (S1 (zp V0 V1)) (zc 16000000) rfl K hex)) ?_;haveI M:=pE r;exact ih (eH r).2 k2 (acc++(eH r).1) t (xV (.int c)) (λx A=>u x ((kj r).subset A)) (Nx M J) L (by rw[Nv];exact gb [R0 (zp (S1 V0) V3) (zc 1000),R0 V1 K1,R0 V2 V3] (zp (zp V0 V1) V2) (zc 1000) rfl F hex M)
      (λx A=>(Of.mp A).elim (Z x) (HD r (λy hy=>(u y hy).1) x))
      (ot (q.1 C) λcs D z k' w=>by rw[NM];exact z k' w)
    ·refine dJ (λv=>j (ak λW j=>?_)) λv=>j (ak λW j=>?_)
     ·refine bp (λe=>NK (v.symm.trans (Pg.mp e)) (by decide)) (j ?_)
      refine⟨g.mA,?_⟩;exact aa (g.ap f) (go (t+1) (q.2.2.1 v) _)
     ·refine dJ (λs=>?_) λs=>j ?_
      ·induction t with
       |zero=>refine aa (gI g.gp (Pf f) Z) ?_;haveI:=q.2.1 s rfl (k+1) l.next;rw[N9] at this;exact⟨_,g.le,this⟩
       |succ t=>
        haveI e:((t+1:Nu):N6)+1 - 1=(t:N6)+1:=by exact aea
        refine bp (ll [] (R6 (zs (S1 (zu (S1 V0))) K1) K0) rfl) (j ?_);rw[e];refine⟨g.mA,?_⟩;exact aa (g.ap f) (go t (q.2.2.2.1 s λz=>Nu.succ_ne_zero _ (Q3 z)) _)
      ·haveI q:=q.2.2.2.2 C v s
       refine⟨g.mA,?_⟩;exact aa (g.ap f) (go t q _)
 exact key _ r k [] 0 Nm U (Oe _) l (by rw[NL];rw[Og];exact Nj l.len I) (λ_ h=>(by contradiction)) q
end
theorem qq:∀j a,a.length=2 * j->(Pr j).map (λi=>(16 * a.getD (2 * i) 0+a.getD (2 * i+1) 0))=a7 a
 | 0,[]=>λ_=>rfl
 | 0,_::_=>λh=>by contradiction
 |j+1,[]=>λh=>by contradiction
 |j+1,[_]=>λh=>by simp at h;exact aed h
 |j+1,x::y::a=>λh=>by rw[TG];rw[N3];rw[Oo];rw[l7];refine bB (NU (qq j a (by simp at h;exact zE [_,_] [] [R2 (S1 (S1 V0)) (zm 2 (S1 V1)),R3 (S1 (S1 V0)) (zm 2 (S1 V1))] V0 (zm 2 V1) [1,1,0] [1,0,1] rfl rfl h h))) ?_;rfl
theorem qr:∀j a,a.length=2 * j+1->a7 (a++[0])=a7 a
 | 0,[x]=>λ_=>rfl
 | 0,[]=>λh=>by contradiction
 | 0,_::_::_=>λh=>by simp at h
 |j+1,[]=>λh=>by contradiction
 |j+1,[_]=>λh=>by simp at h
 |j+1,x::y::a=>λh=>by refine(?_:(16 * x+y)::a7 (a++[0])=_);rw[qr j a (by simp at h;exact Q3 h)];rfl
theorem sS:∀b,(∀c∈b,c<16)->∀c∈a7 b,c<256
 |[]=>λ_ c a=>by cases a
 |[x]=>λh c a=>by have:=h x (mem_singleton_self _);rw[mem_singleton.mp a];exact zL [_] [] [R0 (S1 V0) (zc 16)] (S1 (zm 16 V0)) (zc 256) [1,16] rfl this
 |x::y::b=>λh c a=>by
  haveI g:=h x (Ny);haveI d:=h y ((NB _ Ny));refine ND (NH.mp a) (λe=>?_) (λe=>?_)
  ·exact zL [_,_,_] [] [R0 (S1 V1) (zc 16),R0 (S1 V2) (zc 16),R2 V0 (zp (zm 16 V1) V2)] (S1 V0) (zc 256) [1,16,1,1] rfl g d e
  ·exact sS b (λz f=>h z (by simp[f])) c e
theorem qp:∀a,(a7 a).length<=a.length
 |[]=>NA _
 |[x]=>NA _
 |x::y::a=>by have:=qp a;simp only[l7,Cn,Co,Nn];exact cj [R0 V0 V1] (S1 V0) (S1 (S1 V1)) rfl this
def oP(e:l=bL b)(a:b.length<=lim)(d:∀c∈b,c<256):cp .bytes [.lst l] H=xV (.bytes b):=by rw[e];exact sg a d
def FL(j)(b:j<=1000)(H):cp .range [.int 0,.int ((2 * j:Nu):N6),.int 2] H=xV (.mN 0 ((2 * j:Nu):N6) 2):=by
 show(if _ then _ else _)=_;haveI c:iN 0=Nk:=by decide
 haveI d:iN 2=Nk:=by decide
 haveI a:iN ((2 * j:Nu):N6)=Nk:=NP (Nx (TM 2 b) (by decide));rw[c];rw[a];rw[d];rfl
def acf{α:Type}(h:o=xV v)(q:Q v H):eY o (kQ Q H):=by rw[h];exact q
def Hi{T}(h:d9 v=xV xs)(a:xs.length<=lim)(q:fc T B xs H (Lx Q)):J8 T B Q v H:=aa h ⟨a,q⟩
section
variable {n a k k' c:Nu}{d r:Ni Nu}{H:ae}{Q:av}{X:Prop}
def HS(l:H p=xV (.list (bL hs)))(e:hs.length=2 * j)(b:hs.length<=1001)(g:∀c∈hs,c<16)(q:Q (.bytes (a7 hs)) H):
  cL C (.ao .bytes (.cons (.comp 5 (.ao .range (.cons (.lit (.int 0)) (.cons (.ao .len (.cons (.loc 2) .nil)) (.cons (.lit (.int 2)) .nil)))) .always (.bin .add (.bin .mul (.lit (.int 16)) (.idx (.loc 2) (.loc 5))) (.idx (.loc 2) (.bin .add (.loc 5) (.lit (.int 1)))))) .nil))
   [o0,o1,xV (.ref p),o3,o4,o5] H Q X:=by
 haveI d:=(sL l (by rw[aY];unfold lim;exact Nx b (by decide))).2.2.2.2;rw[aY,e] at d;haveI hi:d9 (.mN 0 ((2 * j:Nu):N6) 2)=xV ((Pr j).map λi=>V.int ((0+i * 2:Nu):N6)):=by refine bB (NU (uC 2 (by decide) (2 * j) j 0 (aec))) ?_;rw[Og];rw[Tr j 2];rfl
 refine aa d (acf (α:=V) (FL j (zL [_,_] [] [R3 V1 (zm 2 V0),R0 V1 (zc 1001)] V0 (zc 1000) [2,1,1] rfl e b) H) ?_);refine Hi hi (by rw[NR];rw[length_range];unfold lim;exact zL [_,_] [] [R3 V1 (zm 2 V0),R0 V1 (zc 1001)] V0 (zc 16000000) [2,1,1] rfl e b) ?_;refine fe (λ_=>Nk) (λx=>match x with|.int i=>.int ((16 * hs.getD i.toNat 0+hs.getD (i.toNat+1) 0:Nu):N6)| _=>.none) _ _ (λx _ k h=>h) (λx m K qK=>?_) ?_
 ·refine ah (mem_map.mp m) λi hi f=>?_;clear m;subst f
  haveI hi:=mem_range.mp hi;haveI o:hs[0+i * 2]?=xV (hs.getD (0+i * 2) 0):=by rw[TZ];rw[OP (zL [_,_,_] [] [R3 V1 (zm 2 V2),R0 (S1 V0) V2] (S1 (zp K0 (zw 2 V0))) V1 [1,1,2] rfl e hi)];rfl
  haveI g2:hs[0+i * 2+ 1]?=xV (hs.getD (0+i * 2+1) 0):=by rw[TZ];rw[OP (zL [_,_,_] [] [R3 V1 (zm 2 V2),R0 (S1 V0) V2] (S1 (S1 (zp K0 (zw 2 V0)))) V1 [1,1,2] rfl e hi)];rfl
  refine aa (gj l (zT o)) (aa (gj l (zT g2)) ?_);exact qK
 ·haveI n:((((Pr j).map λi=>V.int ((0+i * 2:Nu):N6)).filter λ_=>Nk).map (λx=>match x with|.int i=>V.int ((16 * hs.getD i.toNat 0+hs.getD (i.toNat+1) 0:Nu):N6)| _=>.none))=bL (a7 hs):=by rw[QF.mpr (λ_ _=>rfl)];rw[Oo];refine bB (NU (qq j hs e)) ?_;unfold bL;rw[Oo];refine QE λi _=>?_;simp only[Q5,N6.toNat_natCast];rw[Og];rw[Tr i 2];rfl
  exact aa (oP n (Nj (qp hs) (Nj b (by decide))) (sS hs g)) q
def rJ(J:∀c∈r,c<256)(z:d.length<=1000)(Y:H a=xV (cO d k))(s:bY d k r)(q:fA (iD r []) X λcs L=>∀k',bY d k' L->Q (.bytes cs) (H.set a (cO d k'))):call (n+4) 53 [.ref a] H Q X:=by
 refine ag (ρ:=[xV (.ref a),Nm,Nm,Nm,Nm,Nm]) rfl rfl rfl (aa (dz Y) ?_);intro p hp;refine ah (Kt Y hp) λG g e0=>?_;rw[e0];generalize(k:N6) - 1=Z;refine ak λN hN=>eM λT B N' hT hB M=>⟨r.length+1,?_⟩;haveI key:∀m r k acc U I,(∀c∈r,c<256)->r.length<m->bY d k r->acc.length+r.length<=1000->(∀c∈acc,c<16) ->
   fA (iD r acc) X (λcs L=>∀k',bY d k' L->Q (.bytes cs) (H.set a (cO d k'))) ->
   gz T B m [xV (.ref a),xV (.int Z),xV (.ref p),U,I,Nm] (G acc k) N':=by
  intro m;induction m with
  |zero=>intro r k acc U I _ h;exact NK h (O1 _)
  |succ m ih=>
  intro r k acc U I J hm s K F q;refine hT (aa (cW g.ga) ?_);refine gS g.ga s ?_;induction r with
  |nil=>exact M (hN q)
  |cons c r=>
   haveI A:=QL hm;haveI o:acc.length+1+r.length<=1000:=by rw[Nn] at K;exact cj [R0 (zp V0 (S1 V1)) (zc 1000)] (zp (S1 V0) V1) (zc 1000) rfl K
   haveI l:acc.length<lim:=by unfold lim;exact aaG K
   have C:∀c∈r,c<256:=λx i=>J x (NB _ i);rw[kp] at q;refine hB (ak λW E=>aa (cW g.ga) ?_);refine fN g.ga s (E (ak λW E=>?_));rw[g.sa];refine dJ (λu=>?_) λu=>E (ak λW E=>?_)
   ·rw[Np u] at q
    refine ak λW1 O=>?_;refine aa (sL g.gp (by rw[aY];exact l)).2.2.2.2 ?_;rw[aY];haveI fin:∀f j,f.length=2 * j->f.length<=1001->(∀c∈f,c<16)->a7 f=a7 acc->W1 [xV (.ref a),xV (.int Z),xV (.ref p),xV (.int c),I,Nm] (G f (k+1)):=λf j e1 e2 e3 e4=>
     O (HS g.gp e1 e2 e3 ⟨_,g.le,by rw[e4];exact q (k+1) s.next⟩)
    haveI em:Ww (acc.length:N6) 2=((acc.length % 2:Nu):N6):=Af _ 2;by_cases w:acc.length % 2=1
    ·refine cD (em.trans (NN _ w)) ⟨g.mA,?_⟩
     exact aa (g.ap l) (fin (acc++[0]) (acc.length / 2+1) (by rw[Nv];rw[OA];exact zE [_,_,_] [] [R2 V2 K1,R3 (zp (zm 2 V1) V2) V0,R3 V2 K1,R2 (zp (zm 2 V1) V2) V0] (S1 V0) (zm 2 (S1 V1)) [1,1,1,0,0] [1,0,0,1,1] rfl rfl w (OF _ _) w (OF _ _)) (by rw[Nv];rw[OA];exact Nj (Nj (NV _ _) o) (by decide)) (λx i=>(Of.mp i).elim (F x) λh=>by rw[Oc.mp h];decide) (qr (acc.length / 2) acc (zE [_,_,_] [] [R2 V2 K1,R3 (zp (zm 2 V1) V2) V0,R3 V2 K1,R2 (zp (zm 2 V1) V2) V0] V0 (S1 (zm 2 V1)) [1,1,1,0,0] [1,0,0,1,1] rfl rfl w (OF _ _) w (OF _ _))))
    ·exact bp (λe=>w (Pg.mp (em.symm.trans e))) (fin acc (acc.length / 2) (((Oq w).elim (λt=>zE [_,_,_] [] [R0 (S1 V2) K1,R3 (zp (zm 2 V1) V2) V0,R2 (zp (zm 2 V1) V2) V0] V0 (zm 2 V1) [1,1,1,0] [1,0,0,1] rfl rfl t (OF _ _) (OF _ _)) λt=>zE [_,_,_] [] [R0 (S1 K1) V2,R0 (S1 V2) (zc 2),R2 (zp (zm 2 V1) V2) V0] V0 (zm 2 V1) [0,1,1,0] [1,1,0,1] rfl rfl t (Nu.mod_lt _ (QB _)) (OF _ _))) (cj [R0 (zp (S1 V0) V1) (zc 1000)] V0 (zc 1001) rfl o) F rfl)
   ·replace q:=(Nl u)▸q
    refine gP (E ?_);refine(NG (0<=bT c)).elim (λi=>?_) (λi=>?_)
    ·rw[Np i] at q
     refine cD i ⟨g.mA,?_⟩;haveI P:=ub c;have e:=(QD i).symm;have D:(bT c).toNat<16:=by exact zL [_] [_] [R4 (S1 V0) (zc 16),R7 V0 (zu V0)] (S1 V0) (zc 16) [1,1,1] rfl P e
     generalize(bT c).toNat=y at e q D;rw[e];exact aa (g.ap l) (ih r (k+1) (acc++[y]) _ _ C A s.next (by rw[Nv];exact o) (λx i=>(Of.mp i).elim (F x) λh=>by rw[Oc.mp h];exact D) q)
    ·rw[Nl i] at q
     refine bp i (vX ?_);cases hw:nq c with
     |true=>rw[hw,Np rfl] at q;exact ih r (k+1) acc _ _ C A s.next (cj [R0 (zp (S1 V0) V1) (zc 1000)] (zp V0 V1) (zc 1000) rfl o) F q
     |false=>rw[hw,Nl (by decide)] at q;exact aa (v:=false) rfl (aa (dz g.ga) q)
 exact key _ r k [] Nm Nm J (Oe _) s (by rw[NL];rw[Og];exact Nj s.len z) (λ_ h=>(by contradiction)) q
end
noncomputable def uT(l:Ni Nu):Ni V:=l.map λc=>V.str [c]
def Gm:∀l,bX (uT l)=xV (l.map λc=>[c]):=by
 intro b;induction b with
 |nil=>exact rfl
 |cons c l a=>refine(?_:(bX (uT l)).map _=_);rw[a];rfl
theorem wa:∀l,ef [] (l.map λc=>[c])=l
 |[]=>rfl
 |[c]=>rfl
 |c::x::l=>by refine(?_:[c]++[]++ef [] ((x::l).map λc=>[c])=_);rw[wa (x::l)];rfl
def JH:∀l:Ni Nu,dj (l.map λc=>[c])=l.length:=by
 intro b;induction b with
 |nil=>exact rfl
 |cons c l a=>have:=a;unfold dj at this ⊢;simp only[N3,Vk,Nn,NL,this];exact PF _ _
def tG(l):(uT l).length=l.length:=NR _
def lW(h:bj v H=xV (uT l))(a:l.length<=lim):cT .join (.str []) [v] H=xV (.str l,H):=by refine(?_:(bj v H).bind _=_);rw[h];refine(?_:(bX (uT l)).bind _=_);rw[Gm];refine(Np (by rw[NL];rw[Vp];rw[TH];rw[JH];exact a)).trans (by rw[wa];rfl)
def xS{c:Nu}(h:c<256)(H):cp .chr [.int c] H=xV (.str [c]):=by show(if _ then _ else _)=_;rw[Np (⟨zI [_] [] [] K0 (zu V0) [1] rfl,zI [_] [] [R0 (S1 V0) (zc 256)] (S1 (zu V0)) (zc 256) [1,1] rfl h⟩)];rfl
def yL{H:ae}:bj (.ref p) (H.set p (.list l))=xV l:=by exact pY (aj ..)
def KN{H:ae}(a:l.length<lim):cT .append (.ref p) [.str [c]] (H.set p (.list (uT l)))=xV (.none,H.set p (.list (uT (l++[c])))):=by rw[(sL (aj H p _) (by rw[tG];exact a)).2.1];rw[ax];unfold uT;rw[N7];rfl
section
variable {n a k k' c:Nu}{d r:Ni Nu}{H:ae}{Q:av}{X:Prop}
def Ce{o2 d i}(f:bY b (k+1) r)(q:∀(j:Nu) d i,bY b j (aT c r).2->N [xV (.bytes b),xV (.int i0),o2,xV (.int j),xV (.int (aT c r).1),d,i] H):
  eW (call (n+1)) (.ite (.and (.cons (.cmp .eq (.loc 4) (.glob 27)) (.cons (.cmp .lt (.bin .add (.loc 3) (.lit (.int 1))) (.ao .len (.cons (.loc 0) .nil))) .nil))) (.seq (.asg 5 (.call 47 (.cons (.idx (.loc 0) (.loc 3)) .nil)))
   (.seq (.asg 6 (.call 47 (.cons (.idx (.loc 0) (.bin .add (.loc 3) (.lit (.int 1)))) .nil)))
   (.ite (.and (.cons (.cmp .ge (.loc 5) (.lit (.int 0))) (.cons (.cmp .ge (.loc 6) (.lit (.int 0))) .nil))) (.seq (.asg 4 (.bin .add (.bin .mul (.lit (.int 16)) (.loc 5)) (.loc 6)))
   (.asg 3 (.bin .add (.loc 3) (.lit (.int 2))))) .skip))) .skip)
   [xV (.bytes b),xV (.int i0),o2,xV (.int ((k:N6)+1)),xV (.int c),d,i] H N R K X:=by
 haveI no:aT c r=(c,r)->∀d i,N [xV (.bytes b),xV (.int i0),o2,xV (.int ((k:N6)+1)),xV (.int c),d,i] H:=λe d i=>by replace q:=(e)▸q;exact q (k+1) d i f
 haveI a:b.length=k+1+r.length:=by refine bB (NU f.2) ?_;rw[Ol];haveI:=f.1;exact zE [_,_,_] [] [R0 V0 (zp V2 (S1 V1)),R2 (zp V2 (S1 V1)) V0] V0 (zp (S1 V1) V2) [1,1,0] [1,0,1] rfl rfl (mV _ _) (NT (this))
 refine dJ (λg=>?_) λg=>no (jQ g) _ _;induction r using Nw with
 |nil=>exact bp (by rw[a];exact λz=>by simp only[NL] at z;exact aee z) (no rfl _ _)
 |cons h r=>
 induction r using Nw with
 |nil=>exact bp (by rw[a];exact λz=>by dsimp only[Nn,NL] at z;exact aef z) (no rfl _ _)
 |cons l r=>
  refine cD (OT.mpr f.next.lt) (aa (aU f.get H) ?_);refine gP (aa (aU f.next.get H) ?_);refine gP ?_;refine(NG (0<=bT h)).elim (λo=>?_) (λo=>?_)
  ·refine cD o ?_
   refine(NG (0<=bT l)).elim (λm=>?_) (λm=>?_)
   ·refine cD m ?_
    haveI e:aT c (h::l::r)=((16 * bT h+bT l).toNat,r):=Np ⟨g,o,m⟩;haveI q:=q (k+3) (xV (.int (bT h))) (xV (.int (bT l)));replace q:=(e)▸q;haveI q:=q f.next.next;replace q:=(by exact zJ [_] [_,_] [R6 (zu V0) (zp (zm 16 V0) V1),R4 (zp (zm 16 V0) V1) (zu V0)] (zu V0) (zp (zm 16 V0) V1) [1,1,0] [1,0,1] rfl rfl (QD (zI [] [_,_] [R4 K0 V0,R4 K0 V1] K0 (zp (zm 16 V0) V1) [1,16,1] rfl o m)) (QQ _):(((16 * bT h+bT l).toNat:Nu):N6)=16 * bT h+bT l)▸q;exact q
   ·exact bp m (no (Nl λz=>m z.2.2) _ _)
  ·exact bp o (no (Nl λz=>o z.2.1) _ _)
def wx(a:c<256)(hr:∀x∈r,x<256):(aT c r).1<256/\∀x∈(aT c r).2,x<256:=gU (M:=λp=>p.1<256/\∀x∈p.2,x<256) ⟨a,hr⟩ λh l d e _ _ _=>⟨Pd (OU.mpr (zI [] [_,_] [R4 (S1 V0) (zc 16),R4 (S1 V1) (zc 16)] (zp (zm 16 V0) V1) (zu (zc 255)) [1,16,1] rfl (ub h) (ub l))),λx b=>hr x (e▸NB _ (NB _ b))⟩
def uq(o:∀c∈b,c<256)(d:b.length<=1000)(q:match cU b with|none=>X|some s=>Q (.str s) H):call (n+2) 49 [.bytes b,.int i0] H Q X:=by
 refine ag (ρ:=[xV (.bytes b),xV (.int i0),Nm,Nm,Nm,Nm,Nm]) rfl rfl rfl λp I=>?_;refine(?_:eW (call (n+1)) _ [xV (.bytes b),xV (.int i0),xV (.ref p),xV (.int (0:Nu)),Nm,Nm,Nm] (H.set p (.list (uT []))) _ _ _ _);refine ak λN F=>eM λT B C E G u=>⟨b.length+1,?_⟩;haveI key:∀(m:Nu)(r:Ni Nu)(k:Nu)(acc:Ni Nu)(v f e:Nt V),(∀c∈r,c<256)->r.length<m->bY b k r->acc.length+r.length<=1000 ->
   (match cU r with|none=>X|some s=>Q (.str (acc++s)) H) ->
   gz T B m [xV (.bytes b),xV (.int i0),xV (.ref p),xV (.int k),v,f,e] (H.set p (.list (uT acc))) C:=by
  intro m;induction m with
  |zero=>intro r k acc v f e _ h;exact NK h (O1 _)
  |succ m J=>
  intro r k acc v f e o hm l i q;refine E ?_;induction r using Nw with
  |nil=>refine bp l.E6 (u (F ⟨rfl,?_⟩));refine aa (lW yL (Nj (Rd i) (by decide))) ⟨H,dh I,?_⟩;rw[cU] at q;haveI q:Q (.str (acc++[])) H:=q;rw[N9] at q;exact q
  |cons c r=>
   refine cD l.ltI (G ?_);refine aa (aU l.get _) ?_;have a:=kN c r;refine A2 (wx (o c (Ny ..)) λx D=>o x (NB _ D)) λA y=>?_;rw[cU] at q;refine(?_:eW (call (n+1)) _ [xV (.bytes b),xV (.int i0),xV (.ref p),xV (.int ((k:N6)+1)),xV (.int c),f,e] _ _ _ _ _);refine ak λW w=>Ce l.next λj f e g=>w (ak λW w=>?_);rw[Nn] at i hm;generalize aT c r=z at q a A y g;refine dJ (λt=>?_) λt=>w ⟨by refine(?_:yF _=Nk);rw[aj];rfl,?_⟩
   ·rw[Np t] at q;exact q
   ·rw[Nl t] at q
    refine aa (xS A _) (aa (KN (by unfold lim;exact Nx (Nj (NV _ _) i) (by decide))) ?_);refine J z.2 j (acc++[z.1]) _ _ _ y (L44 hm a) g (by rw[Nv];rw[OA];exact cR [R0 (zp V0 (S1 V2)) (zc 1000),R0 V1 V2] (zp (S1 V0) V1) (zc 1000) rfl i a) ?_;induction h:cU z.2 with
    |none=>rw[h] at q;exact q
    |some s=>rw[h] at q;refine(?_:Q (.str (acc++[z.1]++s)) H);rw[NM];exact q
 exact key _ b 0 [] Nm Nm Nm o (Oe _) ⟨OL _,rfl⟩ (by rw[NL];rw[Og];exact d) q
end
def Gd{k:Nu}(a:b.length<=1000)(hk:k<=b.length):jY (.bytes b) (.int k) .none=xV (.bytes (b.drop k)):=
 (JB (Bs _ hk a) rfl a).trans (NN (λl=>xV (V.bytes l)) (nL b k))
noncomputable def plc(p:Nt Nu):N6:=match p with|some p=>p|none=>-1
def Jz(run:Ni Nu)(t:Nu):N6:=if c6 run then -(t:N6) else t
def yg(run:Ni Nu)(t n:Nu)(p:Nt Nu):Nt Num:=if n=0\/40<n then Nm else
 match p with
 |none=>xV (.int (Jz run t))
 |some p=>xV (.real (dq (Jz run t) p).1 (dq (Jz run t) p).2)
def zZ(run:Ni Nu)(z:Nt (Nu×Nu×Nt Nu)):Nt Num:=match z with
 |none=>Nm
 |some (t,n,p)=>yg run t n p
def ccD{c:Nu}(h:ρ[5]?=xV (xV (.int c)))(q:Q (decide (48<=c/\c<=57)) H):rY C (.ig .le .le (.glob 10) (.loc 5) (.bin .add (.glob 10) (.lit (.int 9)))) ρ H Q X:=by refine(?_:(match ρ[5]? with|some (xV v)=>HY .le .le (.int 48) (cL C (.bin .add (.glob 10) (.lit (.int 9))) ρ) Q X v H| _=>OH));rw[h];exact ccK (C:=C) (ρ:=ρ) q
section
variable {n a k k' c:Nu}{d r:Ni Nu}{H:ae}{Q:av}{X:Prop}
def hP(g:H a=xV (.inst .decimal []))(q:Q .none (H.set a (.inst .decimal [(.top,.int (dq t p).1),(.places,.int (dq t p).2)]))):call (n+1) 11 [.ref a,.int t,.int p] H Q X:=by
 refine ag (ρ:=[xV (.ref a),xV (.int t),xV (.int p)]) rfl rfl rfl ?_;refine ak λN i=>eM λT B d f j c=>⟨p+1,?_⟩;have fin:∀(t:N6)(p:Nu),Q .none (H.set a (.inst .decimal [(.top,.int t),(.places,.int p)]))->d [xV (.ref a),xV (.int t),xV (.int p)] H:=by intro t p q;refine c (i ?_);exact aa (bD g rfl _) (aa (ia rfl _) (af q))
 induction p generalizing t with
 |zero=>exact f (fin t 0 q)
 |succ p k=>
  rw[nX] at q;refine f (cD (OT.mpr (QG p)) ?_);haveI em:Ww t 10=t % 10:=Rv _ (by decide);by_cases h:t % 10=0
  ·rw[Np h,<- Rw _ (by decide)] at q
   refine cD (em.trans h) (j ?_);refine(?_:gz T B (p+1) [xV (.ref a),xV (.int (Xz t 10)),xV (.int (((p+1:Nu):N6) - 1))] H d);rw[show((p+1:Nu):N6) - 1=p by exact aax];exact k q
  ·rw[Nl h] at q
   exact bp (λe=>h (em.symm.trans e)) (fin t (p+1) q)
def Cm(x:Nt Num):V:=match x with|none=>.none|some y=>y.v
def Ho(i:m≠0->run≠[])(q:Q (Cm (yg run t m p)) H):
  eW (call (n+1)) (.seq (.ite (.or (.cons (.cmp .eq (.loc 3) (.lit (.int 0))) (.cons (.cmp .gt (.loc 3) (.glob 6)) .nil))) (.ret (.lit .none)) .skip)
  (.seq (.ite (.cmp .eq (.idx (.loc 0) (.lit (.int 0))) (.glob 8)) (.asg 2 (.neg (.loc 2))) .skip)
  (.ret (.ite (.cmp .lt (.loc 4) (.lit (.int 0))) (.loc 2) (.new .decimal (.cons (.loc 2) (.cons (.loc 4) .nil)))))))
   [xV (.bytes run),xV (.int b),xV (.int t),xV (.int m),xV (.int (plc p)),o5] H N (gk Q) K X:=by
 unfold yg at q;refine ak λo h=>?_;refine dJ (λg=>?_) λg=>?_
 ·rw[Np (.inl g)] at q;exact af q
 by_cases d:40<m
 ·rw[Np (.inr d)] at q
  exact cD (OT.mpr d) (af q)
 rw[Nl (λz=>z.elim g d)] at q;refine bp (λz=>d (OT.mp z)) (h ?_);induction run with
 |nil=>exact NK rfl (i g)
 |cons c r=>
  haveI fin:∀x,Jz (c::r) t=x->eW (call (n+1)) (.ret (.ite (.cmp .lt (.loc 4) (.lit (.int 0))) (.loc 2) (.new .decimal (.cons (.loc 2) (.cons (.loc 4) .nil))))) [xV (.bytes (c::r)),xV (.int b),xV (.int x),xV (.int m),xV (.int (plc p)),o5] H N (gk Q) K X:=by
   intro x e;replace q:=(e)▸q;clear tail_ih;induction p with
   |none=>exact af q
   |some p=>intro a l;exact hP (aj H a _) (dT l rfl rfl (af q))
  refine ak λW j=>aa (aU rfl H) ?_;refine dJ (λf=>j (fin _ ?_)) λf=>j (fin _ ?_)
  ·exact Np (by rw[f];rfl)
  ·exact Nl (by refine(?_:¬ (c==45)=Nk);rw[Ob];exact f)
def hZ{run}(u:run.length<=1000)(q:Q (Cm (bN run)) H):call (n+2) 15 [.bytes run] H Q X:=by
 refine ag (ρ:=[xV (.bytes run),Nm,Nm,Nm,Nm,Nm]) rfl rfl rfl ?_;refine(?_:eW (call (n+1)) _ [xV (.bytes run),xV (.int 0),Nm,Nm,Nm,Nm] _ _ _ _ _);refine ak λW D=>?_;have go:∀b,b<=run.length->Q (Cm (zZ run (kg (run.drop b) 0 0 Nm))) H->W [xV (.bytes run),xV (.int b),Nm,Nm,Nm,Nm] H:=by
  intro b y q;refine D ?_;refine(?_:eW (call (n+1)) (.seq (.each _ _ _) _) [xV (.bytes run),xV (.int b),xV (.int (0:Nu)),xV (.int (0:Nu)),xV (.int (plc Nm)),Nm] _ _ _ _ _);refine ak λN A=>c0 (v:=.bytes (run.drop b)) (λK G=>?_) rfl λB o C s=>?_
  ·exact aa (Gd u y) G
  haveI key:∀l t m p i,(m≠0->run≠[])->(l≠[]->run≠[])->Q (Cm (zZ run (kg l t m p))) H ->
    bc [5] B (bL l) [xV (.bytes run),xV (.int b),xV (.int t),xV (.int m),xV (.int (plc p)),i] H o:=by
   intro l;induction l with
   |nil=>exact λt m p i j w q=>s (A (Ho j q))
   |cons c l g=>
    intro t m p i j w q;haveI hr:=w (Ri _ _);rw[nN] at q;have rest:¬ (c=46/\p=Nm)->eW (call (n+1)) (.ite (.ig .le .le (.glob 10) (.loc 5) (.bin .add (.glob 10) (.lit (.int 9)))) (.seq (.asg 2 (.bin .sub (.bin .add (.bin .mul (.lit (.int 10)) (.loc 2)) (.loc 5)) (.glob 10)))
      (.seq (.asg 3 (.bin .add (.loc 3) (.lit (.int 1)))) (.ite (.cmp .ge (.loc 4) (.lit (.int 0))) (.asg 4 (.bin .add (.loc 4) (.lit (.int 1)))) .skip))) (.ret (.lit .none)))
      [xV (.bytes run),xV (.int b),xV (.int t),xV (.int m),xV (.int (plc p)),xV (.int c)] H (fun ρ H=>bc [5] B (bL l) ρ H o) (gk Q) (fun ρ H=>bc [5] B (bL l) ρ H o) X:=by
     intro x;rw[Nl x] at q;refine ccD rfl ?_;refine(NG (48<=c/\c<=57)).elim (λhd=>?_) (λhd=>?_)
     ·replace q:=(Np hd)▸q
      refine cD hd ?_;haveI E:((10 * t+(c - 48):Nu):N6)=10 * (t:N6)+c - 48:=by exact zJ [_,_,_] [] [R2 (zp V1 (zc 48)) V2,R0 V2 (zp V1 (zc 48))] (zu (zp (zm 10 V0) V1)) (zs (zp (zm 10 (zu V0)) (zu V2)) (zc 48)) [1,1,0] [1,0,1] rfl rfl (NT (hd.1)) (mV _ _)
      haveI g:=λp i=>g (10 * t+(c - 48)) (m+1) p i (λ_=>hr) (λ_=>hr);replace g:=(E)▸g;clear x;induction p with
      |none=>exact g Nm _ q
      |some p=>exact g (xV (p+1)) _ q
     ·replace q:=(Nl hd)▸q
      exact bp hd (af q)
    refine C (dJ (λa=>?_) λa=>rest λz=>a z.1);induction p with
    |none=>rw[Np ⟨a,rfl⟩] at q;exact g t m (xV 0) _ j (λ_=>hr) q
    |some p=>exact rest λz=>nomatch z.2
  exact key (run.drop b) 0 0 Nm Nm (λh=>NK rfl h) (λh e=>h (by rw[e];exact drop_nil)) q
 unfold bN at q;clear u;induction run with
 |nil=>exact go 0 (NA _) q
 |cons c r=>
  haveI F:g9 (c::r)=(c==43||c==45):=rfl;replace q:=(F)▸q;refine cD (OT.mpr (QG _)) (aa (aU rfl H) ?_);refine dJ (λf=>?_) λf=>?_
  ·rw[Np (by rw[f];rfl)] at q
   exact go 1 (Oi (OL _)) q
  refine aa (aU rfl H) ?_;refine dJ (λd=>?_) λd=>?_
  ·rw[Np (by rw[d];rfl)] at q
   exact go 1 (Oi (OL _)) q
  ·rw[Nl (by rw[PV];rw[Ob];rw[Ob];exact λz=>z.elim f d)] at q
   exact go 0 (OL _) q
end
def ir(r:Ni Nu):Prop:=∀c∈r,c<256/\c≠37/\c≠13
def ir.sub(h:ir r)(s:r' <:+ r):ir r':=λc a=>h c (s.subset a)
def CU(r):∀c∈a6 r,c∈r:=λc a=>(VD _).subset a
def mi(r):(a6 r).length<=r.length:=(VD _).length_le
def xr(x:Nt (Tok×Ni Nu))(X:Prop)(K:Tok->Ni Nu->Prop):Prop:=match x with|none=>X|some p=>K p.1 p.2
def qx{r:Ni Nu}(h:c=m->r.head?≠xV m):Sa [m,m] (c::r)=Nr:=by
 refine Pu.mpr λe=>?_;haveI e:((m==c)&&Sa [m] r)=Nk:=e;rw[Od,Ob] at e;refine h e.1.symm ?_;clear h;induction r using Nw with
 |nil=>cases e.2
 |cons x r=>haveI a:((m==x)&&Nk)=Nk:=e.2;rw[US,Ob] at a;rw[a];rfl
def AJ{r:Ni Nu}(h:c=m)(a:r.head?=xV m):Sa [m,m] (c::r)=Nk:=by
 induction r using Nw with
 |nil=>contradiction
 |cons x r=>refine(?_:((m==c)&&((m==x)&&Nk))=Nk);rw[h];rw[N1 a];rw[OJ];rfl
def bY.tl(h:bY d k r)(a:r.head?=xV m):bY d (k+1) (r.drop 1):=by
 induction r using Nw with
 |nil=>contradiction
 |cons x r=>exact h.next
section
variable {n a k k' c:Nu}{d r:Ni Nu}{H:ae}{Q:av}{X:Prop}
def n8(hd:d.length<=1000)(c:H a=xV (cO d k))(b:bY d k r)(e:w.isPrefixOf r=Nr)(q:Q (.bool Nr) H):call (n+2) 7 [.ref a,.bytes w] H Q X:=AY hd c b (by rw[e];exact q)
def xc(hd:d.length<=1000)(c:H a=xV (cO d k))(b:bY d k r)(e:w.isPrefixOf r=Nk)(q:Q (.bool Nk) (H.set a (cO d (k+w.length)))):call (n+2) 7 [.ref a,.bytes w] H Q X:=AY hd c b (by rw[e];exact q)
def uF(c:d.length<=1000)(g:H a=xV (cO d k))(f:bY d k r)(e:bY d k' (a8 r))(q:Q ((dg (a6 r)).v i) (H.set a (cO d k'))):call (n+3) 54 [.ref a,.int i] H Q X:=by
 refine ag (ρ:=[xV (.ref a),xV (.int i),Nm,Nm]) rfl rfl rfl (aa (cW g) ?_);refine c8 c g f e (hZ (Nj (mi r) (Nj f.len c)) ?_);unfold dg at q;induction h:bN (a6 r) with
 |none=>replace q:=(h)▸q;exact af q
 |some x=>
  replace q:=(h)▸q;clear h;induction x with
  |int j=>exact af q
  |real t p=>exact af q
def BY(c:Nu)(H):jg .ud (.int c) (.tup [.int 91,.int 93,.int 123,.int 125]) H=xV (decide (c=91\/c=93\/c=123\/c=125)):=by
 refine(?_:p9 (.int c) (([91,93,123,125]:Ni Nu).map λ(x:Nu)=>V.int x)=_);rw[kK]
 congr 1
 simp
def kq(c:Nu)(H:ae)(h:decide (c=91\/c=93\/c=123\/c=125)=b):(((91:N6)==c)||(((93:N6)==c)||(((123:N6)==c)||(((125:N6)==c)||false))))=b:=(N1 (BY c H)).trans h
def tW{i:N6}(K:ir (c::r))(f:d.length<=1000)(u:H a=xV (cO d k))(j:bY d k (c::r))(I:c=47\/c=40\/c=41\/c=60\/c=62\/c=91\/c=93\/c=123\/c=125)(q:xr (l0 (c::r)) X λt J=>∀k',bY d k' J->Q (t.v i) (H.set a (cO d k'))):call (n+5) 55 [.ref a,.int c,.int i] H Q X:=by
 refine ag (ρ:=[xV (.ref a),xV (.int c),xV (.int i)]) rfl rfl rfl ?_;haveI D:∀x∈r,x<256/\x≠37/\x≠13:=λx C=>K x (NB _ C);rw[l0] at q;refine ak λW B=>dJ (λA=>?_) λA=>B (ak λW B=>dJ (λE=>?_) λE=>B (ak λW B=>aa (cW u) ?_))
 ·rw[Np A] at q
  refine aa (cW u) (fN u j ?_);refine X1 (j.next.of (cG r)) λk2 z=>?_;refine aa (cW (aj ..)) (c8 f (aj ..) j.next z ?_);rw[ax];refine uq (λx C=>(D x (CU r x C)).1) (Nj (mi r) (Nj j.next.len f)) ?_;induction h:cU (a6 r) with
  |none=>rw[h] at q;exact q
  |some s=>rw[h] at q;exact af (q k2 z)
 ·rw[Nl A,Np E] at q
  refine aa (cW u) (fN u j ?_);refine yO (λx C=>⟨(D x C).1,(D x C).2.2⟩) f (aj ..) j.next ?_;induction h:cw r 1 with
  |none=>rw[h] at q;exact q
  |some p=>replace q:=(h)▸q;exact λk2 z=>by rw[ax];exact af (q k2 z)
 rw[Nl A,Nl E] at q;by_cases o:c=60
 ·replace q:=(Np o)▸q
  by_cases w:r.head?=xV 60
  ·replace q:=(Np w)▸q
   exact xc f u j (AJ o w) (af (q (k+2) (j.next.tl w)))
  ·replace q:=(Nl w)▸q
   refine n8 f u j (qx λ_=>w) (B (ak λW B=>aa (cW u) ?_));refine n8 f u j (qx λe=>NK (o.symm.trans e) (by decide)) (B (ak λW B=>?_));refine cD (NN _ o) (aa (cW u) ?_);refine fN u j (rJ (λx C=>(D x C).1) f (aj ..) j.next ?_);induction h:iD r [] with
   |none=>rw[h] at q;exact q
   |some p=>replace q:=(h)▸q;exact λk2 z=>by rw[ax];exact af (q k2 z)
 replace q:=(Nl o)▸q;refine n8 f u j (qx λe=>NK e o) (B (ak λW B=>aa (cW u) ?_));have F:Sa [62,62] (c::r)=Nr->xr (if c=41 then Nm else if c=91\/c=93\/c=123\/c=125 then xV (.sign [c],r) else Nm) X (λt J=>∀k',bY d k' J->Q (t.v i) (H.set a (cO d k'))) ->
   call (n+4) 7 [.ref a,.bytes [62,62]] H (kTv (abJ (eW (call (n+4)) (.ret (.tup (.cons (.lit (.str [115,105,103,110])) (.cons (.lit (.bytes [62,62])) (.cons (.loc 2) .nil)))))) (eW (call (n+4)) .skip) [xV (.ref a),xV (.int c),xV (.int i)] W (gk Q) noK X)) X:=λe q=>by
  refine n8 f u j e (B ?_);refine bp (λe=>o (Pg.mp e)) ?_;by_cases g:c=91\/c=93\/c=123\/c=125
  ·rw[Nl (λe=>by rw[e] at g;contradiction),Np g] at q
   refine fx (kq c H (NP g)) (aa (cW u) ?_);exact fN u j (aa (sg (l:=[c]) (SD rfl) (λx C=>by rw[mem_singleton.mp C];exact(K c (Ny ..)).1)) (af (q (k+1) j.next)))
  ·rw[Nl g,Wr] at q
   exact fQ (kq c H (N5 g)) q
 by_cases y:c=62
 ·rw[Np y] at q
  by_cases m:r.head?=xV 62
  ·rw[Np m] at q
   exact xc f u j (AJ y m) (af (q (k+2) (j.next.tl m)))
  ·rw[Nl m] at q
   exact F (qx λ_=>m) (by rw[y];exact q)
 rw[Nl y] at q;refine F (qx λe=>NK e y) ?_;by_cases G:c=41
 ·rw[Np G] at q ⊢;exact q
 ·haveI L:=((((I.resolve_left A).resolve_left E).resolve_left G).resolve_left o).resolve_left y
  rw[Nl G,Np L] at q ⊢;exact q
def ju(z:ir r)(g:d.length<=1000)(x:H a=xV (cO d k))(y:bY d k r)(q:xr (bG r) X λt B=>∀k',bY d k' B->∀i,Q (t.v i) (H.set a (cO d k'))):call (n+6) 56 [.ref a] H Q X:=by
 refine ag (ρ:=[xV (.ref a),Nm,Nm]) rfl rfl rfl (X1 (y.of (aV r)) ?_);intro k1 e;refine aa (cW x) (eb (λc A=>(z c A).2.1) x y e ?_);refine aa (dz (aj ..)) (aa (cW (aj ..)) ?_);refine i6 (aj ..) e ?_;unfold bG at q;have j:=z.sub (aV r);generalize aE r=C at q e j;induction C using Nw with
 |nil=>exact af (q k1 e _)
 |cons c r1=>
  have del:(c=47\/c=40\/c=41\/c=60\/c=62\/c=91\/c=93\/c=123\/c=125)->call (n+5) 55 [.ref a,.int c,.int k1] (H.set a (cO d k1)) (gk Q) X:=by
   intro h;refine tW j g (aj ..) e h ?_;induction h:l0 (c::r1) with
   |none=>rw[h] at q;exact q
   |some p=>replace q:=(h)▸q;exact λk2 f=>by rw[ax];exact af (q k2 f _)
  refine dJ (λo=>del (.inl o)) λo=>?_;refine dJ (λw=>del (.inr (.inl w))) λw=>?_;refine dJ (λu=>del (.inr (.inr (.inl u)))) λu=>?_;refine dJ (λs=>del (.inr (.inr (.inr (.inl s))))) λs=>?_;refine dJ (λm=>del (.inr (.inr (.inr (.inr (.inl m)))))) λm=>?_;by_cases l:c=91\/c=93\/c=123\/c=125
  ·exact fx (kq c H (NP l)) (del (.inr (.inr (.inr (.inr (.inr l))))))
  refine fQ (kq c H (N5 l)) (X1 (e.of (cG (c::r1))) ?_);intro k2 f;refine uF g (aj ..) e f ?_;rw[l0,Nl o,Nl w,Nl s,Nl m,Nl u,Nl l] at q;rw[ax];exact af (q k2 f _)
end
def Dm{b l:Ni Nu}{A B:Prop}(c:b=l->A)(a:b≠l->B):if(b==l)=Nk then A else B:=by
 by_cases h:b=l
 ·exact fx (Ob.mpr h) (c h)
 ·exact fQ (OE h) (a h)
section
variable {n a k k' c:Nu}{d r:Ni Nu}{H:ae}{Q:av}{X:Prop}
def rX{b}{i}(q:if b=[116,114,117,101] then Q (.bool Nk) H else if b=[102,97,108,115,101] then Q (.bool Nr) H else if b=[110,117,108,108] then Q .none H else X):call (n+1) 62 [.bytes b,.int i] H Q X:=by
 refine ag (ρ:=[xV (.bytes b),xV (.int i)]) rfl rfl rfl ?_;refine Dm (λh=>?_) λa=>Dm (λh=>?_) λc=>Dm (λh=>?_) λd=>?_
 ·rw[Np h] at q;exact af q
 ·rw[Nl a,Np h] at q;exact af q
 ·rw[Nl a,Nl c,Np h] at q;exact af q
 ·rw[Nl a,Nl c,Nl d] at q;exact q
noncomputable def M3(x:Nt Num):NF:=match x with|some (.int g)=>decide (0<=g)| _=>Nr
def vY(q:Q (.bool (M3 x)) H):call (n+1) 60 [Cm x] H Q X:=by
 refine ag (ρ:=[xV (Cm x)]) rfl rfl rfl ?_;induction x with
 |none=>exact af q
 |some y=>
  induction y with
  |int g=>exact af q
  |real t p=>exact af q
def lj(D:ir r)(h:d.length<=1000)(s:H a=xV (cO d k))(C:bY d k r)(q:match nz r with|some (g,r')=>∀k',bY d k' r'->Q (k7 i g) (H.set a (cO d k'))|none=>Q (.int i) H):call (n+4) 61 [.ref a,.int i] H Q X:=by
 refine ag (ρ:=[xV (.ref a),xV (.int i),Nm,Nm]) rfl rfl rfl (X1 (C.of (aV r)) ?_);intro k1 f;refine X1 (f.of (cG _)) λk2 l=>?_;refine X1 (l.of (aV _)) λk3 j=>?_;refine X1 (j.of (cG _)) λB o=>?_;haveI v:=D.sub (aV r);haveI A:=v.sub (cG _);refine aa (j8 s) (aa (dz s) ?_);refine aa (iT s) λp m=>?_;refine oZ (aj H p _) (.inr rfl) ?_;rw[ax];refine yQ rfl (aa (cW (aj ..)) ?_);refine eb (λc w=>(D c w).2.1) (aj ..) C f ?_;rw[ax];refine aa (cW (aj ..)) (c8 h (aj ..) f l ?_);rw[ax];refine hZ (Nj (mi _) (Nj f.len h)) (aa (cW (aj ..)) ?_);refine eb (λc w=>(A c w).2.1) (aj ..) l j ?_;rw[ax];refine vY ?_;haveI q:match (bN (a6 (aE r))).bind (Mo (aE (a8 (aE r)))) with|some (g,r')=>∀k',bY d k' r'->Q (k7 i g) (H.set a (cO d k'))|none=>Q (.int i) H:=q
 induction x:bN (a6 (aE r)) with
 |none=>replace q:=(x)▸q;exact⟨H,dh m,q⟩
 |some y=>
  replace q:=(x)▸q;clear x;induction y with
  |real t F=>exact⟨H,dh m,q⟩
  |int g=>
   haveI q:match (if 0<=g/\a6 (aE (a8 (aE r)))=[82] then xV (g,a8 (aE (a8 (aE r)))) else Nm) with|some (g,r')=>∀k',bY d k' r'->Q (k7 i g) (H.set a (cO d k'))|none=>Q (.int i) H:=q
   refine(NG (0<=g)).elim (λu=>?_) (λu=>?_)
   ·refine zP u (aa (cW (aj ..)) ?_)
    refine c8 h (aj ..) j o ?_;rw[ax];refine(NG (a6 (aE (a8 (aE r)))=[82])).elim (λe=>?_) (λe=>?_)
    ·rw[Np ⟨u,e⟩] at q
     refine fQ (by rw[e];rfl) (aa (dz (aj ..)) ?_);refine aa (vg (by rw[aP (OG (cc s m))];exact s)) λb E=>?_;exact dF (aj _ b _) (dT E rfl rfl ⟨H.set a (cO d B),w9 (dh m),q B o⟩)
    ·rw[Nl (λz=>e z.2)] at q
     exact fx (by rw[OE e];rfl) ⟨H,dh m,q⟩
   ·rw[Nl (λz=>u z.1)] at q
    exact JS u ⟨H,dh m,q⟩
def lp(x:Nt (V×Ni Nu))(X:Prop)(K:V->Ni Nu->Prop):Prop:=match x with|none=>X|some p=>K p.1 p.2
def qw(y:ir r)(l:d.length<=1000)(u:H a=xV (cO d k))(w:bY d k r)(q:lp (fX tk r) X λv e=>∀k',bY d k' e->Q v (H.set a (cO d k'))):call (n+5) 63 [.ref a,tk.v i,.bool Nk] H Q X:=by
 refine ag (ρ:=[xV (.ref a),xV (tk.v i),xV (.bool Nk),Nm,Nm,Nm]) rfl rfl rfl ?_;have same:∀v,lp (xV (v,r)) X (λv e=>∀k',bY d k' e->Q v (H.set a (cO d k')))->less (Q v) H:=λv q=>by haveI:=q k w;replace this:=(ey u)▸this;exact af this
 induction tk with
 |word b=>
  refine rX ?_;haveI q:lp (if b=[116,114,117,101] then xV (.bool Nk,r) else if b=[102,97,108,115,101] then xV (.bool Nr,r) else if b=[110,117,108,108] then xV (.none,r) else Nm) X _:=q;split
  ·next h=>replace q:=(Np h)▸q;exact same _ q
  next h=>
  replace q:=(Nl h)▸q;split
  ·next h=>replace q:=(Np h)▸q;exact same _ q
  next h=>
  replace q:=(Nl h)▸q;split
  ·next h=>replace q:=(Np h)▸q;exact same _ q
  next h=>replace q:=(Nl h)▸q;exact q
 |int j=>
  haveI q:lp (if 0<=j then(match nz r with|some (g,e)=>xV (k7 j g,e)|none=>xV (.int j,r)) else xV (.int j,r)) X _:=q;refine(NG (0<=j)).elim (λf=>?_) (λf=>?_)
  ·rw[Np f] at q
   refine cD f (lj y l u w ?_);induction h:nz r with
   |none=>replace q:=(h)▸q;exact same _ q
   |some p=>replace q:=(h)▸q;exact λk2 m=>af (q k2 m)
  ·rw[Nl f] at q
   exact bp f (same _ q)
 |real t p=>exact same _ q
 |name s=>exact λb x=>gX (aj _ b _) (dT x rfl rfl (same _ q))
 |str b=>exact λz o=>nE (aj _ z _) (dT o rfl rfl (same _ q))
 |hex b=>exact λz o=>iL (aj _ z _) (dT o rfl rfl (same _ q))
 |sign b=>exact q
 |fin=>exact q
end
noncomputable abbrev CZ:=Ni (Ni Nu×V)
noncomputable def bF(D:CZ):Ni V:=D.map λp=>V.str p.1
noncomputable def gy(D:CZ):Ni V:=D.map λp=>p.2
def FA:∀{D:CZ},k∉D.map (·.1)->dE k v D=D++[(k,v)]:=by
 intro c;induction c with
 |nil=>intro _;exact rfl
 |cons a D b=>have k':=(a).1;have v':=(a).2;intro h;rw[N3,NH,Pl] at h;rw[fK];rw[Nl (λe=>h.1 e.symm)];rw[b h.2];rfl
def AM:∀{D:CZ},k∈D.map (·.1)->bF (dE k v D)=bF D/\l8 (.str k) v (bF D) (gy D)=gy (dE k v D):=by
 intro b;induction b with
 |nil=>intro h;contradiction
 |cons c D a=>
  obtain⟨k',v'⟩:=c;intro h;haveI d:bb (.str k') (.str k)=(k'==k):=rfl;by_cases e:k'=k
  ·rw[fK];rw[Np e]
   refine⟨rfl,?_⟩;refine(?_:(if bb (.str k') (.str k) then v::gy D else _)=_);rw[d];rw[Np (Ob.mpr e)];rfl
  ·rw[fK];rw[Nl e]
   rw[N3,NH] at h;refine A2 (a (h.resolve_left λq=>e q.symm)) λg f=>?_;refine⟨by show V.str k'::bF (dE k v D)=V.str k'::bF D;rw[g];rfl,?_⟩;show(if bb (.str k') (.str k) then _ else v'::l8 (.str k) v (bF D) (gy D))=v'::gy (dE k v D);rw[d];rw[Nl (by simpa using e)];rw[f];rfl
def ED:∀{D:CZ},(bF D).any (bb · (.str k))=decide (k∈D.map (·.1)):=by
 intro b;induction b with
 |nil=>exact rfl
 |cons c D a=>obtain⟨k',v'⟩:=c;refine(?_:(bb (.str k') (.str k)||(bF D).any (bb · (.str k)))=_);rw[a];rw[show bb (.str k') (.str k)=(k'==k) from rfl];rw[Pz];simp only[PV,Ob,N8,N3,NH];exact Us Sr Iff.rfl
def EF(D:CZ):(bF D).all (iF (.str k))=Nk:=by rw[Xd];rw[RL];intro p _;rfl
def Ga(h:H p=xV (.dict (bF D) (gy D)))(a:D.length<1000):
  cX (.ref p) (.str k) v H=xV (H.set p (.dict (bF (dE k v D)) (gy (dE k v D)))):=by
 refine(?_:CG (H p) _ _ _ _=_);rw[h];refine(?_:(if(iF (.str k) (.str k)&&(bF D).all (iF (.str k))&&decide ((bF D).length<1000))=Nk then xV (H.set p (if(bF D).any (bb · (.str k))=Nk then _ else _)) else Nm)=_);rw[show iF (.str k) (.str k)=Nk from rfl];rw[EF];rw[ED];rw[Np]
 ·by_cases e:k∈D.map (·.1)
  ·rw[Np (NP e)]
   refine A2 (AM (v:=v) e) λc b=>?_;rw[c];rw[b];rfl
  ·rw[Nl (by simpa using e)];rw[FA e]
   unfold bF gy;rw[N7];rw[N7];rfl
 ·have:(bF D).length<1000:=by unfold bF;rw[NR];exact a
  rw[NP this];rfl
def Fy(h:(D.map (·.1)).Nodup):((dE k v D).map (·.1)).Nodup:=by
 refine(NG (k∈D.map (·.1))).elim (λe=>?_) (λe=>?_)
 ·haveI:=(AM (v:=v) e).1
  unfold bF at this;haveI c:(dE k v D).map (·.1)=D.map (·.1):=by haveI:=NN (Wn λv=>match v with|V.str s=>s| _=>[]) this;rw[Oo,Oo] at this;exact this
  rw[c];exact h
 ·rw[FA e];rw[N7];rw[So]
  refine⟨h,by simp,λx b y a=>?_⟩;rw[N3,SQ,Oc] at a;rintro rfl;exact e (by rw[show k=x from a.symm];exact b)
def IY:∀(D:CZ),(dE k v D).length<=D.length+1:=by
 intro b;induction b with
 |nil=>exact NA _
 |cons c D a=>
  obtain⟨k',v'⟩:=c;rw[fK];split
  ·simp
  ·haveI:=a
   simp only[Nn];exact Pd a
def nU:∀{D:CZ},(D.map (·.1)).Nodup->(k,v)∈D->b7 k (D.map (·.1)) (D.map (·.2))=xV v:=by
 intro c;induction c with
 |nil=>intro _ h;contradiction
 |cons d D a=>
  obtain⟨k',v'⟩:=d;intro b h;rw[N3,Ow] at b;refine(?_:(if k'=k then xV v' else b7 k (D.map (·.1)) (D.map (·.2)))=_);rcases NH.mp h with e|e
  ·injection e with e f;clear b h;subst e f;rw[Np rfl];rfl
  ·rw[Nl];rw[a b.2 e];rfl
   rintro rfl;exact b.1 (mem_map.mpr ⟨_,e,rfl⟩)
def CQ:∀D:CZ,bX (bF D)=xV (D.map (·.1)):=by
 intro b;induction b with
 |nil=>exact rfl
 |cons c D a=>obtain⟨k,v⟩:=c;refine(?_:(bX (bF D)).map _=_);rw[a];rfl
def K3:∀{D:CZ},(D.map (·.1)).Nodup->pA (D.map λp=>V.tup [.str p.1,p.2])=xV (D.map (·.1),D.map (·.2)):=by
 intro b;induction b with
 |nil=>intro _;exact rfl
 |cons c D a=>obtain⟨k,v⟩:=c;intro h;rw[N3,Ow] at h;refine(?_:Hm k v (pA (D.map λp=>V.tup [.str p.1,p.2]))=_);rw[a h.2];refine(?_:(if(D.map (·.1)).contains k then Nm else _)=_);rw[Nl (by simpa using h.1)];rfl
def Ao{i:Nu}(hi:l[i]?=xV v)(H):gQ (.lst l) (.int i) H=xV v:=by have hk:=(Ou.mp hi).1;refine(?_:uZ _ _=_);unfold uZ ik ft;rw[Np (by simp;exact hk)];rw[Np (C8)];rw[Q6];rw[hi];rfl
section
variable {n a k k' c:Nu}{d r:Ni Nu}{H:ae}{Q:av}{X:Prop}
def Hl{it k v}(he:∀K,K u H->cL C it ρ H K X)(hi:d9 u=xV xs)(a:xs.length<=1000)(q:fc (tIn (rY C t) j ρ) (pIn (cL C k) (cL C v) j ρ) xs H (HZ Q)):cL C (.sr j it t k v) ρ H Q X:=he _ (aa hi ⟨a,q⟩)
def yj{items:Ni V}(hk:Kd items)(J:items.length<=1000)(q:Q (hU items) H):call (n+1) 64 [.lst items] H Q X:=by
 haveI hr:cp .range [.int 0,.int items.length,.int 2] H=xV (.mN 0 items.length 2):=by show(if _ then _ else _)=_;haveI g:iN (items.length:N6)=Nk:=NP (Nx J (by decide));rw[g];rfl
 refine ag (ρ:=[xV (.lst items),Nm,Nm,Nm]) rfl rfl rfl λp T=>?_;haveI hr:∀H,cp .range [.int 0,.int items.length,.int 2] H=xV (.mN 0 items.length 2):=λ_=>hr;refine ak λN M=>c0 (v:=.mN 0 items.length 2) (λK j=>?_) rfl λB I O A=>?_
 ·exact aa (hr _) j
 haveI fin:∀(D:CZ)(o2:Nt V),(D.map (·.1)).Nodup->D.length<=1000->Q (.ec ((D.filter λp=>aJ p.2).map (·.1)) ((D.filter λp=>aJ p.2).map (·.2))) H ->
   I [xV (.lst items),xV (.ref p),o2,Nm] (H.set p (.dict (bF D) (gy D))):=by
  intro D o2 g Y q;haveI C:eJ (.ref p) (H.set p (.dict (bF D) (gy D)))=xV (.ec (D.map (·.1)) (D.map (·.2)),H):=by refine(?_:BU (H.set p (.dict (bF D) (gy D)) p) p _=_);rw[aj];refine(?_:(bX (bF D)).map _=_);rw[CQ];rw[iW T];rfl
  haveI E:d9 (.ec (D.map (·.1)) (D.map (·.2)))=xV (bF D):=by refine(?_:xV ((D.map (·.1)).map V.str)=_);rw[Oo];rfl
  refine A (M (ak λW P=>aa rfl ?_));refine aa C (P ?_);refine Hl (λK h=>h) E (by unfold bF;rw[NR];exact Y) ?_;refine fe (λx=>match x with|.str k=>(match b7 k (D.map (·.1)) (D.map (·.2)) with|some v=>aJ v|none=>Nr)| _=>Nr)
   (λx=>match x with|.str k=>.tup [.str k,(b7 k (D.map (·.1)) (D.map (·.2))).getD .none]| _=>.none) _ _ ?_ ?_ ?_
  ·intro x o K j
   refine ah (mem_map.mp o) λc a i=>?_;clear o;subst i;obtain⟨k,v⟩:=c;haveI u:=nU g a;simp only[u] at j;exact aa (u:gQ (.ec (D.map (·.1)) (D.map (·.2))) (.str k) H=xV v) j
  ·intro x o K j
   refine ah (mem_map.mp o) λc a i=>?_;clear o;subst i;obtain⟨k,v⟩:=c;haveI u:=nU g a;simp only[u] at j;exact aa (u:gQ (.ec (D.map (·.1)) (D.map (·.2))) (.str k) H=xV v) j
  ·haveI e:((bF D).filter (λx=>match x with|.str k=>(match b7 k (D.map (·.1)) (D.map (·.2)) with|some v=>aJ v|none=>Nr)| _=>Nr)).map
     (λx=>match x with|.str k=>.tup [.str k,(b7 k (D.map (·.1)) (D.map (·.2))).getD .none]| _=>.none)=(D.filter λp=>aJ p.2).map λp=>V.tup [.str p.1,p.2]:=by
    rw[Ni.filter_map];rw[Oo];haveI U:D.filter ((λx:V=>match x with|.str k=>(match b7 k (D.map (·.1)) (D.map (·.2)) with|some v=>aJ v|none=>Nr)| _=>Nr)∘λp=>V.str p.1)=D.filter λp=>aJ p.2:=by apply Ni.filter_congr;rintro⟨k,v⟩ a;simp only[Q5,nU g a]
    rw[U];apply QE;rintro⟨k,v⟩ a;haveI a:=(VQ.mp a).1;simp only[Q5,nU g a];rfl
   rw[e];exact K2 (K3 (g.sublist (List.Sublist.map _ Ni.filter_sublist))) (af q)
 haveI key:∀rest,Kd rest->∀(m lo:Nu)(D:CZ)(o2:Nt V),items.drop lo=rest->lo+rest.length=items.length->rest.length<=m->(D.map (·.1)).Nodup->D.length+rest.length<=1000 ->
   Q (let d:=((eR rest).foldl (λd p=>dE p.1 p.2 d) D).filter λp=>aJ p.2;.ec (d.map (·.1)) (d.map (·.2))) H ->
   bc [2] B (f5 m (lo:N6) items.length 2) [xV (.lst items),xV (.ref p),o2,Nm] (H.set p (.dict (bF D) (gy D))) I:=by
  intro rest hk;induction hk with
  |nil=>
   intro m lo D o2 w f t z y q;haveI e:f5 m (lo:N6) items.length 2=[]:=by
    dsimp only[NL] at f;clear t;induction m using Qn with
    |zero=>rfl
    |succ m=>rw[i8];rw[Nl (nG [R3 (zp V0 K0) V1] (R4 (S1 (zu V0)) (zu V1)) rfl f)];rfl
   rw[e];exact fin D o2 z (by lia) q
  | @cons s v r hk G=>
   intro m lo D o2 w f t z y q;dsimp only[Nn] at f t y;induction m using Qn with
   |zero=>exact NK t (O1 _)
   |succ m=>
   rw[i8];rw[Np (zI [_,_,_] [] [R2 (zp V0 (S1 (S1 V2))) V1] (S1 (zu V0)) (zu V1) [1,1] rfl f)];haveI L:items[lo]?=xV (cV s):=by refine bB (NU (QP)) ?_;rw[w];rfl
   haveI Z:items[lo+ 1]?=xV v:=by refine bB (NU (QP)) ?_;refine bB (NU Q0) ?_;rw[w];rfl
   haveI F:=IY (k:=s) (v:=v) D;haveI G:=G m (lo+2) (dE s v D) (xV (.int lo)) (by refine bB (NU Q0) ?_;rw[w];rfl) (zE [_,_,_] [] [R2 (zp V0 (S1 (S1 V1))) V2,R3 (zp V0 (S1 (S1 V1))) V2] (zp (zp V0 (zc 2)) V1) V2 [1,1,0] [1,0,1] rfl rfl f f) (cj [R0 (S1 (S1 V0)) (S1 V1)] V0 V1 rfl t) (Fy z) (cR [R0 (zp V2 (S1 (S1 V1))) (zc 1000),R0 V0 (S1 V2)] (zp V0 V1) (zc 1000) rfl y F) q;haveI l:=Ga (k:=s) (v:=v) (aj H p (.dict (bF D) (gy D))) (by exact Nx (NV _ _) y);rw[ax] at l;refine O (aa (Ao Z _) ?_);refine aa (Ao L _) (aa l ?_);exact G
 exact key items hk _ 0 [] Nm rfl (Og _) (by exact NA _) (by(decide)) (by simpa using J) q
end
noncomputable def dK(L:Ni (Nu×Nu)):Ni Nu:=L.flatMap λx=>[x.1,x.2]
noncomputable def mk(dict:NF):Ni Nu:=if dict then[60,60] else[91]
abbrev frO(dict:NF)(b:Nu):dQ:=.inst .frame [(.mark,.bytes (mk dict)),(.items,.ref b)]
noncomputable def te(H:ae):Ni Fr->Ni (Nu×Nu)->Prop
 |[],[]=>Sl
 |(dict,items)::fs,(x,b)::L=>H x=xV (frO dict b)/\H b=xV (.list items)/\te H fs L
 | _,_=>OH
def te.congr:∀{fs}{L},te H fs L->(∀x∈dK L,H' x=H x)->te H' fs L:=by
 intro g;induction g with
 |nil=>
  intro a;induction a with
  |nil=>intro _ _;exact trivial
  |cons _ _=>intro h _;exact h.elim
 |cons c fs f=>
  have d:=(c).1;have l:=(c).2;intro a;induction a using Nw with
  |nil=>intro h _;exact h.elim
  |cons i L=>obtain⟨x,b⟩:=i;intro h e;exact⟨by rw[e x (Ny)];exact h.1,by rw[e b ((NB _ Ny))];exact h.2.1,f h.2.2 λy j=>e y (by simp only[dK,OC,Of];exact .inr j)⟩
def te.len:∀{fs}{L},te H fs L->L.length=fs.length:=by
 intro g;induction g with
 |nil=>
  intro a;induction a with
  |nil=>intro _;exact rfl
  |cons _ _=>intro h;exact h.elim
 |cons c fs e=>
  have d:=(c).1;have l:=(c).2;intro a;induction a using Nw with
  |nil=>intro h;exact h.elim
  |cons f L=>have x:=(f).1;have b:=(f).2;intro h;simp only[Nn];rw[(e h.2.2)];rfl
noncomputable def ew(L:Ni (Nu×Nu)):Ni V:=(L.map λx=>V.ref x.1).reverse
structure Inv(H0 H:ae)(F c:Nu)(d:Ni Nu)(k:Nu)(fs:Ni Fr)(L:Ni (Nu×Nu)):Prop where
 old:∀b o,H0 b=xV o->b≠c->H b=xV o
 cu:H c=xV (cO d k)
 fl:H F=xV (.list (ew L))
 rep:te H fs L
 nd:(F::c::dK L).Nodup
 fr:H0 F=Nm/\∀x∈dK L,H0 x=Nm
section
variable {H0 H:ae}{F c k k':Nu}{d r:Ni Nu}{fs:Ni Fr}{L:Ni (Nu×Nu)}{n a:Nu}{Q:av}{X:Prop}
def Inv.le(i:Inv H0 H F c d k fs L):ae.le (H0.set c (cO d k)) H:=λb o e=>by
 by_cases h:b=c
 ·subst h;rw[aj] at e;injection e with e;subst e;exact i.cu
 ·rw[aP h] at e;exact i.old b o e h
def Inv.setCur(i:Inv H0 H F c d k fs L):Inv H0 (H.set c (cO d k')) F c d k' fs L:=by haveI a:=i.nd;simp only[Ow,NH,Pl] at a;refine⟨λb o e h=>by rw[aP h];exact i.old b o e h,aj _ _ _,by rw[aP a.1.1];exact i.fl,i.rep.congr λx f=>aP λe=>a.2.1 (e▸f),i.nd,i.fr⟩
def Inv.setItems(i:Inv H0 H F c d k ((dict,items)::fs) ((x,b)::L)):Inv H0 (H.set b (.list items')) F c d k ((dict,items')::fs) ((x,b)::L):=by haveI f:=i.nd;simp only[dK,OC,OS,OX,Ow,NH,Pl] at f;haveI j:=i.fr.2 b ((NB _ Ny));refine⟨λy o e h=>by rw[aP (by rintro rfl;replace e:=(j)▸e;contradiction)];exact i.old y o e h,by rw[aP (((Oq f.2.1.2.1).elim (λa=>nG [R0 (S1 V0) V1] (R3 V0 V1) rfl a) λa=>nG [R0 (S1 V1) V0] (R2 V0 V1) rfl a))];exact i.cu,by rw[aP (((Oq f.1.2.2.1).elim (λa=>nG [R0 (S1 V0) V1] (R3 V0 V1) rfl a) λa=>nG [R0 (S1 V1) V0] (R2 V0 V1) rfl a))];exact i.fl,⟨by rw[aP (((Oq f.2.2.1.1).elim (λa=>nG [R0 (S1 V0) V1] (R3 V0 V1) rfl a) λa=>nG [R0 (S1 V1) V0] (R2 V0 V1) rfl a))];exact i.rep.1,aj _ _ _,i.rep.2.2.congr λy g=>aP λe=>f.2.2.2.1 (e▸g)⟩,i.nd,i.fr⟩
def gn:y∈dK ((x,b)::L)↔y=x\/y=b\/y∈dK L:=by simp only[dK,OC,OS,OX,NH]
def te.Ks:∀{fs}{L},te H fs L->∀y∈dK L,∃o,H y=xV o:=by
 intro i;induction i with
 |nil=>
  intro a;induction a with
  |nil=>intro _ _ h;simp[dK] at h
  |cons _ _=>intro h _ _;exact h.elim
 |cons c fs f=>
  have d:=(c).1;have l:=(c).2;intro a;induction a using Nw with
  |nil=>intro h _ _;exact h.elim
  |cons g L=>
   have x:=(g).1;have b:=(g).2;intro h y j;rcases gn.mp j with e|e|e
   ·subst e;exact⟨_,h.1⟩
   ·rw[e];exact⟨_,h.2.1⟩
   ·exact f h.2.2 y e
def Inv.push(i:Inv H0 H F c d k fs L)(hx:H x=Nm)(q:H b=Nm)(n:b≠x)(p:∀y,H' y=if y=F then xV (.list (ew L++[.ref x])) else if y=x then xV (frO dict b) else if y=b then xV (.list []) else H y):Inv H0 H' F c d k ((dict,[])::fs) ((x,b)::L):=by
 haveI m:=i.nd;haveI j:=cc i.fl hx;haveI hfb:=cc i.fl q;haveI f:=cc i.cu hx;haveI a:=cc i.cu q;have l:x∉dK L:=λh=>by refine X1 (i.rep.Ks x h) ?_;intro o e;replace e:=(hx)▸e;exact nomatch e
 have hLb:b∉dK L:=λh=>by refine X1 (i.rep.Ks b h) ?_;intro o e;replace e:=(q)▸e;exact nomatch e
 have r:F∉dK L:=λh=>by simp only[Ow,NH,Pl] at m;exact m.1.2 h
 have hFc:F≠c:=λh=>by simp only[Ow,NH,Pl] at m;exact m.1.1 h
 have h0:∀y,H y=Nm->y≠c->H0 y=Nm:=λy g hc=>by
  induction e:H0 y with
  |none=>rfl
  |some o=>have:=i.old y o e hc;replace this:=(g)▸this;contradiction
 refine⟨λy o e h=>?_,?_,?_,⟨?_,?_,i.rep.congr λy g=>?_⟩,?_,i.fr.1,λy g=>?_⟩
 ·rw[p];rw[Nl (by rintro rfl;replace e:=(i.fr.1)▸e;exact(by contradiction))];rw[Nl (by rintro rfl;replace e:=(h0 _ hx f)▸e;exact nomatch e)];rw[Nl (by rintro rfl;replace e:=(h0 _ q a)▸e;exact nomatch e)]
  exact i.old y o e h
 ·rw[p];rw[Nl (OG hFc)];rw[Nl (OG f)];rw[Nl (OG a)];exact i.cu
 ·rw[p];rw[Np rfl];unfold ew;rw[N3];rw[Xe];rfl
 ·rw[p];rw[Nl j];rw[Np rfl];rfl
 ·rw[p];rw[Nl hfb];rw[Nl n];rw[Np rfl];rfl
 ·rw[p];rw[Nl (by rintro rfl;exact r g)];rw[Nl (by rintro rfl;exact l g)];rw[Nl (by rintro rfl;exact hLb g)];rfl
 ·simp only[dK,OC,OS,OX,Ow,NH,Pl] at m ⊢
  exact⟨⟨hFc,OG j,OG hfb,r⟩,⟨OG f,OG a,m.2.1⟩,⟨OG n,l⟩,hLb,m.2.2⟩
 ·rcases gn.mp g with e|e|e
  ·clear n p j l g;subst e;exact h0 _ hx f
  ·induction e;exact h0 _ q a
  ·exact i.fr.2 y e
def Inv.pop(i:Inv H0 H F c d k ((dict,items)::fs) ((x,b)::L))(j:∀y,y≠x->y≠b->H' y=if y=F then xV (.list (ew L)) else H y):Inv H0 H' F c d k fs L:=by
 haveI f:=i.nd;simp only[dK,OC,OS,OX,Ow,NH,Pl] at f;haveI l:=i.fr.2 x (gn.mpr (.inl rfl));haveI m:=i.fr.2 b (gn.mpr (.inr (.inl rfl)));refine⟨λy o e h=>?_,?_,?_,i.rep.2.2.congr λy g=>?_,?_,i.fr.1,λy g=>i.fr.2 y (gn.mpr (.inr (.inr g)))⟩
 ·rw[j y (by rintro rfl;replace e:=(l)▸e;exact nomatch e) (by rintro rfl;replace e:=(m)▸e;exact nomatch e)];rw[Nl (by rintro rfl;replace e:=(i.fr.1)▸e;exact nomatch e)]
  exact i.old y o e h
 ·rw[j c (((Oq f.2.1.1).elim (λa=>nG [R0 (S1 V0) V1] (R3 V0 V1) rfl a) λa=>nG [R0 (S1 V1) V0] (R2 V0 V1) rfl a)) (((Oq f.2.1.2.1).elim (λa=>nG [R0 (S1 V0) V1] (R3 V0 V1) rfl a) λa=>nG [R0 (S1 V1) V0] (R2 V0 V1) rfl a))];rw[Nl (((Oq f.1.1).elim (λa=>nG [R0 (S1 V1) V0] (R2 V0 V1) rfl a) λa=>nG [R0 (S1 V0) V1] (R3 V0 V1) rfl a))];exact i.cu
 ·rw[j F (((Oq f.1.2.1).elim (λa=>nG [R0 (S1 V0) V1] (R3 V0 V1) rfl a) λa=>nG [R0 (S1 V1) V0] (R2 V0 V1) rfl a)) (((Oq f.1.2.2.1).elim (λa=>nG [R0 (S1 V0) V1] (R3 V0 V1) rfl a) λa=>nG [R0 (S1 V1) V0] (R2 V0 V1) rfl a))];rw[Np rfl];rfl
 ·rw[j y (λe=>f.2.2.1.2 (e▸g)) (λe=>f.2.2.2.1 (e▸g))];rw[Nl (λe=>f.1.2.2.2 (e▸g):y≠F)];rfl
 ·simp only[Ow,NH,Pl]
  exact⟨⟨f.1.1,f.1.2.2.2⟩,f.2.1.2.2,f.2.2.2.2⟩
def yH{tk:Tok}(q:Q (.bool (decide (tk=.sign s))) H):call (n+1) 57 [tk.v i,.bytes s] H Q X:=by
 refine ag (ρ:=[xV (tk.v i),xV (.bytes s)]) rfl rfl rfl ?_;induction tk with
 |sign b=>
  haveI e:(b==s)=decide (Tok.sign b=Tok.sign s):=by rw[Pz];rw[N8];rw[Tok.sign.injEq];rw[Ob];rfl
  exact af (kZ e q)
 | _=>exact af q
def yX{x b:Nu}(h:H x=xV (.inst .frame [(.mark,.bytes (mk dict)),(.items,v)])):
  IK (.ref x) H=xV .frame/\pJ (.ref x) .mark H=xV (.bytes (mk dict))/\pJ (.ref x) .items H=xV v:=by
 refine⟨NN Fn h,by rw[sC h rfl];rfl,by rw[sC h rfl];rfl⟩
def lk(a:H x=xV (.inst .frame [(.mark,.bytes (mk dict)),(.items,v)]))(d:cp .len [v] H=xV (.int items.length))(q:Q (.bool (aQ [(dict,items)])) H):call (n+1) 59 [.ref x] H Q X:=by
 refine ag (ρ:=[xV (.ref x)]) rfl rfl rfl (A3 (yX (b:=0) a) ?_);intro _ c f;refine aa c ?_;clear a c;induction dict with
 |false=>exact af q
 |true=>
  have e:((items.length:N6).fmod 2==0)=aQ [(Nk,items)]:=by rw[show(2:N6)=((2:Nu):N6) from rfl];rw[Af];refine(?_:_=(items.length % 2==0));rw[Pz];rw[Ob];rw[Ob];exact Pg
  refine aa f (aa d ?_);exact af (kZ e q)
end
noncomputable def Du(dict:NF):Ni Nu:=if dict then[62,62] else[93]
def xq(x:Nt (V×Ni Fr))(X:Prop)(K:V->Ni Fr->Prop):Prop:=match x with|none=>X|some p=>K p.1 p.2
section
variable {H0 H:ae}{F c k k':Nu}{d r:Ni Nu}{fs:Ni Fr}{L:Ni (Nu×Nu)}{n a:Nu}{Q:av}{X:Prop}
def nT(h:H F=xV (.list l)):jg .eq (.ref F) (.lst []) H=xV l.isEmpty:=by refine(?_:(hL (H F) xV).map _=_);rw[h];rfl
def AA(h:H F=xV (.list l)):jg .ne (.ref F) (.lst []) H=xV (!l.isEmpty):=by refine(?_:((hL (H F) xV).map _).map _=_);rw[h];rfl
def pN(h:H F=xV (.list (l++[v]))):gQ (.ref F) (.int (-1)) H=xV v:=by
 refine(?_:Ee (H F) _=_);rw[h];refine(?_:uZ _ _=_);unfold uZ ik ft;rw[Np (by simp;exact⟨zI [_] [] [] K1 (S1 (zu V0)) [1] rfl,zI [_] [] [] (S1 (zn K1)) (S1 (zu V0)) [1] rfl⟩)];haveI:(-1+((l++[v]).length:N6)).toNat=l.length:=by simp only[Nv,Nn,NL];lia
 rw[this];simp
def ma:ew ((x,b)::L)=ew L++[.ref x]:=by unfold ew;rw[N3];rw[Xe];rfl
def k8:(ew L).length=L.length:=by unfold ew;simp
def y4(h:H F=xV (.list (l++[v])))(b:(l++[v]).length<=lim):cT .pop (.ref F) [] H=xV (v,H.set F (.list l)):=by
 haveI c:(l++[v]).getLast?=xV v:=by simp
 haveI a:(l++[v]).dropLast=l:=by simp
 refine(?_:hL (H F) _=_);rw[h];refine(?_:(l++[v]).getLast?.bind _=_);rw[c];refine(?_:(if(l++[v]).length<=lim then xV (v,H.set F (.list (l++[v]).dropLast)) else Nm)=_);rw[a];exact Np b
def Inv.lR(i:Inv H0 H F c d k ((dict,items)::fs) L):∃x b a,L=(x,b)::a:=by
 induction L using Nw with
 |nil=>exact i.rep.elim
 |cons y L=>exact⟨y.1,y.2,L,rfl⟩
def Lv{c}{fs}(h:H p=xV (.inst c fs))(a:ji f fs=xV v)(d:eJ v H=xV (v',H'))(b:H' p=xV o)(q:N ρ (H'.set p (.inst c (eT f v' fs)))):kFA f p ρ H N:=by refine(?_:eY (yD (H p)) _);rw[h];refine(?_:eY (ji f fs) _);rw[a];refine(?_:eY (eJ v H) _);rw[d];refine(?_:eY (H' p) _);rw[b];exact q
def oU(i:Inv H0 H F c d k fs L)(g:JN fs)(u:∀f∈fs,f.2.length<=1000)(w:fs.length<=1000)(q:xq (gL fs dict) X λv E=>∀H' J,Inv H0 H' F c d k E J->Q v H'):call (n+2) 65 [.ref F,.bytes (Du dict),.int j] H Q X:=by
 refine ag (ρ:=[xV (.ref F),xV (.bytes (Du dict)),xV (.int j),Nm,Nm]) rfl rfl rfl (ak λW m=>?_);haveI p:W [xV (.ref F),xV (.bytes (Du dict)),xV (.int j),xV (.bytes (mk dict)),Nm] H->eW (call (n+1)) (.asg 3 (.ite (.cmp .eq (.loc 1) (.lit (.bytes [93]))) (.lit (.bytes [91])) (.lit (.bytes [60,60])))) [xV (.ref F),xV (.bytes (Du dict)),xV (.int j),Nm,Nm] H W (gk Q) noK X:=by
  intro h;clear q;induction dict with
  |true=>exact h
  |false=>exact h
 refine p (m (ak λW m=>?_));haveI a:=i.fl;cases fs with
 |nil=>obtain rfl:L=[]:=OI i.rep.len;exact aa (nT i.fl) q
 |cons f fs=>
  obtain⟨kd,items⟩:=f;refine X3 i.lR λx b L D=>?_;subst D;replace a:=(ma)▸a;haveI A:=i.nd;simp only[dK,OC,OS,OX,Ow,NH,Pl] at A;haveI G:(ew L++[V.ref x]).length<=lim:=by haveI:=i.rep.len;dsimp only[Nn] at this w;rw[Nv];rw[k8];unfold lim;dsimp only[Nn,NL];exact cj [R0 (S1 V1) (zc 1000),R2 (S1 V0) (S1 V1)] (zp V0 (S1 K0)) (zc 16000000) rfl w this
  haveI t:=nT a;replace t:=(by simp:(ew L++[V.ref x]).isEmpty=Nr)▸t;haveI s:(H.set F (.list (ew L))) x=xV (frO kd b):=by rw[aP (((Oq A.1.2.1).elim (λe=>nG [R0 (S1 V1) V0] (R2 V0 V1) rfl e) λe=>nG [R0 (S1 V0) V1] (R3 V0 V1) rfl e))];exact i.rep.1
  haveI z:(H.set F (.list (ew L))) b=xV (.list items):=by rw[aP (((Oq A.1.2.2.1).elim (λe=>nG [R0 (S1 V1) V0] (R2 V0 V1) rfl e) λe=>nG [R0 (S1 V0) V1] (R3 V0 V1) rfl e))];exact i.rep.2.1
  refine aa t (aa (pN a) ?_);refine aa (yX (b:=0) i.rep.1).2.1 ?_;haveI q:xq (if kd=dict then(if dict then(if eI items then xV (hU items,fs) else Nm) else xV (.lst items,fs)) else Nm) X _:=q;refine(NG (kd=dict)).elim (λhk=>?_) (λhk=>?_)
  ·replace q:=(Np hk)▸q
   refine fQ (by rw[hk];rw[OJ];rfl) (m (ak λW m=>⟨by refine(?_:yF (H F)=Nk);rw[a];rfl,?_⟩));refine aa (y4 a G) ?_;haveI Lb:((H.set F (.list (ew L))).erase b) x=xV (frO kd b):=by refine(?_:(if x=b then Nm else _)=_);rw[Nl (A.2.2.1.1)];exact s
   haveI r:Inv H0 (((H.set F (.list (ew L))).erase b).set x (.inst .frame [(.mark,.bytes (mk kd)),(.items,.lst items)])) F c d k fs L:=i.pop λy I C=>by refine(?_:(if y=x then _ else if y=b then Nm else if y=F then xV (dQ.list (ew L)) else H y)=_);rw[Nl I];rw[Nl C];rfl
   haveI o:=aj ((H.set F (.list (ew L))).erase b) x (.inst .frame [(.mark,.bytes (mk kd)),(.items,.lst items)]);haveI fz:eJ (.ref b) (H.set F (.list (ew L)))=xV (.lst items,(H.set F (.list (ew L))).erase b):=by refine(?_:BU (H.set F (.list (ew L)) b) b _=_);rw[z];rfl
   refine m (ak λW m=>?_);refine Lv s rfl fz Lb (m ?_);refine(?_:eW (call (n+1)) _ _ (((H.set F (.list (ew L))).erase b).set x (.inst .frame [(.mark,.bytes (mk kd)),(.items,.lst items)])) _ _ _ _);generalize((H.set F (.list (ew L))).erase b).set x (.inst .frame [(.mark,.bytes (mk kd)),(.items,.lst items)])=B at r o ⊢;clear fz Lb s z m t A;clear p;subst hk;clear w i;induction kd with
   |false=>exact aa (yX (b:=0) o).2.2 (af (q B L r))
   |true=>
    refine ak λW m=>m (ak λW m=>aa (yX (b:=0) o).1 ?_);refine lk (v:=.lst items) o rfl ?_;haveI q:xq (if eI items then xV (hU items,fs) else Nm) X _:=q;refine(?_:kTv _ (.bool (eI items)) B);induction he:eI items with
    |false=>replace q:=(he)▸q;exact q
    |true=>replace q:=(he)▸q;refine m (aa (yX (b:=0) o).2.2 ?_);exact yj ((g.1).kd he) (u (Nk,items) (Ny ..)) (af (q B L r))
  ·replace q:=(Nl hk)▸q
   haveI hm:mk kd≠mk dict:=by clear g u w i s;induction kd<;>induction dict<;>first|exact NK rfl hk|decide
   exact fx (by rw[OE hm];rfl) q
end
theorem PL.inv(p:PL fs tk r res):match cY fs tk r with
  |none=>res=Nm
  |some (.done v r')=>res=xV (v,r')
  |some (.more fs' r')=>match bG r' with
   |none=>res=Nm
   |some (tk',r'')=>PL fs' tk' r'' res:=by
 induction p with
 |bad h=>rw[h];rfl
 |done h=>rw[h];rfl
 |jN h l=>rw[h];simp only[l]
 |more h l p=>rw[h];simp only[l];exact p
section
variable {H0 H:ae}{F c k k':Nu}{d r:Ni Nu}{fs:Ni Fr}{L:Ni (Nu×Nu)}{n a:Nu}{Q:av}{X:Prop}
noncomputable def uh(tk:Tok):NF:=decide (tk=.sign [91]\/tk=.sign [60,60])
def HT(b)(H):jg .ud (.bytes b) (.tup [.bytes [91],.bytes [60,60]]) H=xV (decide (b=[91]\/b=[60,60])):=by
 refine(?_:xV (([91]==b)||(([60,60]==b)||false))=_)
 congr 1
 rw[Pz];simp only[PV,Ob,UU,N8];exact Us Sr Sr
def Ld(b)(H):jg .ud (.bytes b) (.tup [.bytes [93],.bytes [62,62]]) H=xV (decide (b=[93]\/b=[62,62])):=by
 refine(?_:xV (([93]==b)||(([62,62]==b)||false))=_)
 congr 1
 rw[Pz];simp only[PV,Ob,UU,N8];exact Us Sr Sr
noncomputable def p8(tk:Tok)(r:Ni Nu):Nu:=r.length+if tk=.fin then 0 else 1
def uP:∀fs,fs.length<=rV fs/\∀f∈fs,f.2.length<=rV fs:=by
 intro b;induction b with
 |nil=>exact⟨NA _,λ_ h=>by cases h⟩
 |cons f fs a=>
  refine A2 a ?_;clear a;intro i d;have e:rV (f::fs)=1+f.2.length+rV fs:=by unfold rV;rw[N3];rw[Vk];rfl
  refine⟨by rw[e];rw[Nn];exact cR [R0 V0 V2] (S1 V0) (zp (zp K1 V1) V2) rfl i,λg c=>?_⟩;refine ND (NH.mp c) (λq=>?_) (λq=>?_)
  ·rw[q];rw[e];exact adQ
  ·haveI:=d g q;rw[e];exact Nj this (O7 _ _)
noncomputable def As(tk:Tok):NF:=decide (tk=.sign [93]\/tk=.sign [62,62])
def ID(h:W [xV (.ref c),xV (tk.v i),xV (.bool Nk),xV (.ref F),xV (.str tk.kind),xV tk.worth,xV (.int i),xV (.bool (uh tk)),o8] H):
  eW C (.asg 7 (.and (.cons (.cmp .eq (.loc 4) (.lit (.str [115,105,103,110]))) (.cons (.cmp .ud (.loc 5) (.tup (.cons (.lit (.bytes [91])) (.cons (.lit (.bytes [60,60])) .nil)))) .nil))))
   [xV (.ref c),xV (tk.v i),xV (.bool Nk),xV (.ref F),xV (.str tk.kind),xV tk.worth,xV (.int i),o7,o8] H W R K X:=by
 induction tk with
 |sign b=>
  haveI e:=N1 (HT b H);haveI a:uh (.sign b)=decide (b=[91]\/b=[60,60]):=by unfold uh;simp only[Tok.sign.injEq]
  rw[a,<- e] at h;exact h
 | _=>exact h
def Fe{Q}(d:tk.worth=w)(h:Q (As tk) H):
  rY C (.and (.cons (.cmp .eq (.loc 4) (.lit (.str [115,105,103,110]))) (.cons (.cmp .ud (.loc 5) (.tup (.cons (.lit (.bytes [93])) (.cons (.lit (.bytes [62,62])) .nil)))) .nil)))
   [xV (.ref c),xV (tk.v i),xV (.bool Nk),xV (.ref F),xV (.str tk.kind),xV w,xV (.int i),o7,o8] H Q X:=by
 subst d;induction tk with
 |sign b=>
  haveI e:=N1 (Ld b H);haveI f:As (.sign b)=decide (b=[93]\/b=[62,62]):=by unfold As;simp only[Tok.sign.injEq]
  rw[f] at h;induction a:decide (b=[93]\/b=[62,62]) with
  |true=>rw[a] at h e;exact fx e h
  |false=>rw[a] at h e;exact fQ e h
 | _=>exact h
def LR(inv:Inv H0 H F c d k fs L)(o:∀f∈fs,f.2.length<=1000)(q:aQ fs=Nk/\eB tk=Nr/\tk≠.sign [62,62]->X)(h:¬ (aQ fs=Nk/\eB tk=Nr/\tk≠.sign [62,62])->W [xV (.ref c),xV (tk.v i),xV (.bool Nk),xV (.ref F),xV (.str tk.kind),xV tk.worth,xV (.int i),o7,o8] H):
  eW (call (n+6)) (.ite (.and (.cons (.cmp .ne (.loc 3) (.eN .nil)) (.cons (.tv (.bM 10 (.idx (.loc 3) (.neg (.lit (.int 1)))) .nil)) (.cons (.cmp .ne (.loc 4) (.lit (.str [110,97,109,101]))) (.cons (.not (.tv (.call 57 (.cons (.loc 1) (.cons (.lit (.bytes [62,62])) .nil))))) .nil))))) (.fault (.loc 6)) .skip)
   [xV (.ref c),xV (tk.v i),xV (.bool Nk),xV (.ref F),xV (.str tk.kind),xV tk.worth,xV (.int i),o7,o8] H W R K X:=by
 cases fs with
 |nil=>obtain rfl:L=[]:=OI inv.rep.len;exact aa (AA inv.fl) (h λz=>Oh z.1)
 |cons f fs=>
  obtain⟨kd,items⟩:=f;refine X3 inv.lR λx b L m=>?_;subst m;haveI a:=inv.fl;replace a:=(ma)▸a;haveI j:=AA a;rw[show(ew L++[V.ref x]).isEmpty=Nr by simp] at j;rw[ml] at q h;refine aa j (aa (pN a) ?_);refine aa (yX (b:=0) inv.rep.1).1 (lk inv.rep.1 (sL inv.rep.2.1 (Nx (o (kd,items) (Ny ..)) (by decide))).2.2.2.2 ?_);induction r:aQ [(kd,items)] with
  |false=>rw[r] at h;exact h λz=>Oh z.1
  |true=>
   induction p:eB tk with
   |true=>
    have hk:tk.kind=[110,97,109,101]:=by cases tk<;>first|rfl|contradiction
    rw[p] at h;exact fQ (by rw[hk];rfl) (h λz=>Oh z.2.1)
   |false=>
    haveI hk:tk.kind≠[110,97,109,101]:=by cases tk<;>first|exact Oh p|exact λe=>NK (XN.inj e).1 (by decide)
    refine fx (by rw[OE hk];rfl) (yH ?_);by_cases g:tk=.sign [62,62]
    ·exact zP g (h λz=>z.2.2 g)
    ·exact JS g (q ⟨r,p,g⟩)
def LU{p o o2 q r n m}(inv:Inv H0 H F c d k fs L)(i:∀f∈fs,f.2.length<=1000)(s:fs=[]->R v H)(u:∀kd items h x b t,fs=(kd,items)::h->L=(x,b)::t->W [p,o,o2,xV (.ref F),q,r,n,m,xV v] (H.set b (.list (items++[v])))):
  eW C (.seq (.ite (.cmp .eq (.loc 3) (.eN .nil)) (.ret (.loc 8)) .skip) (.exp (.aH .append (.attr (.idx (.loc 3) (.neg (.lit (.int 1)))) .items) (.cons (.loc 8) .nil))))
   [p,o,o2,xV (.ref F),q,r,n,m,xV v] H W R K X:=by
 cases fs with
 |nil=>obtain rfl:L=[]:=OI inv.rep.len;exact aa (nT inv.fl) (s rfl)
 |cons f fs=>obtain⟨kd,items⟩:=f;refine X3 inv.lR λx b L g=>?_;subst g;haveI a:=inv.fl;replace a:=(ma)▸a;haveI e:=nT a;rw[show(ew L++[V.ref x]).isEmpty=Nr by simp] at e;haveI j:=sL inv.rep.2.1 (Nx (i (kd,items) (Ny ..)) (by decide));refine aa e (aa (pN a) ?_);refine aa (yX (b:=0) inv.rep.1).2.2 ⟨j.1,?_⟩;exact aa (j.2.1 v) (u kd items fs x b L rfl rfl)
def qg{i}(hf:ir r)(hdl:d.length<=900)(ha:H c=xV (cO d k))(hs:bY d k r)(p:PL [] tk r res)(q:lp res X λv Z=>∀k',bY d k' Z->Q v (H.set c (cO d k'))):call (n+7) 66 [.ref c,tk.v i] H Q X:=by
 refine ag (ρ:=[xV (.ref c),xV (tk.v i),xV (.bool Nk),Nm,Nm,Nm,Nm,Nm,Nm]) rfl rfl rfl λF hF=>?_;haveI hFc:=cc ha hF;have W:d.length<=1000:=Nj hdl (by decide);refine(?_:eW (call (n+6)) _ [xV (.ref c),xV (tk.v i),xV (.bool Nk),xV (.ref F),Nm,Nm,Nm,Nm,Nm] (H.set F (.list [])) _ _ _ _);refine eM λT B N hT hB hN=>⟨p8 tk r+1,?_⟩;have key:∀m fs tk r k L H' i o4 o5 o6 J Y,PL fs tk r res->p8 tk r<m->Inv H H' F c d k fs L->JN fs->rV fs+p8 tk r<=1000->bY d k r->ir r ->
   gz T B m [xV (.ref c),xV (tk.v i),xV (.bool Nk),xV (.ref F),o4,o5,o6,J,Y] H' N:=by
  intro m;induction m with
  |zero=>intro fs tk r k L H' i o4 o5 o6 J Y _ h;exact NK h (O1 _)
  |succ m ih=>
  intro fs tk r k L H' i o4 o5 o6 J Y p hm inv g u hs hf;have f7:=(uP fs).1;have tl2:=(uP fs).2;haveI tl3:∀f∈fs,f.2.length<=1000:=λf h=>by haveI:=tl2 f h;exact aaq u this
  haveI t:=p.inv;refine hT (hB ?_);refine(?_:eW (call (n+6)) _ [xV (.ref c),xV (tk.v i),xV (.bool Nk),xV (.ref F),xV (.str tk.kind),xV tk.worth,xV (.int i),J,Y] H' _ _ _ _);refine ak λW2 hW2=>ID (hW2 (ak λW3 hW3=>LR inv tl3 (λhg=>?_) λhg=>hW3 (ak λW4 hW4=>?_)))
  ·rw[show cY fs tk r=Nm from Np hg] at t
   clear p ih;clear p;subst t;exact q
  haveI kd:=ja fs tk r;generalize G:tk.worth=w;have XO:∀E Z k' L' O J Y,cY fs tk r=xV (.more E Z)->Inv H O F c d k' E L'->bY d k' Z ->
    W4 [xV (.ref c),xV (tk.v i),xV (.bool Nk),xV (.ref F),xV (.str tk.kind),xV w,xV (.int i),J,Y] O:=by
   intro E Z k' L' O J Y e s M;refine A4 (n9 g e) λg1 g2 g3 g4=>?_;rw[e] at t;refine hW4 (ju (hf.sub g3) W s.cu M ?_);have t:match bG Z with|none=>res=Nm|some (tk',r'')=>PL E tk' r'' res:=t
   induction C:bG Z with
   |none=>rw[C] at t;replace q:=(t:res=Nm)▸q;exact q
   |some y=>
    replace t:=(C)▸t;refine A2 (bl (λc hc=>(hf.sub g3 c hc).2.1) C) λx1 x2=>?_;intro k2 hk2 i2;haveI hg3:=g3.length_le;haveI hx1:=x1.length_le;haveI hm2:p8 y.1 y.2<p8 tk r:=by
     unfold p8;rw[Nl g4];refine(NG (y.1=.fin)).elim (λU=>?_) (λU=>?_)
     ·lia
     ·haveI:=x2 U;lia
    exact ih E y.1 y.2 k2 L' _ i2 _ _ _ _ _ t (aar hm hm2) s.setCur g1 (gb [R0 (zp V2 V3) (zc 1000),R0 V0 (S1 V2),R0 (S1 V1) V3] (zp V0 V1) (zc 1000) rfl u g2 hm2) hk2 ((hf.sub g3).sub x1)
  have j:∀v I r1 k1 L1 O J,cY fs tk r=xV (fJ v r1 I)->Inv H O F c d k1 I L1->bY d k1 r1->rV I<=1000 ->
    eW (call (n+6)) (.seq (.ite (.cmp .eq (.loc 3) (.eN .nil)) (.ret (.loc 8)) .skip) (.exp (.aH .append (.attr (.idx (.loc 3) (.neg (.lit (.int 1)))) .items) (.cons (.loc 8) .nil))))
     [xV (.ref c),xV (tk.v i),xV (.bool Nk),xV (.ref F),xV (.str tk.kind),xV w,xV (.int i),J,xV v] O W4 (gk Q) (fun ρ H=>gz T B m ρ H N) X:=by
   intro v I r1 k1 L1 O J e s M ht2;refine LU s (λf h=>Nj ((uP I).2 f h) ht2) (λe1=>?_) λkd items E x b L' e1 e2=>?_
   ·replace e:=(e1)▸e
    replace t:=(e)▸t;rw[show res=xV (v,r1) from t] at q;exact⟨_,s.le,q k1 M⟩
   ·rw[e1] at e
    rw[e1,e2] at s;exact XO _ r1 k1 _ _ J (xV v) e s.setItems M
  clear hW4 ih;haveI P:(ew L).length<lim:=by rw[k8];rw[inv.rep.len];unfold lim;exact Nx f7 (Nx (Nj (NV _ _) u) (by decide))
  generalize K:cY fs tk r=st at kd t XO j;induction kd with
  |key h1 h2 h3=>exact NK ⟨h1,h2,h3⟩ hg
  |deep dd A hw hl=>rw[show res=Nm from t] at q;refine fx (by rw[A];clear A;induction dd<;>rfl) ?_;refine ak λW5 D=>aa (sL inv.fl P).2.2.2.2 ?_;exact cD (by rw[k8];rw[inv.rep.len];rw[hl];rfl) q
  |opens dd A hw hl=>
   obtain rfl:.bytes (mk dd)=w:=by refine bB (NU G) ?_;rw[A];clear K t j;induction dd<;>rfl
   refine fx (by rw[A];clear A K t G j;induction dd<;>rfl) ?_;refine ak λW5 D=>aa (sL inv.fl P).2.2.2.2 ?_;refine bp (by rw[k8];rw[inv.rep.len];exact adP hl) (D ⟨(sL inv.fl P).1,λx C=>?_⟩);haveI hFx:=OG (cc inv.fl C);refine rH (aj _ x _) λb hb=>?_;have hbx:b≠x:=λe=>by rw[e,aj] at hb;injection hb
   replace hb:=(aP hbx)▸hb;haveI hFb:=OG (cc inv.fl hb);haveI hF3:(((H'.set x (.inst .frame [])).set b (.list [])).set x (.inst .frame [(.mark,.bytes (mk dd)),(.items,.ref b)])) F=xV (.list (ew L)):=by rw[aP hFx];rw[aP hFb];rw[aP hFx];exact inv.fl
   refine yQ rfl (aa ((sL hF3 P).2.1 _) ?_);refine XO ((dd,[])::fs) r k ((x,b)::L) _ _ _ rfl (inv.push C hb hbx λy=>?_) hs;refine(?_:(if y=F then _ else if y=x then _ else if y=b then _ else if y=x then _ else H' y)=_);by_cases y1:y=F
   ·rw[Np y1];rw[Np y1];rfl
   ·by_cases y2:y=x
    ·rw[Np y2];rw[Np y2];rfl
    ·rw[Nl y2];rw[Nl y2]
     by_cases y3:y=b
     ·rw[Np y3];rw[Nl y2];rfl
     ·rw[Nl y3];rw[Nl y2];rfl
  |close dd A hw=>
   obtain rfl:.bytes (Du dd)=w:=by refine bB (NU G) ?_;rw[A];clear hw K XO;induction dd<;>rfl
   refine fQ (by rw[A];clear hw K XO;induction dd<;>rfl) (ak λW5 D=>Fe G ?_);refine fx (by rw[A];clear A hw K G XO;induction dd<;>rfl) ?_;refine oU inv g tl3 (aaq u f7) ?_;induction C:gL fs dd with
   |none=>rw[C] at t;replace q:=(t:res=Nm)▸q;exact q
   |some y=>
    intro O L1 s;replace j:=(C)▸j;refine a9 (ix C) λl e _ _=>?_;refine D (j y.1 y.2 r k L1 O _ rfl s hs ?_);haveI e:rV fs=1+l.length+rV y.2:=by rw[e];unfold rV;rw[N3];rw[Vk];rfl
    exact gb [R0 (zp V1 V2) (zc 1000),R3 V1 (zp (zp K1 V3) V0)] V0 (zc 1000) rfl u e
  |plain A hw=>
   haveI hz:As tk=Nr:=N5 λz=>by rcases z with z|z<;>exact NK rfl (by first|exact(A _ z).2.1|exact(A _ z).2.2.2)
   haveI ho:uh tk=Nr:=N5 λz=>by rcases z with z|z<;>exact NK rfl (by first|exact(A _ z).1|exact(A _ z).2.2.1)
   refine fQ ho (ak λW5 D=>Fe G ?_);refine fQ hz (qw hf W inv.cu hs ?_);induction C:fX tk r with
   |none=>replace t:=(C)▸t;rw[show res=Nm from t] at q;exact q
   |some y=>intro k1 hk1;rw[C] at j;exact D (j y.1 fs y.2 k1 L _ _ rfl inv.setCur hk1 (by exact Nj (NV _ _) u))
 refine key _ [] tk r k [] (H.set F (.list [])) i Nm Nm Nm Nm Nm p (Oe _) ?_ trivial ?_ hs hf
 ·exact⟨λb o e h=>by rw[aP (by rintro rfl;rw[hF] at e;contradiction)];exact e,by rw[aP (OG hFc)];exact ha,aj _ _ _,trivial,by simp[dK,hFc],hF,λx C=>by simp[dK] at C⟩
 ·haveI:=hs.len;unfold p8 rV;simp only[SQ,Ni.sum_nil];split<;>lia
end
def PL.total:∀m fs tk r,p8 tk r<m->JN fs->(∀c∈r,c≠37)->∃b,PL fs tk r b:=by
 intro j;induction j with
 |zero=>intro _ _ _ h _ _;exact L43 h
 |succ m f=>
  intro fs tk r h g z;induction e:cY fs tk r with
  |none=>exact⟨_,.bad e⟩
  |some s=>
   induction s with
   |done v w=>exact⟨_,.done e⟩
   |more n w=>
    refine A4 (n9 g e) λB D t C=>?_;induction l:bG w with
    |none=>exact⟨_,.jN e l⟩
    |some y=>
     obtain⟨d,i⟩:=y;refine A2 (bl (λc o=>z c (t.subset o)) l) λx A=>?_;have k:=t.length_le;haveI u:=x.length_le;have q:p8 d i<p8 tk r:=by
      unfold p8;rw[Nl C];by_cases a:d=.fin
      ·rw[Np a];exact Pd (Nj u k)
      ·rw[Nl a];haveI:=A a;lia
     refine X1 (f n d i (aar h q) B λc o=>z c (t.subset (x.subset o))) λb p=>?_;exact⟨b,.more e l p⟩
def RV.total(t)(b:∀c∈t,c≠37):∃a,RV t a:=by
 induction l:bG t with
 |none=>exact⟨_,.jN l⟩
 |some y=>
  obtain⟨tk,r⟩:=y;have d:=(bl b l).1;refine X1 (PL.total _ [] tk r (Oe _) trivial λc e=>b c (d.subset e)) λa p=>?_;induction a with
  |none=>exact⟨_,.bad l p⟩
  |some z=>
   obtain⟨v,f⟩:=z;by_cases h:aE f=[]
   ·exact⟨_,.good l p h⟩
   ·exact⟨_,.rest l p h⟩
def PL.sfx(p:PL fs tk r res):∀v b,res=xV (v,b)->JN fs->(∀c∈r,c≠37)->b <:+ r:=by
 induction p with
 |bad h=>intro v b e;contradiction
 | @done fs tk r v b h=>
  intro B E e g _;cases e;have k:=ja fs tk r;replace k:=(h)▸k;generalize a:xV (Step.done v b)=s at k;induction k with
  |key _ _ _=>contradiction
  |deep _ _ _ _=>contradiction
  |opens _ _ _ _=>injection a with a;injection a
  |close d x y=>symm at a;rw[N2] at a;refine ah a ?_;clear a;intro f o m;refine f.casesOn λw A=>?_;refine A3 (jV m) λ_ _ i=>?_;rw[i];exact Qv _
  |plain x y=>symm at a;rw[N2] at a;refine ah a ?_;clear a;intro f o m;obtain⟨w,r1⟩:=f;refine A3 (jV m) λ_ _ i=>?_;simp only at i;rw[i];exact(jT o).1
 |jN h l=>intro v b e;contradiction
 |more h l p z=>intro v b e g t;refine A4 (n9 g h) λu D n C=>?_;have q:=(bl (λc j=>t c (n.subset j)) l).1;exact((z v b e u λc j=>t c (n.subset (q.subset j))).trans q).trans n
section
variable {H:ae}{c k k':Nu}{d r:Ni Nu}{n a:Nu}{Q:av}{X:Prop}
def qA(g:ir r)(a:d.length<=900)(h:H c=xV (cO d k))(o:bY d k r)(p:match bG r with|none=>res=Nm|some (tk,r1)=>PL [] tk r1 res)(q:lp res X λv m=>∀k',bY d k' m->Q v (H.set c (cO d k'))):call (n+8) 67 [.ref c] H Q X:=by
 refine ag (ρ:=[xV (.ref c)]) rfl rfl rfl (ju g (Nj a (by decide)) h o ?_);induction l:bG r with
 |none=>replace p:=(l)▸p;replace q:=(p:res=Nm)▸q;exact q
 |some y=>
  replace p:=(l)▸p;intro k1 f i;refine qg (g.sub (bl (λc j=>(g c j).2.1) l).1) a (aj _ _ _) f p ?_;clear p;induction res with
  |none=>exact q
  |some z=>exact λk2 e=>by rw[ax];exact af (q k2 e)
def m9(c:H a=xV (.inst .cursor []))(q:Q .none (H.set a (cO d 0))):call (n+1) 2 [.ref a,.bytes d] H Q X:=
 ag (ρ:=[xV (.ref a),xV (.bytes d),xV (.int 0),xV (.int (-1))]) rfl rfl rfl (aa (bD c rfl _) (aa (ia rfl _) (aa (ia rfl _) (af q))))
def jv(u:ir t)(A:t.length<=900)(D:RV t res)(q:match res with|none=>X|some v=>Q v H):call (n+9) 68 [.bytes t] H Q X:=by
 refine ag (ρ:=[xV (.bytes t),Nm,Nm]) rfl rfl rfl λc o=>?_;refine m9 (aj _ _ _) ?_;rw[ax];refine yQ rfl ?_;haveI m:∀{k},ae.le H (H.set c (cO t k)):=dh o;haveI d:∀c∈t,c≠37:=λc f=>(u c f).2.1;obtain⟨a,p,s⟩ : ∃a:Nt (V×Ni Nu),(match bG t with|none=>a=Nm|some (tk,r1)=>PL [] tk r1 a) /\
   (match a with|none=>X|some (v,r')=>r' <:+ t/\(aE r'=[]->Q v H)/\(aE r'≠[]->X)):=by
  induction D with
  |jN l=>exact⟨Nm,by rw[l];rfl,q⟩
  | @bad tk r l p=>exact⟨Nm,by rw[l];exact p,q⟩
  | @rest tk r v r' l p h=>have i:=(bl d l).1;exact⟨xV (v,r'),by rw[l];exact p,(p.sfx v r' rfl trivial λc f=>d c (i.subset f)).trans i,λe=>NK e h,λ_=>q⟩
  | @good tk r v r' l p h=>have i:=(bl d l).1;exact⟨xV (v,r'),by rw[l];exact p,(p.sfx v r' rfl trivial λc f=>d c (i.subset f)).trans i,λ_=>q,λe=>NK h e⟩
 refine qA u A (aj ..) ⟨OL _,rfl⟩ p ?_;clear p;induction a with
 |none=>exact s
 |some z=>
  refine A3 s ?_;clear s;intro C w B;intro k1 j;rw[ax];refine X1 (j.of (aV z.2)) λk2 g=>?_;refine aa (cW (aj ..)) (eb (λc f=>d c (C.subset f)) (aj ..) j g ?_);rw[ax];refine aa (cW (aj ..)) (gS (aj ..) g ?_);induction e:aE z.2 using Nw with
  |nil=>exact⟨H,m,w e⟩
  |cons x y=>exact aa rfl (aa (dz (aj ..)) (B (by rw[e];exact Ri _ _)))
end
noncomputable def ed:Fo->Fo
 |.nil=>.nil
 |.atom a _=>.atom a .nil
 |.arr l _=>.arr l .nil
 |.dict l _=>.dict l .nil
noncomputable def f7:Fo->Fo
 |.nil=>.nil
 |.atom _ r=>r
 |.arr _ r=>r
 |.dict _ r=>r
def oi(f:Fo):V:=(tv f).headD .none
def Tl.nil(h:Tl f []):f=.nil:=by
 induction f with
 |nil=>rfl
 |atom a r=>refine bo h ?_;clear h;intro v us e _;contradiction
 |arr l r=>refine bo h ?_;clear h;intro v us e _;contradiction
 |dict l r=>refine gC h ?_;clear h;intro v us w e _;contradiction
def Tl.iO(h:Tl f (v::vs)):Tl (ed f) [v]/\Tl (f7 f) vs/\tv f=oi (ed f)::tv (f7 f)/\dp (ed f)<=dp f/\dp (f7 f)<=dp f/\cq f=cq (ed f)++cq (f7 f):=by
 cases f with
 |nil=>contradiction
 |atom a r=>
  refine aO h ?_;clear h;intro v' us e d c;injection e with e b;subst e b
  exact⟨⟨v,[],rfl,d,rfl⟩,c,rfl,by simp[ed,iA,gf,gh,gi],by simp[f7,iA,gf,gh,gi],by simp[ed,f7,jU,fY,g6,g7]⟩
 |arr l r=>
  refine e9 h ?_;clear h;intro v' us e g d c;injection e with e b;subst e b
  exact⟨⟨_,[],rfl,g,d,rfl⟩,c,rfl,by simp[ed,iA,gf,gh,gi];exact aas,by simp[f7,iA,gf,gh,gi];exact aat,by simp[ed,f7,jU,fY,g6,g7]⟩
 |dict l r=>
  refine Mine.bO h λks ws us e g j i=>?_;refine Mine.A3 i λk d c=>?_;injection e with e b;subst e b
  exact⟨⟨ks,ws,[],rfl,g,j,k,d,rfl⟩,c,rfl,by simp[ed,iA,gf,gh,gi];exact aas,by simp[f7,iA,gf,gh,gi];exact aat,by simp[ed,f7,jU,fY,g6,g7]⟩
inductive F2(R:V->V->Prop):Ni V->Ni V->Prop
 |nil:F2 R [] []
 |cons {x y:V} {xs ys:Ni V} (h:R x y) (t:F2 R xs ys):F2 R (x::xs) (y::ys)
noncomputable def abY:eX->Nt (Ni Nu)
 |.decimal=>xV [114,101,97,108]
 |.name=>xV [110,97,109,101]
 |.string=>xV [115,116,114,105,110,103]
 |.reference=>xV [114,101,102]
 | _=>Nm
def mB:V->Nt (Ni Nu)
 |.none=>xV [110,117,108,108]
 |.bool _=>xV [116,114,117,116,104]
 |.int _=>xV [105,110,116]
 |.obj c _=>abY c
 |.lst _=>xV [97,114,114,97,121]
 |.ec _ _=>xV [100,105,99,116]
 | _=>Nm
section
variable {H:ae}{n a:Nu}{Q:av}{X:Prop}
def bu(h:mB v=xV s)(q:Q (.str s) H):call (n+1) 19 [v] H Q X:=by
 refine ag (ρ:=[xV v]) rfl rfl rfl ?_;induction v using Mine.V.casesOn with
 |obj c fs=>induction c<;>cases h<;>exact af q
 | _=>cases h<;>exact af q
noncomputable def Atom.kind:Atom->Ni Nu
 |.null=>[110,117,108,108]
 |.truth _=>[116,114,117,116,104]
 |.int _=>[105,110,116]
 |.real _ _=>[114,101,97,108]
 |.name _=>[110,97,109,101]
 |.str _=>[115,116,114,105,110,103]
 |.ref _ _=>[114,101,102]
def i5{a}(h:Ta a v):mB v=xV a.kind:=by
 induction a with
 |str b=>refine X1 h ?_;clear h;intro x c;subst c;rfl
 | _=>rw[show v=_ from h];rfl
def rU{a}(h:Ta a v)(q:Q a.told H):call (n+1) 20 [.str a.kind,v] H Q X:=by
 refine ag (ρ:=[xV (.str a.kind),xV v]) rfl rfl rfl ?_;induction a with
 |null=>exact af q
 |truth b=>
  rw[show v=_ from h];clear h;induction b with
  |true=>exact af q
  |false=>exact af q
 |int i=>rw[show v=_ from h];exact af q
 |real t p=>rw[show v=_ from h];exact af q
 |name s=>rw[show v=_ from h];exact af q
 |str b=>refine X1 h ?_;clear h;intro x c;subst c;exact af q
 |ref i j=>rw[show v=_ from h];exact af q
end
def qa:∀{l},y∈nk x l↔y=x\/y∈l:=by
 intro b;induction b with
 |nil=>simp[ue,d7]
 |cons z l a=>
  rw[d7];split
  ·simp
  ·rw[NH];rw[a];rw[NH];rw[Vq];rfl
def dU:∀{l},y∈bK l↔y∈l:=by
 intro b;induction b with
 |nil=>exact Iff.rfl
 |cons x l a=>rw[xd];rw[qa];rw[a];rw[NH];rfl
def Ei:∀{l},(nk x l).length=l.length+1:=by
 intro a;induction a with
 |nil=>exact rfl
 |cons z l b=>
  rw[d7];split
  ·rfl
  ·exact NN _ ‹_›
def eZ:∀{l},(bK l).length=l.length:=by
 intro b;induction b with
 |nil=>exact rfl
 |cons x l a=>rw[Gf];rw[Ei];rw[a];rfl
def kn:∀{ks}{us},k∈ks->ks.length=us.length->∃v,b7 k ks us=xV v:=by
 intro b;induction b with
 |nil=>intro _ h _;contradiction
 |cons x ks a=>
  intro c;induction c using Nw with
  |nil=>intro _ h;contradiction
  |cons u us=>
   intro h e;rw[Aj];split
   ·exact⟨u,rfl⟩
   ·next q=>exact a ((NH.mp h).resolve_left λz=>q z.symm) (by simpa using e)
def Tl.name(h:Tl l (cV k::vs)):∃r,l=.atom (.name k) r/\Tl r vs:=by
 induction l with
 |nil=>contradiction
 |atom a r=>
  refine aO h ?_;clear h;intro v us e d g;injection e with e f;subst e f
  induction a with
  |name s=>cases d;exact⟨r,rfl,g⟩
  |null=>contradiction
  |truth b=>contradiction
  |int b=>contradiction
  |real b c=>injection d with d;injection d
  |str b=>refine X1 d ?_;clear d;intro _ d;injection d with d;injection d
  |ref b c=>injection d with d;injection d
 |arr l r=>refine bo h ?_;clear h;intro ws us e _;injection e with e;injection e
 |dict l r=>refine gC h ?_;clear h;intro ks ws us e _;injection e with e;injection e
def BD{T}(p:∀k v (K:NF->ae->Prop),b7 k ks ws=xV v->K (aJ v) H->T (.str k) H K)(t:∀k v g (K:av),b7 k ks ws=xV v->Tl g [v]->dp g<=N->K (.tup [.str k,oi g]) H->B (.str k) H K):
  ∀K l Q,(∀k∈K,∃v,b7 k ks ws=xV v)->Tl l (aX ks ws K)->dp l<=N->Q (AK (tv l)) H->fc T B (K.map V.str) H Q:=by
 intro c;induction c with
 |nil=>intro l Q _ h _ q;rw[show l=.nil from h.nil] at q;exact q
 |cons k K a=>
  intro l Q hk h hd q;refine X1 (hk k (Ny)) λv d=>?_;rw[N3];refine p k v _ d ?_;have e:aX ks ws (k::K)=el k v++aX ks ws K:=by unfold aX;rw[OC];rw[d];rfl
  rw[e] at h;induction j:aJ v with
  |false=>refine fQ rfl ?_;unfold el at h;rw[j,Nl (by decide),OX] at h;exact a l Q (λx f=>hk x (by simp[f])) h hd q
  |true=>refine fx rfl ?_;unfold el at h;rw[j,Np rfl] at h;refine ah (Tl.name (h:Tl l (cV k::([v]++aX ks ws K)))) λr i o=>?_;clear h;subst i;refine A6 (Tl.iO (show Tl r (v::aX ks ws K) from o)) λu s n m w _=>?_;have b:=hd;refine t k v (ed r) _ d u (L58 m b) (a (f7 r) _ (λx f=>hk x (by simp[f])) s (L58 w b) ?_);rw[show tv (.atom (.name k) r)=Atom.told (.name k)::tv r from rfl,n] at q;exact q
def CV{T}(e:∀x (k:NF->ae->Prop),k Nk H->T x H k)(i:∀v g (K:av),Tl g [v]->dp g<=N->K (oi g) H->B v H K):∀vs l Q,Tl l vs->dp l<=N->Q (tv l) H->fc T B vs H Q:=by
 intro b;induction b with
 |nil=>intro l Q h _ q;rw[show l=.nil from h.nil] at q;exact q
 |cons v vs a=>intro l Q h hd q;refine A6 h.iO λj f d c m _=>?_;refine e v _ (fx rfl ?_);refine i v _ _ j (aau hd c) ?_;rw[d] at q;exact a (f7 l) _ f (aau hd m) q
def GD:∀{l}{vs},Tl l vs->(tv l).length=vs.length:=by
 intro g;induction g with
 |nil=>intro vs h;rw[show vs=[] from h];rfl
 |atom a r b=>intro vs h;refine aO h ?_;clear h;intro v us d _ e;subst d;simp only[Gz,GA,GB,GC,Nn,b e]
 |arr l r b c=>intro vs h;refine e9 h ?_;clear h;intro v us d _ _ e;subst d;simp only[Gz,GA,GB,GC,Nn,c e]
 |dict l r b c=>intro vs h;refine Mine.bO h λv w us f _ _ i=>?_;refine Mine.A3 i λ_ _ e=>?_;clear h;subst f;simp only[Gz,GA,GB,GC,Nn,c e]
def JE(h:∀k,(f k).length<=n):∀a,(acG a f).length<=n:=by
 intro a;induction a using Mine.V.casesOn with
 |tup l=>
  induction l using Nw with
  |nil=>exact OL _
  |cons _ m=>
   induction m using Nw with
   |nil=>exact OL _
   |cons k n=>
    induction n using Nw with
    |nil=>exact h k
    |cons _ _=>exact OL _
 | _=>exact OL _
def Fu:∀n l,l.length<=n->(AK l).length<=n:=by
 intro n;induction n using TP with
 | _ n d=>
  intro l c;induction l with
  |nil=>exact OL _
  |cons a b=>
   clear tail_ih;induction b with
   |nil=>exact OL _
   |cons x r=>exact JE (λk=>Nj (Oi (d r.length (lt_of_succ_lt c) r (NA _))) (P2 c)) a
def IV(l):(AK l).length<=l.length:=Fu _ l (NA _)
def BQ:∀K,(aX ks us K).length<=2 * K.length:=by
 intro b;induction b with
 |nil=>exact NA _
 |cons k K a=>
  have:=a;unfold aX at this ⊢;rw[OC];rw[Nv];rw[Nn];have:(qo k (b7 k ks us)).length<=2:=by
   induction b7 k ks us with
   |none=>simp[qo]
   |some v=>simp only[qo,el];split<;>simp
  exact cR [R0 V1 (zm 2 V2),R0 V0 (zc 2)] (zp V0 V1) (zm 2 (S1 V2)) rfl (by assumption) this
def A7(a b)(h:a.length+b.length<=lim):m8 .add (.tup a) (.tup b)=xV (.tup (a++b)):=by show(if _ then _ else _)=_;rw[Np h];rfl
def Gx(l)(H)(h:l.length<=lim):cp .tuple [.lst l] H=xV (.tup l):=by show(if _ then _ else _)=_;rw[Np h];rfl
def md(ks)(us)(H)(h:ks.length<64):cp .sorted [.ec ks us] H=xV (.lst ((bK ks).map V.str)):=by show(if _ then _ else _)=_;rw[Np h];rfl
def sZ(h:Ta a v)(q:Q a.told H):call (n+2) 21 [v] H Q X:=by refine ag (ρ:=[xV v,Nm,Nm,Nm]) rfl rfl rfl (bu (i5 h) ?_);have q:=rU (n:=n) (X:=X) (Q:=gk Q) h (af q);clear h;induction a<;>exact q
def uO:∀N f v n Q H X,Tl f [v]->dp f<=N->Q (oi f) H->call (n+N+2) 21 [v] H Q X:=by
 intro N;induction N with
 |zero=>
  intro f v n Q H X h hd q;cases f with
  |nil=>exact nomatch h
  |atom a r=>refine aO h ?_;clear h;intro v' us e c i;injection e with e;subst e;exact sZ c q
  |arr l r=>exact NK (Nj (Ox _ _) hd) (RN _)
  |dict l r=>exact NK (Nj (Ox _ _) hd) (RN _)
 |succ N u=>
  intro f v n Q H X h hd q;cases f with
  |nil=>exact nomatch h
  |atom a r=>refine aO h ?_;clear h;intro v' us e c i;injection e with e;subst e;exact sZ c q
  |arr l r=>
   refine e9 h ?_;clear h;intro ws us e o c i;injection e with e;subst e
   haveI d:=le_of_succ_le_succ (Nj (Ox _ _) hd);haveI j:=GD c;refine ag (ρ:=[xV (.lst ws),Nm,Nm,Nm]) rfl rfl rfl ?_;refine bu rfl ⟨Nj o (by decide),?_⟩;refine CV (λx k h=>h) (λv g K c i y=>u g v n K H OH c i y) ws l _ c d (aa (Gx (tv l) H (by rw[j];exact Nj o (by decide))) ?_);exact aa (A7 [.str [97,114,114,97,121]] (tv l) (by unfold lim;simp only[Nn,NL];exact cj [R0 V1 (zc 1000),R2 V0 V1] (zp (S1 K0) V0) (zc 16000000) rfl o j)) (af q)
  |dict l r=>
   obtain⟨ks,ws,us,e,o,w,m,c,i⟩:=h;injection e with e;subst e
   haveI d:=Rx (Nj (Ox _ _) hd);refine ag (ρ:=[xV (.ec ks ws),Nm,Nm,Nm]) rfl rfl rfl (bu rfl ?_);refine aa (md ks ws H m) ⟨by rw[NR];rw[eZ];unfold lim;exact Pf (NY m (by decide)),?_⟩;refine BD (λk v K hk q=>?_) (λk v g K hk c i q=>?_) (bK ks) l _ (λk hk=>kn (dU.mp hk) w) c d ?_
   ·exact aa (hk:gQ (.ec ks ws) (.str k) H=xV v) q
   ·exact aa (hk:gQ (.ec ks ws) (.str k) H=xV v) (u g v n _ H OH c i q)
   ·haveI j:=GD c
    haveI t:=IV (tv l);haveI p:=BQ (ks:=ks) (us:=ws) (bK ks);replace p:=(eZ)▸p;unfold HI at j;exact aa (Gx (AK (tv l)) H (by unfold lim;exact zL [_,_,_,_] [] [R0 (S1 V1) (zc 64),R2 V2 V3,R0 V0 V2,R0 V3 (zm 2 V1)] V0 (zc 16000000) [1,2,1,1,1] rfl m j t p)) (aa (A7 [.str [100,105,99,116]] (AK (tv l)) (by dsimp only[Nn,NL];unfold lim;exact zL [_,_,_,_] [] [R0 (S1 V1) (zc 64),R2 V2 V3,R0 V0 V2,R0 V3 (zm 2 V1)] (zp (S1 K0) V0) (zc 16000000) [1,2,1,1,1] rfl m j t p)) (af q))
def tp:Tok->Ni Nu
 |.word b=>b|.int i=>au i|.real t p=>cB t p|.name s=>eh s|.str b=>fv b|.hex b=>fv b|.sign b=>b|.fin=>[]
noncomputable def Atom.bJ:Atom->Ni Tok
 |.null=>[.word [110,117,108,108]]
 |.truth b=>[.word (if b then[116,114,117,101] else[102,97,108,115,101])]
 |.int i=>[.int i]
 |.real t p=>[.real t p]
 |.name s=>[.name s]
 |.str b=>[.str b]
 |.ref n g=>[.int n,.int g,.word [82]]
noncomputable def jS(d:NF):Tok:=.sign (if d then[60,60] else[91])
noncomputable def cls(d:NF):Tok:=.sign (if d then[62,62] else[93])
noncomputable def bJ:Fo->Ni Tok
 |.nil=>[]
 |.atom a r=>a.bJ++bJ r
 |.arr l r=>jS Nr::(bJ l++cls Nr::bJ r)
 |.dict l r=>jS Nk::(bJ l++cls Nk::bJ r)
def zx:bJ  (.nil)=([]):=by intros;rfl
def zy:∀a r,bJ  (.atom a r)=(a.bJ++bJ r):=by intros;rfl
def Gq:∀l r,bJ  (.arr l r)=(jS Nr::(bJ l++cls Nr::bJ r)):=by intros;rfl
def Gr:∀l r,bJ  (.dict l r)=(jS Nk::(bJ l++cls Nk::bJ r)):=by intros;rfl
def IW:∀f,cq f=(bJ f).map tp:=by
 intro d;induction d with
 |nil=>exact rfl
 |atom a r b=>rw[fY];rw[zx];rw[N7];rw[b];induction a<;>rfl
 |arr l r b c=>rw[g6];rw[zx];rw[N3];rw[N7];rw[N3];rw[b];rw[c];rfl
 |dict l r b c=>rw[g7];rw[zx];rw[N3];rw[N7];rw[N3];rw[b];rw[c];rfl
noncomputable def Fo.app:Fo->Fo->Fo
 |.nil,h=>h
 |.atom a r,h=>.atom a (r.app h)
 |.arr l r,h=>.arr l (r.app h)
 |.dict l r,h=>.dict l (r.app h)
def aab:∀h,Fo.app  (.nil) (h)=(h):=by intros;rfl
def oj:∀a r h,Fo.app  (.atom a r) (h)=(.atom a (r.app h)):=by intros;rfl
def om:∀l r h,Fo.app  (.arr l r) (h)=(.arr l (r.app h)):=by intros;rfl
def oo:∀l r h,Fo.app  (.dict l r) (h)=(.dict l (r.app h)):=by intros;rfl
def oh:∀f g,bJ (f.app g)=bJ f++bJ g:=by
 intro d;induction d with
 |nil=>intro g;exact rfl
 |atom a r b=>intro g;rw[oj];rw[zy];rw[zy];rw[b g];rw[NM];rfl
 |arr l r b c=>intro g;rw[om];rw[Gq];rw[Gq];rw[c g];simp
 |dict l r b c=>intro g;rw[oo];rw[Gr];rw[Gr];rw[c g];simp
def lH:∀f g,dp (f.app g)=max (dp f) (dp g):=by
 intro d;induction d with
 |nil=>intro g;exact(Nu.zero_max _).symm
 |atom a r b=>intro g;rw[oj];rw[gf];rw[gf];rw[b g];rfl
 |arr l r b c=>intro g;rw[om];rw[gh];rw[gh];rw[c g];rw[WD];rfl
 |dict l r b c=>intro g;rw[oo];rw[gi];rw[gi];rw[c g];rw[WD];rfl
def lr:∀{f g}{vs us},Tl f vs->Tl g us->Tl (f.app g) (vs++us):=by
 intro k;induction k with
 |nil=>intro g vs us h d;rw[show vs=[] from h];exact d
 |atom a r b=>intro g vs us h d;refine aO h ?_;clear h;intro v w e i j;subst e;exact⟨v,w++us,rfl,i,b j d⟩
 |arr l r b c=>intro g vs us h d;refine e9 h ?_;clear h;intro v w e i j o;subst e;exact⟨v,w++us,rfl,i,j,c o d⟩
 |dict l r b c=>intro g vs us h d;refine Mine.bO h λks v w m i j n=>?_;refine Mine.A3 n λo p q=>?_;clear h;subst m;exact⟨ks,v,w++us,rfl,i,j,o,p,c q d⟩
section
variable (W:Tok->Nu)(σ:Nu)
noncomputable def bZ(e:NF):Ni Tok->Nu
 |[]=>0
 |t::ts=>(if e&&sP (tp t) then σ else 0)+W t+bZ (eP (tp t)) ts
def oX(e)(t)(ts):bZ W σ e (t::ts)=(if e&&sP (tp t) then σ else 0)+W t+bZ W σ (eP (tp t)) ts:=rfl
noncomputable def eE(e:NF):Ni Tok->NF
 |[]=>e
 |t::ts=>eE (eP (tp t)) ts
def kb:∀a b e,bZ W σ e (a++b)=bZ W σ e a+bZ W σ (eE e a) b:=by
 intro d;induction d with
 |nil=>intro b e;exact(Og _).symm
 |cons t a c=>intro b e;refine(?_:_+bZ W σ _ (a++b)=_+bZ W σ _ a+_);rw[c b];exact(Qx _ _ _).symm
def yk:∀a b e,eE e (a++b)=eE (eE e a) b:=by
 intro d;induction d with
 |nil=>intro b e;exact rfl
 |cons t a c=>intro b e;exact c b _
def Hx(a)(t)(e):eE e (a++[t])=eP (tp t):=yk a [t] e
structure Be(Φ:Ni Nu->Nu)(ok:Ni Nu->Prop):Prop where
 lex:∀r tk r' e,ok r->bG r=xV (tk,r')->(e=Nk->sP r=Nr)->(if e&&sP (tp tk) then σ else 0)+W tk+Φ r'<=Φ r/\(eP (tp tk)=Nk->sP r'=Nr)/\ok r'
 str:∀b,W (.hex b)=W (.str b)
inductive PB(D:Nu):Ni (Ni Nu×V)->Nu->Prop
 |nil (c:Nu):PB D [] c
 |cons {k:Ni Nu} {v:V} {g:Fo} {ps:Ni (Ni Nu×V)} {c c':Nu} (h:Tl g [v]) (hd:dp g<=D) (hc:W (.name k)+bZ W σ Nk (bJ g)+c<=c') (t:PB D ps c):PB D ((k,v)::ps) c'
variable {W σ}
def PB.mono(h:PB W σ D ps c)(b:c<=c'):PB W σ D ps c':=by
 induction h with
 |nil c=>exact .nil _
 |cons h hd a t=>exact .cons h hd (by(exact Nj ‹_› ‹_›)) t
def PB.put(i:Tl g [v])(f:dp g<=D):∀{ps}{c},PB W σ D ps c->PB W σ D (dE k v ps) (W (.name k)+bZ W σ Nk (bJ g)+c):=by
 intro d;induction d with
 |nil=>intro c h;exact .cons i f (NA _) (.nil _)
 |cons a ps b=>
  have k':=(a).1;have v':=(a).2;intro c h;cases h with
  |cons h hd j t=>
   rw[fK];split
   ·next e=>rw[e];exact .cons i f (NA _) (t.mono (by(exact Nj (O7 _ _) ‹_›)))
   ·exact .cons h hd (jj [_,_,_,_,_,_] [R0 (zp (zp V0 V1) V4) V5] (zp (zp V0 V1) (zp (zp V2 V3) V4)) (zp (zp V2 V3) V5) rfl j) (b t)
def PB.fold:∀{ps d}{c b},PB W σ D ps c->PB W σ D d b->PB W σ D (ps.foldl (λd p=>dE p.1 p.2 d) d) (c+b):=by
 intro e;induction e with
 |nil=>intro d c b h i;exact i.mono (O7 _ _)
 |cons f ps a=>
  obtain⟨k,v⟩:=f;intro d c b h i;cases h with
  | @cons _ _ g _ c1 _ h hd hc t=>haveI l:PB W σ D (dE k v d) (W (.name k)+bZ W σ Nk (bJ g)+b):=PB.put h hd i;haveI j:=a t l;exact j.mono (jj [_,_,_,_,_] [R0 (zp (zp V1 V2) V0) V4] (zp V0 (zp (zp V1 V2) V3)) (zp V4 V3) rfl hc)
def PB.filter(p):∀{ps}{c},PB W σ D ps c->PB W σ D (ps.filter p) c:=by
 intro d;induction d with
 |nil=>intro c h;exact .nil _
 |cons b ps a=>
  have k:=(b).1;have v:=(b).2;intro c h;cases h with
  |cons h hd e t=>
   refine(RS)▸?_;split
   ·exact .cons h hd e (a t)
   ·exact(a t).mono (by(exact Nj (O7 _ _) ‹_›))
noncomputable def fi(d:Ni (Ni Nu×V)):Ni (Ni Nu):=d.map (·.1)
noncomputable def Ba(d:Ni (Ni Nu×V)):Ni V:=d.map (·.2)
noncomputable def del(k:Ni Nu)(d:Ni (Ni Nu×V)):Ni (Ni Nu×V):=d.filter λp=>decide (p.1≠k)
def Hp(h:k'≠k):∀d,b7 k' (fi (del k d)) (Ba (del k d))=b7 k' (fi d) (Ba d):=by
 intro b;induction b with
 |nil=>exact rfl
 |cons c d a=>
  obtain⟨x,v⟩:=c;unfold del;rw[RS];haveI f:=a;unfold del at f;by_cases g:x=k
  ·rw[Nl (by simp[g])];rw[f]
   refine(?_:_=(if x=k' then _ else _));rw[Nl (by rw[g];exact λe=>h e.symm)];rfl
  ·rw[Np (NP ‹_›)]
   refine(?_:(if x=k' then _ else _)=(if x=k' then _ else _));split
   ·rfl
   ·exact f
def Hq(h:k'≠k)(hm:k'∈fi d):k'∈fi (del k d):=by refine ah (mem_map.mp hm) λp b a=>?_;subst a;exact mem_map.mpr ⟨p,mem_filter.mpr ⟨b,by exact NP ‹_›⟩,rfl⟩
def PB.take:∀{d}{c},PB W σ D d c->k∈fi d->∃v g b,b7 k (fi d) (Ba d)=xV v/\Tl g [v]/\dp g<=D/\PB W σ D (del k d) b/\W (.name k)+bZ W σ Nk (bJ g)+b<=c:=by
 intro i;induction i with
 |nil=>intro c h hk;contradiction
 |cons l d a=>
  obtain⟨x,u⟩:=l;intro c h hk;cases h with
  | @cons _ _ g0 _ c1 _ h hd hc t=>
   refine(NG (x=k)).elim (λf=>?_) (λf=>?_)
   ·clear a hk;subst f
    refine⟨u,_,_,Np rfl,h,hd,?_,hc⟩;unfold del;rw[RS];rw[Nl (by simp)];exact PB.filter _ t
   ·refine Mine.bO (a t ((NH.mp hk).resolve_left λz=>f z.symm)) λv g b e m p j=>?_;refine Mine.A2 j λo n=>?_
    refine⟨v,g,W (.name x)+bZ W σ Nk (bJ g0)+b,(Nl f).trans e,m,p,?_,by exact jj [_,_,_,_,_,_,_] [R0 (zp (zp V2 V3) V6) V5,R0 (zp (zp V0 V1) V4) V6] (zp (zp V0 V1) (zp (zp V2 V3) V4)) V5 rfl hc n⟩;unfold del;rw[RS];rw[Np (NP ‹_›)];exact .cons h hd (NA _) o
def Jk(s):sP (eh s)=Nr:=rfl
def pL:∀k,k<16->aI (eL k)=Nk:=by decide
def Cb(c):∃l x,bg c=l++[x]/\aI x=Nk:=by
 unfold bg;split
 ·exact⟨[35,eL (c / 16)],eL (c % 16),rfl,pL _ (RM _ (by decide))⟩
 ·next h=>exact⟨[],c,rfl,by induction hr:aI c with|true=>rfl|false=>exact NK (.inr (.inr (.inr hr))) h⟩
def nQ(h:aI x=Nk):eP (l++[x])=Nk:=by unfold eP;simp[h]
def nR(s):eP (eh s)=Nk:=by
 by_cases a:s=[]
 ·rw[a];rfl
 ·obtain⟨s',c,rfl⟩ : ∃s' c,s=s'++[c]:=⟨s.dropLast,s.getLast a,(OM a).symm⟩
  refine bo (Cb c) λl x e b=>?_;unfold eh;rw[Ni.flatMap_append];rw[OC];rw[SR];rw[N9];rw[e];rewrite [<- NM];exact bB (NU OS) (nQ b)
def sq(k)(g r)(e):bZ W σ e (bJ (.atom (.name k) (g.app r)))=W (.name k)+bZ W σ Nk (bJ g)+bZ W σ (eE Nk (bJ g)) (bJ r):=by refine(?_:bZ W σ e (.name k::bJ (g.app r))=_);rw[oh];rw[oX];refine(?_:(if e&&sP (eh k) then σ else 0)+_+bZ W σ (eP (eh k)) _=_);rw[Jk];rw[nR];rw[Rk];rw[Nl (by decide)];rw[kb];exact L63
def HJ:∀K d c,K.Nodup->(∀k∈K,k∈fi d)->PB W σ D d c->∃f,Tl f (aX (fi d) (Ba d) K)/\dp f<=D/\∀e,bZ W σ e (bJ f)<=c:=by
 intro l;induction l with
 |nil=>intro d c _ _ _;exact⟨.nil,rfl,OL _,λ_=>OL _⟩
 |cons k K b=>
  intro d c m hk h;refine Mine.bO (PB.take h (hk k (by(exact Ny)))) λv g t e r y n=>?_;refine Mine.A2 n λu o=>?_;rw[Ow] at m;haveI i:∀x∈K,x≠k:=λx a e=>m.1 (e▸a);refine a9 (b (del k d) t m.2 (λx a=>Hq (i x a) (hk x (by(exact NB _ ‹_›)))) u) λf j q p=>?_;haveI s:aX (fi (del k d)) (Ba (del k d)) K=aX (fi d) (Ba d) K:=by refine NN Xf (map_congr_left λx a=>?_);rw[Hp (i x a)];rfl
  replace j:=(s)▸j;haveI w:aX (fi d) (Ba d) (k::K)=el k v++aX (fi d) (Ba d) K:=by unfold aX;rw[OC];rw[e];rfl
  refine(w)▸?_;unfold el;split
  ·refine⟨.atom (.name k) (g.app f),⟨cV k,v::aX (fi d) (Ba d) K,rfl,rfl,lr r j⟩,?_,λe=>?_⟩
   ·refine(?_:dp (g.app f)<=D)
    rw[lH];exact Tq.mpr ⟨y,q⟩
   ·rw[sq]
    haveI:=p (eE Nk (bJ g));exact Nj (OQ this _) o
  ·exact⟨f,j,q,λe=>by haveI:=p e;exact Nj this (Nj (Nu.le_add_left _ _) o)⟩
def Cv:∀{d}{x},x∈fi (dE k v d)↔x=k\/x∈fi d:=by
 intro b;induction b with
 |nil=>intro x;refine(?_:x∈[k]↔_);simp[fi]
 |cons c d a=>
  obtain⟨k',v'⟩:=c;intro x;rw[fK];split
  ·next e=>refine e▸?_;refine(?_:x∈k'::fi d↔x=k'\/x∈k'::fi d);simp
  ·refine(?_:x∈k'::fi (dE k v d)↔x=k\/x∈k'::fi d)
   rw[NH];rw[a];rw[NH];rw[Vq];rfl
def sU:∀{d},(fi d).Nodup->(fi (dE k v d)).Nodup/\(dE k v d).length<=d.length+1:=by
 intro b;induction b with
 |nil=>intro h;exact⟨by refine(?_:[k].Nodup);simp,NA _⟩
 |cons c d a=>
  obtain⟨k',v'⟩:=c;intro h;rw[fK];split
  ·next e=>exact bB (NU e) ⟨h,Ql _⟩
  ·next e=>
   haveI f:(k'::fi d).Nodup:=h;rw[Ow] at f;refine A2 (a f.2) λi g=>?_;refine⟨?_,by simpa using g⟩;refine(?_:(k'::fi (dE k v d)).Nodup);rw[Ow];refine⟨λq=>?_,i⟩;refine ND (Cv.mp q) (λq=>?_) (λq=>?_)
   ·exact e q
   ·exact f.1 q
def yr:∀{ps d:Ni (Ni Nu×V)},(fi d).Nodup->(fi (ps.foldl (λd p=>dE p.1 p.2 d) d)).Nodup/\(ps.foldl (λd p=>dE p.1 p.2 d) d).length<=d.length+ps.length:=by
 intro b;induction b with
 |nil=>intro d h;exact⟨h,NA _⟩
 |cons p ps a=>intro d h;have c:=(sU (k:=p.1) (v:=p.2) h).1;have f:=(sU (k:=p.1) (v:=p.2) h).2;haveI e:=(a c).1;haveI g:=(a c).2;exact⟨e,by rw[Nn];exact Nj g (cR [R0 V0 (S1 V2)] (zp V0 V1) (zp V2 (S1 V1)) rfl f)⟩
def t9(p)(h:(fi d).Nodup):(fi (d.filter p)).Nodup:=List.Nodup.sublist (List.Sublist.map _ filter_sublist) h
def yC:∀{l},x∉l->l.Nodup->(nk x l).Nodup:=by
 intro c;induction c with
 |nil=>intro _ _;simp[ue,d7]
 |cons z l a=>
  intro h b;rw[d7];split
  ·exact Ow.mpr ⟨h,b⟩
  ·rw[Ow] at b
   refine Ow.mpr ⟨λq=>?_,a (λq=>h (by(exact NB _ ‹_›))) b.2⟩;refine ND (qa.mp q) (λq=>?_) (λq=>?_)
   ·exact h (by simp[q])
   ·exact b.1 q
def mR:∀{l},l.Nodup->(bK l).Nodup:=by
 intro b;induction b with
 |nil=>intro _;exact Ry
 |cons x l a=>intro h;rw[Ow] at h;exact yC (λq=>h.1 (dU.mp q)) (a h.2)
def Kd.pairs(h:Kd l):(eR l).length * 2=l.length:=by
 induction h with
 |nil=>rfl
 |cons s v h a=>rw[qs];rw[Nn];rw[Nn];rw[Nn];exact zE [_,_] [] [R2 (zw 2 V0) V1,R3 (zw 2 V0) V1] (zw 2 (S1 V0)) (S1 (S1 V1)) [1,1,0] [1,0,1] rfl rfl a a
def qG:∀{f}{v}{vs},Tl f (v::vs)->f=(ed f).app (f7 f):=by
 intro d;induction d with
 |nil=>intro _ _ h;contradiction
 |atom a r b=>intro _ _ _;exact rfl
 |arr l r b c=>intro _ _ _;exact rfl
 |dict l r b c=>intro _ _ _;exact rfl
def Kd.pb(h:Kd l):∀{f} e,Tl f l->dp f<=D->PB W σ D (eR l) (bZ W σ e (bJ f)):=by
 induction h with
 |nil=>intro f e _ _;exact .nil _
 |cons s v h m=>intro f e i hd;refine ah (Tl.name i) λr a c=>?_;clear i;subst a;refine A6 (Tl.iO c) λk j p o n _=>?_;haveI b:=hd;haveI d:=qG c;refine .cons k (by(exact Nj ‹_› ‹_›)) ?_ (m (eE Nk (bJ (ed r))) j (L58 n b));rw[d];rw[sq];exact bB (NU d) (NA _)
def Hu(h:Kd l)(u:Tl f l)(hd:dp f<=D)(c:l.length<126):∃g,Tl (.dict g .nil) [hU l]/\dp g<=D/\∀j,bZ W σ j (bJ g)<=bZ W σ e (bJ f):=by refine A2 (yr (ps:=eR l) (d:=[]) (by(decide))) λo n=>?_;haveI s:=h.pairs;haveI q:PB W σ D (iC l) (bZ W σ e (bJ f)+0):=PB.fold (h.pb e u hd) (.nil 0);haveI a:=t9 (λp:Ni Nu×V=>aJ p.2) o;refine a9 (HJ (bK (fi ((iC l).filter λp=>aJ p.2))) _ _ (mR a) (λk hk=>dU.mp hk) (q.filter λp=>aJ p.2)) λg m t r=>?_;refine⟨g,⟨_,_,[],rfl,a,by simp,?_,m,rfl⟩,t,r⟩;haveI b:((iC l).filter λp=>aJ p.2).length<=(iC l).length:=VE _ _;haveI i:=n;refine(?_:(Wn _ _).length<64);rw[NR];exact zL [_,_,_,_] [] [R0 (S1 V1) (zc 126),R2 (zw 2 V2) V1,R0 V0 V3,R0 V3 (zp K0 V2)] (S1 V0) (zc 64) [2,1,1,2,2] rfl c s b i
end
def sx(n)(h:n<10):(WG n).toNat=48+n:=by
 haveI:∀n,n<10->(WG n).toNat=48+n:=by decide
 exact this n h
def qc(n):aA n=if n<10 then[48+n] else aA (n / 10)++[48+n % 10]:=by
 unfold aA;rw[toDigits_eq_if (by decide)];split
 ·next h=>rw[N3];rw[SQ];rw[sx n h];rfl
 ·rw[N7];rw[N3];rw[SQ];rw[sx _ (RM _ (by decide))];rfl
def bw(n):∀c∈aA n,48<=c/\c<=57:=by
 induction n using TP with
 |ind n b=>
  rw[qc];split
  ·next h=>intro c a;rw[mem_singleton.mp a];exact⟨cZ [] (zc 48) (zp (zc 48) V0) rfl,cZ [R0 (S1 V0) (zc 10)] (zp (zc 48) V0) (zc 57) rfl h⟩
  ·next h=>
   intro c a;refine ND (mem_append.mp a) (λq=>?_) (λq=>?_)
   ·exact b (n / 10) (zL [_,_,_] [] [R1 (S1 V1) (zc 10),R2 (zp (zm 10 V0) V2) V1] (S1 V0) V1 [10,9,1] rfl h (OF _ _)) c q
   ·rw[mem_singleton.mp q];exact⟨cZ [] (zc 48) (zp (zc 48) V0) rfl,cZ [R0 (S1 V0) (zc 10)] (zp (zc 48) V0) (zc 57) rfl (RM _ (QB _))⟩
def dW(h:0<k):(aA n).length<=k↔n<10 ^ k:=by unfold aA;rw[NR];exact Tw (by decide) h
def dY(n):0<(aA n).length:=by unfold aA;rw[NR];exact length_toDigits_pos
def jH(i):∀c∈au i,c<256/\(c=45\/(48<=c/\c<=57)):=by
 unfold au;split
 ·intro c a
  refine ND (NH.mp a) (λq=>?_) (λq=>?_)
  ·rw[q];decide
  ·haveI:=bw _ c q;exact⟨cZ [R0 V0 (zc 57)] (S1 V0) (zc 256) rfl this.2,(.inr (⟨this.1,this.2⟩))⟩
 ·intro c a;haveI:=bw _ c a;exact⟨cZ [R0 V0 (zc 57)] (S1 V0) (zc 256) rfl this.2,(.inr (⟨this.1,this.2⟩))⟩
def gR(hk:0<k)(h:i.natAbs<10 ^ k):(au i).length<=k+1:=by
 haveI:=(dW hk).mpr h;unfold au;split
 ·(exact Pd ‹_›)
 ·exact O9 this
def pB:∀l r t n p,(∀c∈l,48<=c/\c<=57)->kg (l++r) t n p=kg r (l.foldl (λa c=>10 * a+(c - 48)) t) (n+l.length) (p.map (·+l.length)):=by
 intro d;induction d with
 |nil=>exact λr t n p _=>by induction p<;>rfl
 |cons c l b=>
  exact λr t n p h=>by
   haveI f:=h c (by(exact Ny));rw[OS];rw[nN];rw[Nl ((λe=>zF [_] [] [R0 (zc 48) V0,R2 V0 (zc 46)] [1,1] rfl f.1 e.1))];rw[Np f];rw[b r _ _ _ λx g=>h x (by(exact NB _ ‹_›))]
   congr 1
   ·dsimp only[Nn];exact L50
   ·induction p with
    |none=>rfl
    |some p=>dsimp only[Wu,Nn];congr 1;exact L50
noncomputable def val(l:Ni Nu)(t:Nu):Nu:=l.foldl (λa c=>10 * a+(c - 48)) t
def A9(l m)(t):val (l++m) t=val m (val l t):=foldl_append
def hJ(n t):val (aA n) t=t * 10 ^ (aA n).length+n:=by
 induction n using TP generalizing t with
 |ind n a=>
  rw[qc];split
  ·next h=>simp only[val,Ra,foldl_nil,Nn,NL];lia
  ·next h=>
   rw[A9];rw[a (n / 10) (zL [_,_,_] [] [R1 (S1 V1) (zc 10),R2 (zp (zm 10 V0) V2) V1] (S1 V0) V1 [10,9,1] rfl h (OF _ _))];rw[Nv];rw[OA];rw[Xg];simp only[val,Ra,Ni.foldl_nil];haveI e:=OF n 10;rewrite [<- Nu.mul_assoc];exact zE [_,_,_,_,_] [] [R2 (zp (zm 10 V1) V4) V3,R2 (zp V2 (zc 48)) (zp (zc 48) V4),R3 (zp (zm 10 V1) V4) V3,R0 (zp (zc 48) V4) (zp V2 (zc 48))] (zp (zm 10 (zp V0 V1)) V2) (zp (zw 10 V0) V3) [1,1,1,0,0] [1,0,0,1,1] rfl rfl e (NT (cZ [] (zc 48) (zp (zc 48) V0) rfl)) e (mV _ _)
def ta:∀k l,val (Pc k 48++l) 0=val l 0:=by
 intro b;induction b with
 |zero=>exact λl=>rfl
 |succ k a=>exact λl=>by exact a l
def lg(h:nq c=Nr):aE (c::r)=c::r:=by unfold aE;simp[h]
def kr(h:aI c=Nk):nq c=Nr/\jl.contains c=Nr:=by haveI e:aI c=(!nq c&&!jl.contains c):=rfl;rw[e,Od,Qp,Qp] at h;exact h
def EO(h:aI c=Nk):l0 (c::r)=xV (dg (a6 (c::r)),a8 (c::r)):=by
 haveI hd:=(kr h).2;have hne:∀x,jl.contains x=Nk->c≠x:=by rintro x hx rfl;replace hx:=(hd)▸hx;injection hx
 rw[l0];rw[Nl (hne 47 rfl)];rw[Nl (hne 40 rfl)];rw[Nl (hne 60 rfl)];rw[Nl (hne 62 rfl)];rw[Nl (hne 41 rfl)];rw[Nl];rfl;rintro(e|e|e|e)
 ·exact hne 91 rfl e
 ·exact hne 93 rfl e
 ·exact hne 123 rfl e
 ·exact hne 125 rfl e
def pV(h:aI c=Nk)(e:aE r=c::l):bG r=xV (dg (a6 (c::l)),a8 (c::l)):=by unfold bG;rw[e];exact EO h
def qM{c:Nu}(h:a6 m=d::l):aI d=Nk/\∃m',m=d::m':=by
 unfold a6 at h;induction m using Nw with
 |nil=>contradiction
 |cons x m=>
  replace h:=(Ut)▸h;split at h
  ·next hx=>injection h with h;subst h;exact⟨hx,m,rfl⟩
  ·contradiction
def wX:bN []=Nm:=rfl
def wY(h:nz r=xV (g,r')):0<=g/\∃r2,bG r=xV (.int g,r2)/\bG r2=xV (.word [82],r'):=by
 refine A3 (FQ h) λe1 e2 e3=>?_;clear h;subst e3;refine⟨e2.1,a8 (aE r),?_,?_⟩
 ·induction ht:a6 (aE r) with
  |nil=>rw[ht,wX] at e1;cases e1
  |cons d l=>obtain⟨h1,m,h2⟩:=qM (c:=0) ht;rw[pV h1 h2];refine bB (NU h2) ?_;unfold dg;rw[e1];rfl
 ·obtain⟨h1,m,h2⟩:=qM (c:=0) e2.2
  rw[pV h1 h2];refine bB (NU h2) ?_;rw[e2.2];rfl
section
variable {Φ:Ni Nu->Nu}
inductive FB(W:Tok->Nu)(σ:Nu):Ni Fr->Nu->NF->Prop
 |nil:FB W σ [] 0 Nr
 |cons {fs:Ni Fr} {n:Nu} {e:NF} {d:NF} {l:Ni V} {f:Fo} {m:Nu} {e':NF} (t:FB W σ fs n e) (h:Tl f l) (hd:dp f+fs.length+1<=40) (hm:n+W (jS d)+bZ W σ Nr (bJ f)<=m) (he:e'=eE Nr (bJ f)):FB W σ ((d,l)::fs) m e'
def vn(e d)(ts):bZ W σ e (jS d::ts)=W (jS d)+bZ W σ Nr ts:=by
 haveI h1:sP (tp (jS d))=Nr:=by induction d<;>rfl
 haveI h2:eP (tp (jS d))=Nr:=by induction d<;>rfl
 rw[oX];rw[h1];rw[h2];rw[Rk];rw[Nl (by decide)];rw[Og];rfl
def Dz(e d):bZ W σ e [cls d]=W (cls d):=by
 haveI h1:sP (tp (cls d))=Nr:=by induction d<;>rfl
 rw[oX];rw[h1];rw[Rk];rw[Nl (by decide)];rw[Og];rfl
def yl(e d)(ts):eE e (jS d::(ts++[cls d]))=Nr:=by refine bB (NU OS) ?_;rw[Hx];induction d<;>rfl
structure Got(W:Tok->Nu)(σ:Nu)(Φ:Ni Nu->Nu)(ok:Ni Nu->Prop)(M D:Nu)(n:Nu)(e:NF)(v:V)(r:Ni Nu):Prop where
 ex:∃g,Tl g [v]/\dp g<=D/\n+bZ W σ e (bJ g)+Φ r<=M/\(eE e (bJ g)=Nk->sP r=Nr)
 ok:ok r
def DB(e)(t):bZ W σ e [t]=(if e&&sP (tp t) then σ else 0)+W t:=rfl
def dC(h:Ta a v)(ha:a.bJ=[t])(hm:n+((if e&&sP (tp t) then σ else 0)+W t)+Φ r<=M)(hs:eP (tp t)=Nk->sP r=Nr)(hok:ok r):Got W σ Φ ok M D n e v r:=by
 refine⟨⟨.atom a .nil,⟨v,[],rfl,h,rfl⟩,OL _,?_,?_⟩,hok⟩
 ·rw[show bJ (.atom a .nil)=a.bJ++[] from rfl];rw[N9];rw[ha];rw[DB];exact hm
 ·rw[show bJ (.atom a .nil)=a.bJ++[] from rfl];rw[N9];rw[ha];exact hs
def bU(i):sP (au i)=Nk/\eP (au i)=Nk:=by
 haveI h:∀c∈au i,aI c=Nk:=by
  intro c hc;have h2:∀c,c<58->48<=c\/c=45->aI c=Nk:=by decide
  haveI:=(jH i c hc).2;exact h2 c (by exact(this.elim (λq0_=>cZ [R2 V0 (zc 45)] (S1 V0) (zc 58) rfl q0_) λq0_=>cZ [R0 V0 (zc 57)] (S1 V0) (zc 58) rfl q0_.2)) (by exact(this.elim (λq0_=>(.inr (q0_))) λq0_=>(.inl (q0_.1))))
 have hne:au i≠[]:=by unfold au;split;exact Ri _ _;exact λh=>by haveI:=dY i.natAbs;rw[h] at this;simp at this
 constructor
 ·induction e:au i with
  |nil=>exact NK e hne
  |cons c l=>exact h c (by rw[e];(exact Ny))
 ·obtain⟨s',c,e⟩ : ∃s' c,au i=s'++[c]:=⟨_,_,(OM hne).symm⟩
  rw[e];exact nQ (h c (by rw[e];exact mem_append_right _ (mem_singleton_self _)))
@[elab_as_elim] def rR{M:V->Ni Nu->Prop}(h:xV (a,r)=xV (b,r'))(k:M a r):M b r':=by injection h with h;injection h with h1 h2;subst h1 h2;exact k
def BW(G:Be W σ Φ ok){tk:Tok}(h:fX tk r=xV (v,r1))(hok:ok r)(hm:n+((if e&&sP (tp tk) then σ else 0)+W tk)+Φ r<=M)(hs:eP (tp tk)=Nk->sP r=Nr):Got W σ Φ ok M D n e v r1:=by
 induction tk with
 |int i=>
  refine jq (h:(if 0<=i then _ else _)=_) (λ_ h=>?_) λ_ h=>rR h (dC (a:=.int i) rfl rfl hm hs hok);induction e1:nz r with
  |none=>rw[e1] at h;exact rR h (dC (a:=.int i) rfl rfl hm hs hok)
  |some p=>obtain⟨g,r2⟩:=p;rw[e1] at h;refine rR h ?_;refine(wY e1).elim λh0 z_=>z_.elim λr3 z_=>z_.elim λl1 l2=>?_;haveI hs':=hs (bU i).2;refine A3 (G.lex r _ _ Nk hok l1 (λ_=>hs')) λa1 a2 a3=>?_;refine A3 (G.lex _ _ _ Nk a3 l2 (λ_=>a2 (bU g).2)) λb1 b2 b3=>?_;refine⟨⟨.atom (.ref i g) .nil,⟨_,[],rfl,rfl,rfl⟩,OL _,?_,λ_=>b2 rfl⟩,b3⟩;haveI e2:bZ W σ e [.int i,.int g,.word [82]]=((if e&&sP (tp (.int i)) then σ else 0)+W (.int i))+(((if eP (au i)&&sP (tp (.int g)) then σ else 0)+W (.int g))+(((if eP (au g)&&sP (tp (.word [82])) then σ else 0)+W (.word [82]))+0)):=rfl;rw[e2];rw[(bU i).2];rw[(bU g).2];exact jj [_,_,_,_,_,_,_,_,_,_,_] [R0 (zp (zp V0 (zp V1 V2)) (zv 9)) (zv 8),R0 (zp (zp V3 V4) (zv 10)) (zv 9),R0 (zp (zp V5 V6) V7) (zv 10)] (zp (zp V0 (zp (zp V1 V2) (zp (zp V3 V4) (zp (zp V5 V6) K0)))) V7) (zv 8) rfl hm a1 b1
 |real t p=>exact rR h (dC (a:=.real t p) rfl rfl hm hs hok)
 |name s=>exact rR h (dC (a:=.name s) rfl rfl hm hs hok)
 |str b=>exact rR h (dC (a:=.str b) ⟨Nr,rfl⟩ rfl hm hs hok)
 |hex b=>exact rR h (dC (a:=.str b) (t:=.str b) ⟨Nk,rfl⟩ rfl (by refine bB (NU (G.str b)) ?_;exact hm) hs hok)
 |word b=>
  refine jq h (λe h=>?_) λ_ h=>?_
  ·subst e;exact rR h (dC (a:=.truth Nk) rfl rfl hm hs hok)
  refine jq h (λe h=>?_) λ_ h=>?_
  ·subst e;exact rR h (dC (a:=.truth Nr) rfl rfl hm hs hok)
  refine jq h (λe h=>?_) λ_ h=>by contradiction
  subst e;exact rR h (dC (a:=.null) rfl rfl hm hs hok)
 | _=>contradiction
def BV(G:Be W σ Φ ok)(h:FB W σ ((d,l)::fs) n e)(hk:d=Nk->Kd l)(hl:l.length<126)(hok:ok r)(hm:n+((if e&&sP (tp (cls d)) then σ else 0)+W (cls d))+Φ r<=M):
  ∃n' e',FB W σ fs n' e'/\Got W σ Φ ok M (40 - fs.length) n' e' (if d then hU l else .lst l) r:=by
 cases h with
 | @cons _ n0 e0 _ _ f _ _ t h hd hm' he=>
  refine⟨n0,e0,t,?_,hok⟩;haveI hcl:∀e1,bZ W σ e1 [cls d]=W (cls d):=λe1=>Dz e1 d;induction d with
  |false=>
   refine⟨.arr f .nil,⟨l,[],rfl,by exact Pf (NY hl (by decide)),h,rfl⟩,by dsimp only[dp];exact lt_sub_of_add_lt hd,?_,λq=>?_⟩
   ·refine(?_:n0+bZ W σ e0 (jS Nr::(bJ f++[cls Nr]))+_<=M)
    rw[vn];rw[kb];rw[hcl];exact jj [_,_,_,_,_,_,_,_] [R0 (zp (zp V6 (zp V7 V3)) V4) V5,R0 (zp (zp V0 V1) V2) V6] (zp (zp V0 (zp V1 (zp V2 V3))) V4) V5 rfl hm hm'
   ·rw[show bJ (.arr f .nil)=jS Nr::(bJ f++[cls Nr]) from rfl,yl] at q;injection q
  |true=>
   refine a9 (Hu (W:=W) (σ:=σ) (e:=false) (hk rfl) h (NA _) hl) λg g1 g2 g3=>?_;refine⟨.dict g .nil,g1,by dsimp only[dp];exact L82 hd g2,?_,λq=>?_⟩
   ·refine(?_:n0+bZ W σ e0 (jS Nk::(bJ g++[cls Nk]))+_<=M)
    rw[vn];rw[kb];rw[hcl];haveI:=g3 Nr;exact jj [_,_,_,_,_,_,_,_,_] [R0 (zp (zp V6 (zp V7 V3)) V4) V5,R0 (zp (zp V0 V1) (zv 8)) V6,R0 V2 (zv 8)] (zp (zp V0 (zp V1 (zp V2 V3))) V4) V5 rfl hm hm' this
   ·rw[show bJ (.dict g .nil)=jS Nk::(bJ g++[cls Nk]) from rfl,yl] at q;contradiction
def D8(h:FB W σ ((d,l)::fs) n e)(g:Got W σ Φ ok M (40 - (fs.length+1)) n e v r):
  ∃n' e',FB W σ ((d,l++[v])::fs) n' e'/\n'+Φ r<=M/\(e'=Nk->sP r=Nr):=by
 cases h with
 | @cons _ n0 e0 _ _ f _ _ t h hd hm he=>obtain⟨z0_,_⟩:=g;refine iu z0_ ?_;clear z0_;intro g g1 g2 g3 g4;subst he;refine⟨n+bZ W σ (eE Nr (bJ f)) (bJ g),eE (eE Nr (bJ f)) (bJ g),.cons t (lr h g1) (by rw[lH];exact L85 hd g2) ?_ (by rw[oh];rw[yk];rfl),g3,g4⟩;rw[oh];rw[kb];exact jj [_,_,_,_,_] [R0 (zp (zp V0 V1) V2) V4] (zp (zp V0 V1) (zp V2 V3)) (zp V4 V3) rfl hm
def GV(G:Be W σ Φ ok)(hpc:∀r,ok r->∀c∈r,c≠37)(p:PL fs tk r res):∀n e v r1,res=xV (v,r1)->FB W σ fs n e->JN fs->ok r ->
  n+((if e&&sP (tp tk) then σ else 0)+W tk)+Φ r<=M->(eP (tp tk)=Nk->sP r=Nr)->(tk≠.fin->rV fs+r.length<=120)->∃f,Tl f [v]/\dp f<=40/\bZ W σ Nr (bJ f)+Φ r1<=M:=by
 have one:∀{fs:Ni Fr}{tk:Tok}{r:Ni Nu}{st:Step}{n:Nu}{e:NF},cY fs tk r=xV st->FB W σ fs n e->JN fs->ok r->n+((if e&&sP (tp tk) then σ else 0)+W tk)+Φ r<=M->(eP (tp tk)=Nk->sP r=Nr)->(tk≠.fin->rV fs+r.length<=120) ->
   (∀v r1,st=.done v r1->∃f,Tl f [v]/\dp f<=40/\bZ W σ Nr (bJ f)+Φ r1<=M)/\(∀fs' r1,st=.more fs' r1->∃n' e',FB W σ fs' n' e'/\n'+Φ r1<=M/\(e'=Nk->sP r1=Nr)/\ok r1):=by
  intro fs tk r st n e h hfb hg hok hm hs ht;have fin:∀{fs1}{n1}{e1}{v}{r1},FB W σ fs1 n1 e1->Got W σ Φ ok M (40 - fs1.length) n1 e1 v r1->st=fJ v r1 fs1 ->
    (∀v r1,st=.done v r1->∃f,Tl f [v]/\dp f<=40/\bZ W σ Nr (bJ f)+Φ r1<=M)/\(∀fs' r1,st=.more fs' r1->∃n' e',FB W σ fs' n' e'/\n'+Φ r1<=M/\(e'=Nk->sP r1=Nr)/\ok r1):=by
   intro fs1 n1 e1 v r1 hb hgot hst;constructor
   ·intro v' r1' e'
    rw[hst] at e';refine A3 (jV e') λe0_ e1_ e2_=>?_;subst e0_;subst e1_;subst e2_;obtain⟨z0_,_⟩:=hgot;refine iu z0_ ?_;clear z0_;intro g g1 g2 g3 g4;cases hb;exact⟨g,g1,g2,by exact cR [R0 (zp (zp K0 V0) V1) V2] (zp V0 V1) V2 rfl g3⟩
   ·intro fs' r1' e'
    rw[hst] at e';refine jc (jW e') λd l gs e3_ e4_ e5_=>?_;subst e3_;subst e4_;subst e5_;refine aO (D8 hb hgot) λn' e'' b1 b2 b3=>?_;exact⟨n',e'',b1,b2,b3,hgot.ok⟩
  haveI k:=ja fs tk r;rw[h] at k;generalize hst:xV st=s at k;induction k with
  |key _ _ _=>contradiction
  |deep _ _ _ _=>contradiction
  |opens d ht' hw hl=>
   injection hst with hst;clear fin;subst hst
   refine⟨λ_ _ e'=>(by contradiction),λfs' r1 e'=>?_⟩;injection e' with e' h_1;subst e' h_1
   haveI hlen:fs.length<40:=by
    haveI:∀{fs}{n}{e},FB W σ fs n e->fs.length<=40:=by
     intro fs n e h;induction h with
     |nil=>exact OL _
     |cons t h hd hm he=>rw[Nn];exact Nj (O7 _ _) hd
    haveI:=this hfb;exact Nu.lt_of_le_of_ne this hl
   refine⟨n+W (jS d),Nr,.cons (f:=.nil) hfb rfl (by simp only[iA,gf,gh,gi];exact OQ hlen _) (NA _) rfl,?_,(λq=>by injection q),hok⟩;haveI:tk=jS d:=ht';replace hm:=(this)▸hm;haveI:W (jS d)<=(if e&&sP (tp (jS d)) then σ else 0)+W (jS d):=O7 _ _;exact jj [_,_,_,_,_] [R0 (zp (zp V0 (zp V4 V1)) V2) V3] (zp (zp V0 V1) V2) V3 rfl hm
  |close d ht' hw=>
   symm at hst;rw[N2] at hst;refine ah hst ?_;clear hst;intro z0_ c1 c2;obtain⟨v,fs1⟩:=z0_;refine a9 (ix c1) λl e1_ hv he=>?_;clear hw c1;subst e1_;haveI htk:tk=cls d:=ht';haveI hfin:tk≠.fin:=by rw[htk];unfold cls;simp
   haveI hll:l.length<126:=by
    haveI:rV ((d,l)::fs1)=(1+l.length)+rV fs1:=by(rfl)
    lia
   replace hm:=(htk)▸hm;refine bo (BV G hfb (λhd=>by clear htk;clear ht' h hfb ht;subst hd;exact hg.1.kd (he rfl)) hll hok hm) λn' e' b1 b2=>?_;rw[<- hv] at b2;exact fin b1 b2 c2.symm
  |plain ht' hw=>symm at hst;rw[N2] at hst;obtain⟨z0_,c1,c2⟩:=hst;obtain⟨v,r1⟩:=z0_;exact fin hfb (BW G c1 hok hm hs) c2.symm
 induction p with
 |bad h=>intro n e v r1 e';exact(by contradiction)
 |done h=>intro n e v r1 e' hfb hg hok hm hs ht;cases e';exact(one h hfb hg hok hm hs ht).1 _ _ rfl
 |jN h l=>intro n e v r1 e';contradiction
 | @more fs tk r fs' r' tk' r'' res h l p ih=>intro n e v r1 e' hfb hg hok hm hs ht;refine e9 ((one h hfb hg hok hm hs ht).2 _ _ rfl) λn' e2 b1 b2 b3 b4=>?_;refine A4 (n9 hg h) λs1 s2 s3 s4=>?_;refine A3 (G.lex _ _ _ e2 b4 l b3) λa1 a2 a3=>?_;haveI htt:=ht s4;haveI hlen:=s3.length_le;haveI hsf:=bl (hpc _ b4) l;refine ih n' e2 v r1 e' b1 s1 a3 (by exact jj [_,_,_,_,_,_] [R0 (zp V0 V5) V4,R0 (zp (zp V1 V2) V3) V5] (zp (zp V0 (zp V1 V2)) V3) V4 rfl b2 a1) a2 (λhne=>?_);haveI:=hsf.2 hne;exact jj [_,_,_,_,_] [R0 V0 (S1 V2),R0 V3 V4,R0 (zp V2 V4) (zc 120),R0 (S1 V1) V3] (zp V0 V1) (zc 120) rfl s2 hlen (ht s4) (hsf.2 hne)
def zC(G:Be W σ Φ ok)(hpc:∀r,ok r->∀c∈r,c≠37)(h:RV t (xV v))(hok:ok t)(ht:t.length<=120):∃f,Tl f [v]/\dp f<=40/\bZ W σ Nr (bJ f)<=Φ t:=by
 cases h with
 | @good _ tk r r' l p _=>
  refine A3 (G.lex _ _ _ Nr hok l (λq=>by injection q)) λa1 a2 a3=>?_;refine a9 (GV G hpc (M:=Φ t) p 0 Nr v _ rfl .nil trivial a3 (by exact gb [R0 (zp (zp V0 V1) V2) V3] (zp (zp K0 (zp V0 V1)) V2) V3 rfl a1) a2 (λhne=>by haveI:=(bl (hpc _ hok) l).2 hne;simp only[rV,SQ,sum_nil];exact cj [R0 V1 (zc 120),R0 (S1 V0) V1] (zp K0 V0) (zc 120) rfl ht this)) ?_;intro f f1 f2 f3
  exact⟨f,f1,f2,by exact Nj (NV _ _) f3⟩
end
def ff{P:Prop}(q:Nr=Nk):P:=by cases q
inductive zA:Ni Nu->Tok->Ni Nu->Prop
 |fin:zA [] .fin []
 |name {r s:Ni Nu} (h:cU (a6 r)=xV s):zA (47::r) (.name s) (a8 r)
 |str {r b r':Ni Nu} (h:cw r 1=xV (b,r')):zA (40::r) (.str b) r'
 |hex {r b r':Ni Nu} (h:iD r []=xV (b,r')):zA (60::r) (.hex b) r'
 |two {c:Nu} {r:Ni Nu} (h:c=60\/c=62):zA (c::c::r) (.sign [c,c]) r
 |one {c:Nu} {r:Ni Nu} (h:c=91\/c=93\/c=123\/c=125):zA (c::r) (.sign [c]) r
 |run {c:Nu} {r:Ni Nu} (h:aI c=Nk):zA (c::r) (dg (a6 (c::r))) (a8 (c::r))
def vN(h:r.head?=xV c):r=c::r.drop 1:=by induction r with|nil=>cases h|cons x r=>injection h with h;subst h;rfl
def zA.of(o:∀c∈r,c≠37)(h:bG r=xV (tk,r')):zA (aE r) tk r':=by
 unfold bG at h;cases e:aE r with
 |nil=>rw[e,l0] at h;cases h;exact .fin
 |cons c l=>
  rw[e,l0] at h;haveI n:=jX e;haveI k:=o c ((aV r).subset (by rw[e];(exact Ny)));by_cases f:c=47
  ·rw[Np f,N2] at h
   refine ah h ?_;clear h;intro s d e;injection e with e a;subst e a;rw[f];exact .name d
  replace h:=(Nl f)▸h;by_cases j:c=40
  ·rw[Np j,N2] at h
   refine ah h ?_;clear h;intro p d e;injection e with e a;subst e a;rw[j];exact .str d
  replace h:=(Nl j)▸h;by_cases b:c=60
  ·replace h:=(Np b)▸h
   split at h
   ·next q=>cases h;rw[vN q];rw[b];exact .two (.inl rfl)
   ·rw[N2] at h
    refine ah h ?_;clear h;intro p d e;injection e with e a;subst e a;rw[b];exact .hex d
  replace h:=(Nl b)▸h;by_cases i:c=62
  ·replace h:=(Np i)▸h
   split at h
   ·next q=>cases h;rw[vN q];rw[i];exact .two (.inr rfl)
   ·exact(by contradiction)
  replace h:=(Nl i)▸h;by_cases m:c=41
  ·replace h:=(Np m)▸h;contradiction
  replace h:=(Nl m)▸h;by_cases g:c=91\/c=93\/c=123\/c=125
  ·rw[Np g] at h;cases h;exact .one g
  rw[Nl g] at h;cases h;exact .run (AQ n f j b i m g k)
def w5:∀l,sP (a8 l)=Nr:=by
 intro b;induction b with
 |nil=>exact rfl
 |cons c l a=>
  unfold a8;rw[Ur];split
  ·exact a
  ·next h=>refine(?_:aI c=Nr);simpa using h
def nS(b):eP (fv b)=Nr/\sP (fv b)=Nr:=by
 haveI h:∀x y l,aI x=Nr->aI y=Nr->eP (x::(l++[y]))=Nr/\sP (x::(l++[y]))=Nr:=by
  intro x y l c a;refine⟨?_,c⟩;unfold eP;refine bB (NU OS) ?_;rw[Uu];haveI:((x::l)++[y]==[47])=Nr:=by induction l<;>simp
  simp[a]
 unfold fv;split
 ·exact h 40 41 _ (by decide) (by decide)
 ·exact h 60 62 _ (by decide) (by decide)
def zA.flags(h:zA r tk r'):(eP (tp tk)=Nk->sP r'=Nr)/\(sP (tp tk)=Nk->sP r=Nk):=by
 induction h with
 |fin=>exact⟨λ_=>rfl,λq=>q⟩
 |name h=>exact⟨λ_=>w5 _,ff⟩
 |str h=>exact⟨λq=>ff ((nS _).1.symm.trans q),λq=>ff ((nS _).2.symm.trans q)⟩
 |hex h=>exact⟨λq=>ff ((nS _).1.symm.trans q),λq=>ff ((nS _).2.symm.trans q)⟩
 |two h=>rcases h with h|h<;>subst h<;>exact⟨ff,ff⟩
 |one h=>rcases h with h|h|h|h<;>subst h<;>exact⟨ff,ff⟩
 |run h=>exact⟨λ_=>w5 _,λ_=>h⟩
def flags(a:∀c∈r,c≠37)(h:bG r=xV (tk,r')):eP (tp tk)=Nk->sP r'=Nr:=(zA.of a h).flags.1
def Lb:Ni Nu->Prop
 |h::l::_=>0<=bT h/\0<=bT l
 | _=>OH
noncomputable def Clean:Ni Nu->Prop
 |[]=>Sl
 |c::r=>(c≠37/\c≠13/\(nq c=Nk\/(33<=c/\c<=126)))/\(c=35->Lb r)/\Clean r
def Clean.sfx:∀{r l},Clean (l++r)->Clean r:=by
 intro r b;induction b generalizing r with
 |nil=>intro h;exact h
 |cons c l a=>intro h;exact a h.2.2
def Clean.mem:∀{r},Clean r->∀c∈r,c≠37/\c≠13:=by
 intro b;induction b with
 |nil=>intro _ c d;contradiction
 |cons x r a=>
  intro h c d;refine ND (NH.mp d) (λe=>?_) (λe=>?_)
  ·rw[e];exact⟨h.1.1,h.1.2.1⟩
  ·exact a h.2.2 c e
def Clean.Ff(h:Clean l)(s:r <:+ l):Clean r:=by refine X1 s ?_;clear s;intro m a;subst a;exact Clean.sfx h
def vO(h:0<=bT c):aI c=Nk:=by
 haveI b:∀c,c<103->48<=c/\c<=57\/65<=c/\c<=70\/97<=c/\c<=102->aI c=Nk:=by decide
 unfold bT at h;split at h
 ·exact b c (by lia) (by lia)
 ·split at h
  ·exact b c (by lia) (by lia)
  ·split at h
   ·exact b c (by lia) (by lia)
   ·exact L92 h
noncomputable def KD:Ni Nu->Prop
 |[]=>Sl
 |c::r=>(33<=c/\c<=126/\aI c=Nk)/\(c=35->Lb r)/\KD r
theorem Clean.a6:∀{r},Clean r->KD (a6 r)
 |[],_=>trivial
 |c::r,h=>by
  unfold Mine.a6;rw[Ut];split
  ·next d=>
   refine⟨?_,λq=>?_,Clean.a6 h.2.2⟩
   ·have:=h.1.2.2.resolve_left (by rw[(kr d).1];simp)
    exact⟨this.1,this.2,d⟩
   ·have:=h.2.1 q
    match r,this with
    |a::b::r,⟨h1,h2⟩=>rw[RC (vO h1)];rw[RC (vO h2)];exact⟨h1,h2⟩
  ·trivial
def mH(c):(bg c).length<=3:=by unfold bg;split<;>simp[aS]
def Cd:∀m b s,b.length<m->KD b->cU b=xV s->(s.flatMap bg).length<=b.length:=by
 intro g;induction g with
 |zero=>intro _ _ h _ _;exact NK h (O1 _)
 |succ m d=>
  intro i;cases i with
  |nil=>intro s h _ e;rw[cU] at e;injection e with e;subst e;exact NA _
  |cons c r=>
   intro s h k e;rw[cU] at e;split at e
   ·contradiction
   ·rw[N2] at e
    refine ah e ?_;clear e;intro s' f l;subst l;replace h:=(Nn)▸h;rw[OC];rw[Nv];by_cases j:c=35
    ·haveI:=k.2.1 j
     match r,this with
     |a::b::r,⟨h1,h2⟩=>haveI n:aT c (a::b::r)=((16 * bT a+bT b).toNat,r):=Np ⟨j,h1,h2⟩;rw[n] at f ⊢;simp only[Nn] at h;haveI:=d r s' (cj [R0 (S1 (S1 (S1 (S1 V0)))) (S1 V1)] (S1 V0) V1 rfl h) k.2.2.2.2.2.2 f;haveI:=mH (16 * bT a+bT b).toNat;simp only[Nn];exact cR [R0 V1 V2,R0 V0 (zc 3)] (zp V0 V1) (S1 (S1 (S1 V2))) rfl (by assumption) this
    ·haveI n:aT c r=(c,r):=jQ j
     rw[n] at f ⊢;haveI:=d r s' (L45 h) k.2.2 f;haveI o:bg c=[c]:=Nl (by have:=k.1;rintro(q|q|q|q)<;>first|lia|(rw[this.2.2] at q;cases q));rw[o];simp only[Nn,NL];exact cj [R0 V0 V1] (zp (S1 K0) V0) (S1 V1) rfl this
def DE:∀r t n p g b f,kg r t n p=xV (g,b,f)->t<10 ^ n->(∀q,p=xV q->q<=n) ->
  g<10 ^ b/\(∀q,f=xV q->q<=b)/\b+(if f.isSome then 1 else 0)=n+(if p.isSome then 1 else 0)+r.length:=by
 intro j;induction j with
 |nil=>intro t n p g b f h i m;cases h;exact⟨i,m,rfl⟩
 |cons c r d=>
  intro t n p g b f h i m;rw[nN] at h;split at h
  ·next q=>
   refine A3 (d t n (xV 0) g b f h i (λq e=>by injection e with e;subst e;(exact O7 _ _))) λs k l=>?_;refine⟨s,k,?_⟩;rw[l];rw[q.2];rw[Nn];simp;exact L50
  ·split at h
   ·next q=>
    refine A3 (d _ (n+1) _ g b f h (by rw[Xg];exact L89 i q) (λq e=>by rw[N2] at e;refine ah e ?_;clear e;intro a e o;subst o;haveI:=m a e;exact L90 this)) ?_;intro s k l
    refine⟨s,k,?_⟩;rw[l];rw[isSome_map];rw[Nn];exact L91
   ·contradiction
def qd:∀q t,(dq t q).2<=q/\(dq t q).1.natAbs<=t.natAbs/\((dq t q).1<0->t<0)/\((dq t q).2≠0->(dq t q).1≠0):=by
 intro b;induction b with
 |zero=>intro t;exact⟨NA _,NA _,λh=>h,λh=>NK rfl h⟩
 |succ q a=>
  intro t;rw[nX];split
  ·next h=>
   refine A4 (a (t / 10)) λg d c f=>?_;exact⟨by(exact O9 ‹_›),by exact Nj d (natAbs_ediv_le_natAbs _ _),λk=>by haveI:=c k;exact L99 h c k,f⟩
  ·next h=>exact⟨NA _,NA _,λk=>k,λ_ e=>by subst e;exact adj h⟩
def dX(h:n<10 ^ k)(hk:0<k):(aA n).length<=k:=(dW hk).mpr h
def pO(t):(au t).length=(gu t).length+(aA t.natAbs).length:=by
 unfold au gu;split
 ·rw[Nn];rw[OA];exact L93
 ·rw[NL];exact L94
def qC(h:t.natAbs<10 ^ N)(g:0<N)(d:p<=N)(c:p≠0->t≠0):(cB t p).length<=(gu t).length+N+1:=by
 haveI b:=dX h g;haveI hi:=pO t;unfold cB;split
 ·rw[Nv];rw[hi];dsimp only[Nn,NL];exact cR [R0 V1 V2] (zp (zp V0 V1) (S1 K0)) (S1 (zp V0 V2)) rfl b
 ·next a=>
  haveI i:=c a;simp only[Nv,Nn,Ol,QK];split
  ·next q=>
   haveI j:=q.resolve_right i;haveI f:¬ (aA t.natAbs).length<=p:=λe=>by haveI:=(dW (aae a)).mp e;exact adk c a q this
   simp only[OR,Nv,QK];exact adl d b a f
  ·dsimp only[NL];exact adm d b a
def xa{T:Nu}(h:t<0->(if c6 run then -(T:N6) else(T:N6))<0):(gu t).length+(if g9 run then run.drop 1 else run).length<=run.length:=by
 have a:c6 run=Nk->g9 run=Nk:=by
  unfold c6 g9;clear h;induction run with
  |nil=>exact id
  |cons c r=>intro q;simp[q]
 unfold gu;by_cases b:g9 run=Nk
 ·rw[Np b]
  have:0<run.length:=by clear h a;induction run with|nil=>cases b|cons c r=>exact QG _
  rw[Ol];split<;>simp<;>exact cj [R2 (S1 V0) V1] (zp K1 V0) V1 rfl (NT (cZ [R0 (S1 K0) V0] K1 V0 rfl this))
 ·rw[Nl b]
  have d:c6 run=Nr:=by rw[Pu];exact λq=>b (a q)
  rw[d] at h;split
  ·next q=>have:=h q;simp at this;lia
  ·simp
set_option tactic.hygienic true in
def zd(run):(tp (dg run)).length<=run.length:=by
 unfold dg;induction hd:bN run with
 |none=>exact NA _
 |some x=>
  unfold bN at hd;split at hd
  ·cases hd
  ·next T N P e=>
   split at hd
   ·cases hd
   ·next f=>
    refine A3 (DE _ 0 0 Nm T N P e (by decide) (λq e=>by cases e)) λg h a=>?_;simp only[isSome_none,QN,Ub,Og] at a;have b:(if c6 run then -(T:N6) else(T:N6)).natAbs=T:=by split<;>lia
    clear e;induction P with
    |none=>cases hd;simp only[isSome_none,QN,Ub,TH] at a;have c:=xa (t:=if c6 run then -(T:N6) else(T:N6)) (λq=>q);have d:=pO (if c6 run then -(T:N6) else(T:N6));rw[b] at d;have:=dX g (cZ [R0 (S1 K0) V0] (S1 K0) V0 rfl (PD (Pl.mp f).1));show(au _).length<=_;exact jj [_,_,_,_,_,_] [R2 V2 V3,R0 (zp V4 V3) V1,R2 V0 (zp V4 V5),R0 V5 V2] V0 V1 rfl a c d this
    |some q=>cases hd;simp only[isSome_some,VX] at a;refine A4 (qd q (if c6 run then -(T:N6) else(T:N6))) λl k i j=>?_;have m:=h q rfl;have c:=xa i;have:=qC (gb [R0 (S1 V2) V1,R2 V3 V2,R0 V0 V3] (S1 V0) V1 rfl g b k) (cZ [R0 (S1 K0) V0] (S1 K0) V0 rfl (PD (Pl.mp f).1)) (L58 l m) j;show(cB _ _).length<=_;exact jj [_,_,_,_,_] [R2 (S1 V2) V3,R0 (zp V4 V3) V1,R0 V0 (S1 (zp V4 V2))] V0 V1 rfl a c this
noncomputable def lc(c:Nu):Nu:=if c=13\/c=92 then 2 else 1
noncomputable def GN:Ni Nu->Nu
 |[]=>0
 |c::b=>lc c+GN b
def EK:GN  ([])=(0):=by intros;rfl
def jL:∀c b,GN  (c::b)=(lc c+GN b):=by intros;rfl
noncomputable def br:Ni Nu->Nu->Nu->Nu
 |[],o,c=>o+c
 |x::b,o,c=>if x=40 then br b (o+1) c else if x=41 then(if o=0 then br b 0 (c+1) else br b (o - 1) c) else br b o c
def JR:∀o c,br  ([]) (o) (c)=(o+c):=by intros;rfl
def oO:∀x b o c,br  (x::b) (o) (c)=(if x=40 then br b (o+1) c else if x=41 then(if o=0 then br b 0 (c+1) else br b (o - 1) c) else br b o c):=by intros;rfl
def Ik:∀b k st d,(bI b k st d).2.length+(bI b k st d).1.length=br b st.length d.length:=by
 intro f;induction f with
 |nil=>intro k st d;exact PF _ _
 |cons c b a=>
  intro k st d;rw[fq];rw[oO];split
  ·rw[a];rw[Nv];rfl
  ·split
   ·split
    ·next h=>rw[a];rw[Nv];rw[h];rfl
    ·next h=>
     haveI g:st.length≠0:=λe=>h (OI e);rw[Nl g];rw[a];rw[length_dropLast];rfl
   ·rw[a];rfl
def HH(k):∀L:Ni Nu,(if k∈L then 1 else 0)+(L.filter λx=>decide (k+1<=x)).length<=(L.filter λx=>decide (k<=x)).length:=by
 intro b;induction b with
 |nil=>exact NA _
 |cons x L a=>
  haveI c:=a;by_cases d:x=k
  ·clear a;subst d
   rw[Np (by(exact Ny))];rw[PN (by simp)];rw[PE (by simp)];rw[Nn];split at c<;>lia
  ·haveI m:(k∈x::L)=(k∈L):=propext (by rw[NH];exact⟨λq=>q.resolve_left λe=>d e.symm,.inr⟩)
   simp only[m];by_cases f:k+1<=x
   ·rw[PE (by simpa using f)];rw[PE (by simp;(exact Nj (NV _ _) ‹_›))];rw[Nn];rw[Nn];exact Nu.lt_succ_of_le a
   ·rw[PN (by simp;(exact RE ‹_›))];rw[PN (by lia)];exact c
def yM(L):∀(b:Ni Nu)(k:Nu),(fj L k b).length<=GN b+(L.filter λx=>decide (k<=x)).length:=by
 intro g;induction g with
 |nil=>intro k;exact OL _
 |cons c b a=>
  intro k;haveI e:=a (k+1);haveI d:=HH k L;rw[gm];rw[Nv];rw[jL];rw[lc];split
  ·next h=>rw[Np (.inl h)];simp only[Nn,NL];exact jj [_,_,_,_,_] [R0 V0 (zp V1 V3),R0 (zp V4 V3) V2] (zp (S1 (S1 K0)) V0) (zp (zp (zc 2) V1) V2) rfl e d
  ·next h=>
   split
   ·next i=>
    by_cases f:c=92
    ·rw[Np (.inr f)];simp only[Nn,NL];exact jj [_,_,_,_,_] [R0 V0 (zp V1 V3),R0 (zp V4 V3) V2] (zp (S1 (S1 K0)) V0) (zp (zp (zc 2) V1) V2) rfl e d
    ·rw[Np (i.resolve_left f)] at d
     rw[Nl ((Pl.mpr ⟨h,f⟩))];simp only[Nn,NL];exact gb [R0 V0 (zp V1 V3),R0 (zp K1 V3) V2] (zp (S1 (S1 K0)) V0) (zp (zp K1 V1) V2) rfl e d
   ·next i=>
    rw[Nl ((Pl.mpr ⟨h,(Pl.mp i).1⟩))];simp only[Nn,NL];exact jj [_,_,_,_,_] [R0 V0 (zp V1 V3),R0 (zp V4 V3) V2] (zp (S1 K0) V0) (zp (zp K1 V1) V2) rfl e d
def wm(b):(yN b).length<=2+GN b+br b 0 0:=by
 haveI e:=yM (fk b) b 0;haveI d:=Ik b 0 [] [];haveI a:((fk b).filter λx=>decide (0<=x)).length<=(fk b).length:=VE _ _;haveI c:(fk b).length=br b 0 0:=by refine(Nv)▸?_;exact d
 rw[Nn];rw[Nv];rw[OA];exact jj [_,_,_,_,_] [R0 V0 (zp V1 V3),R0 V3 V4,R2 V4 V2] (S1 (S1 V0)) (zp (zp (zc 2) V1) V2) rfl e a c
def aaV:∀b o c,GN b+br b o c<=2 * b.length+o+c:=by
 intro e;induction e with
 |nil=>intro o c;rw[EK];rw[JR];rw[NL];exact adn
 |cons x b a=>
  intro o c;rw[jL];rw[oO];rw[lc];rw[Nn];split
  ·next h=>rw[Nl ((h.elim (λd=>ll [R2 V0 (zc 13)] (R3 V0 (zc 40)) rfl d) λd=>ll [R3 V0 (zc 92)] (R2 V0 (zc 40)) rfl d))];rw[Nl ((h.elim (λd=>ll [R2 V0 (zc 13)] (R3 V0 (zc 41)) rfl d) λd=>ll [R3 V0 (zc 92)] (R2 V0 (zc 41)) rfl d))];haveI:=a o c;exact jj [_,_,_,_,_] [R0 (zp V0 V1) (zp (zp (zm 2 V2) V3) V4)] (zp (zp (zc 2) V0) V1) (zp (zp (zm 2 (S1 V2)) V3) V4) rfl this
  ·split
   ·haveI:=a (o+1) c;exact jj [_,_,_,_,_] [R0 (zp V0 V1) (zp (zp (zm 2 V2) (S1 V3)) V4)] (zp (zp K1 V0) V1) (zp (zp (zm 2 (S1 V2)) V3) V4) rfl this
   ·split
    ·split
     ·haveI:=a 0 (c+1);exact jj [_,_,_,_,_] [R0 (zp V0 V1) (zp (zp (zm 2 V2) K0) (S1 V4))] (zp (zp K1 V0) V1) (zp (zp (zm 2 (S1 V2)) V3) V4) rfl this
     ·haveI:=a (o - 1) c;exact jj [_,_,_,_,_,_] [R0 (zp V0 V1) (zp (zp (zm 2 V2) V5) V4),R0 V5 V3] (zp (zp K1 V0) V1) (zp (zp (zm 2 (S1 V2)) V3) V4) rfl this (QR _ _)
    ·haveI:=a o c;exact jj [_,_,_,_,_] [R0 (zp V0 V1) (zp (zp (zm 2 V2) V3) V4)] (zp (zp K1 V0) V1) (zp (zp (zm 2 (S1 V2)) V3) V4) rfl this
noncomputable def K9(o e:Nu):Nu:=(o - e)+(e - o)
def KS(x)(b)(o c e):∃g h,br (x::b) o c=br b g h/\lc x+h+K9 g e<=2+c+K9 o e:=by
 unfold K9 lc;rw[oO];by_cases f:x=40
 ·exact(Np f)▸⟨o+1,c,rfl,by rw[Nl ((Pl.mpr ⟨ll [R3 V0 (zc 40)] (R2 V0 (zc 13)) rfl f,ll [R2 V0 (zc 40)] (R3 V0 (zc 92)) rfl f⟩))];exact ado⟩
 refine(Nl f)▸?_;refine(NG (x=41)).elim (λa=>?_) (λa=>?_)
 ·rw[Np a]
  by_cases d:o=0
  ·exact(Np d)▸⟨0,c+1,rfl,by rw[Nl ((Pl.mpr ⟨ll [R3 V0 (zc 41)] (R2 V0 (zc 13)) rfl a,ll [R2 V0 (zc 41)] (R3 V0 (zc 92)) rfl a⟩))];exact jj [_,_,_,_,_,_,_] [R2 V5 K0,R0 V1 K0,R0 V2 V6,R0 V6 (zp V4 V5)] (zp (zp K1 (S1 V0)) (zp V1 V2)) (zp (zp (zc 2) V0) (zp V3 V4)) rfl d (QR _ _) (QR _ _) (mV _ _)⟩
  ·rw[Nl d];exact⟨o - 1,c,rfl,by rw[Nl ((Pl.mpr ⟨ll [R3 V0 (zc 41)] (R2 V0 (zc 13)) rfl a,ll [R2 V0 (zc 41)] (R3 V0 (zc 92)) rfl a⟩))];exact adp d⟩
 rw[Nl a];exact⟨o,c,rfl,by split<;>lia⟩
def BL(r):r=[]\/((eH r).2.length+1<=r.length/\((eH r).1=[]\/∃x,(eH r).1=[x])):=by
 induction r with
 |nil=>exact .inl rfl
 |cons c r=>
  refine .inr ?_;rw[eH];split
  ·exact⟨NA _,.inl rfl⟩
  ·split
   ·exact⟨by haveI:=wJ 2 (c - 48) r;(exact Pd ‹_›),.inr ⟨_,rfl⟩⟩
   ·exact⟨NA _,.inr ⟨_,rfl⟩⟩
def aev(a:1<=d)(hd:d≠1)(h:l+b+1+r'<=r+(c+1)+(0 - (d - 1 - 1)+(d - 1 - 1 - 0))):1+l+b+1+r'<=r+1+c+(0 - (d - 1)+(d - 1 - 0)):=by
 match d,a,hd,h with
 | 1,_,hd,_=>exact NK rfl hd
 |d+2,_,_,h=>rw[show d+2 - 1 - 1=d from rfl,Xh,Xi,Og] at h;rw[show d+2 - 1=d+1 from rfl,Xh,Xi,Og];exact jj [_,_,_,_,_,_] [R0 (zp (S1 (zp V0 V1)) V2) (zp (zp V3 (S1 V4)) V5)] (zp (S1 (zp (zp K1 V0) V1)) V2) (zp (zp (S1 V3) V4) (S1 V5)) rfl h
def aew(a:o≠0)(e:1<=d)(hd:d≠1)(h:l+b+1+r'<=r+c+(o - 1 - (d - 1 - 1)+(d - 1 - 1 - (o - 1)))):1+l+b+1+r'<=r+1+c+(o - (d - 1)+(d - 1 - o)):=by
 match o,d,a,e,hd,h with
 | 0,_,a,_,_,_=>exact NK rfl a
 | _+1,1,_,_,hd,_=>exact NK rfl hd
 |o+1,d+2,_,_,_,h=>rw[show d+2 - 1 - 1=d from rfl,show o+1 - 1=o from rfl] at h;rw[show d+2 - 1=d+1 from rfl];rw[T5];rw[T5];generalize o - d+(d - o)=g at h ⊢;exact jj [_,_,_,_,_,_] [R0 (zp (S1 (zp V0 V1)) V2) (zp (zp V3 V4) V5)] (zp (S1 (zp (zp K1 V0) V1)) V2) (zp (zp (S1 V3) V4) V5) rfl h
def ET:∀m r d b s,r.length<m->(∀c∈r,c≠13)->1<=d->cw r d=xV (b,s)->∀o c,GN b+br b o c+1+s.length<=r.length+c+K9 o (d - 1):=by
 intro w;induction w with
 |zero=>intro _ _ _ _ h _ _ _;lia
 |succ m f=>
  intro z;induction z using Nw with
  |nil=>intro d b s _ _ _ h;rw[cw] at h;contradiction
  |cons x r=>
   intro d b s hm D hd h;intro o c;rw[cw] at h;simp only[Nn] at hm;have k:∀c∈r,c≠13:=λc E=>D c (by(exact NB _ ‹_›));by_cases A:x=92
   ·rw[Np A,N2] at h
    refine ah h ?_;clear h;intro j h e;obtain⟨v,r1⟩:=j;injection e with e i;subst e i
    rcases BL r with I|⟨C,l⟩
    ·clear hm D k;subst I;rw[show(eH []).2=[] from rfl,cw] at h;exact(by contradiction)
    ·haveI B:∀c∈(eH r).2,c≠13:=λc E=>k c ((kj r).subset E)
     have a:=f _ d v r1 (cR [R0 (S1 (S1 V2)) (S1 V1),R0 (S1 V0) V2] (S1 V0) V1 rfl hm C) B hd h;rcases l with l|⟨y,l⟩
     ·refine(l)▸?_;haveI:=a o c
      simp only[OX,Nn];exact jj [_,_,_,_,_,_,_] [R0 (S1 V6) V3,R0 (zp (S1 (zp V0 V1)) V2) (zp (zp V6 V4) V5)] (zp (S1 (zp V0 V1)) V2) (zp (zp (S1 V3) V4) V5) rfl C this
     ·rw[l]
      refine bo (KS y v o c (d - 1)) λF G n p=>?_;haveI:=a F G;rw[VF];rw[jL];rw[n];dsimp only[Nn];exact jj [_,_,_,_,_,_,_,_,_,_] [R0 (S1 V7) V4,R0 (zp (zp V0 (zv 8)) (zv 9)) (zp (zp (zc 2) V5) V6),R0 (zp (S1 (zp V1 V2)) V3) (zp (zp V7 (zv 8)) (zv 9))] (zp (S1 (zp (zp V0 V1) V2)) V3) (zp (zp (S1 V4) V5) V6) rfl C p this
   ·rw[Nl A] at h
    by_cases t:x=41/\d=1
    ·replace h:=(Np t)▸h;injection h with h;injection h with h;subst h
     rw[t.2];simp only[Nn,EK,jL,JR,oO,K9];lia
    ·rw[Nl t,N2] at h
     refine ah h ?_;clear h;intro j h e;obtain⟨v,r1⟩:=j;injection e with e i;subst e i
     haveI H:lc x=1:=Nl (by haveI:=D x (by(exact Ny));exact(Pl.mpr ⟨((Oq this).elim (λg=>ll [R0 (S1 V0) (zc 13)] (R3 V0 (zc 13)) rfl g) λg=>ll [R0 (S1 (zc 13)) V0] (R2 V0 (zc 13)) rfl g),A⟩));rw[jL];rw[H];rw[oO];haveI a:=f r _ v r1 (by grind) k (by split;lia;split<;>lia) h;dsimp only[Nn];unfold K9 at a ⊢;refine(NG (x=40)).elim (λn=>?_) (λn=>?_)
     ·rw[Np n] at a ⊢;haveI:=a (o+1) c;grind
     ·rw[Nl n] at a ⊢
      by_cases p:x=41
      ·rw[Np p] at a ⊢
       haveI ed:d≠1:=λq=>t ⟨p,q⟩;by_cases u:o=0
       ·rw[Np u];rw[u];exact aev hd ed (a 0 (c+1))
       ·rw[Nl u];exact aew u hd ed (a (o - 1) c)
      ·rw[Nl p] at a ⊢;haveI:=a o c;exact jj [_,_,_,_,_,_,_] [R0 (zp (S1 (zp V0 V1)) V2) (zp (zp V3 V4) (zp V5 V6))] (zp (S1 (zp (zp K1 V0) V1)) V2) (zp (zp (S1 V3) V4) (zp V5 V6)) rfl this
def Ea:∀r f b e,iD r f=xV (b,e)->∃a,b=a7 a/\a.length+1+e.length<=f.length+r.length:=by
 intro g;induction g with
 |nil=>intro f b e h;contradiction
 |cons c r d=>
  intro f b e h;rw[kp] at h;rw[Nn];split at h
  ·injection h with h;injection h with h;subst h;exact⟨f,rfl,by lia⟩
  ·split at h
   ·refine ah (d _ b e h) λa j i=>?_
    rw[Nv,OA] at i;exact⟨a,j,by exact gb [R0 (zp (S1 V0) V1) (zp (S1 V2) V3)] (zp (S1 V0) V1) (zp V2 (S1 V3)) rfl i⟩
   ·split at h
    ·refine ah (d _ b e h) λa j i=>?_
     exact⟨a,j,by grind⟩
    ·contradiction
def KR(h:x≠40/\x≠41):∀b o c,br (b++[x]) o c=br b o c:=by
 intro d;induction d with
 |nil=>intro o c;exact(Nl h.1).trans (Nl h.2)
 |cons y b a=>intro o c;rw[OS];rw[oO];rw[oO];rw[a];rw[a];rw[a];rw[a];rfl
def Ig(b)(x):GN (b++[x])=GN b+lc x:=by
 induction b with
 |nil=>refine(?_:lc x+0=0+lc x);simp
 |cons y b a=>rw[OS];rw[jL];rw[jL];rw[a];exact(Qx _ _ _).symm
theorem mL:∀m d,d.length<m->(2 * (a7 d).length=d.length)\/(∃b a,a7 d=b++[16 * a]/\2 * b.length+1=d.length)
 | 0,_=>λh=>by(exact NK ‹_› (O1 _))
 |m+1,[]=>λ_=>.inl rfl
 |m+1,[a]=>λ_=>.inr ⟨[],a,rfl,rfl⟩
 |m+1,a::c::r=>λh=>by
  rw[l7];simp only[Nn] at h ⊢;rcases mL m r (cj [R0 (S1 (S1 (S1 V0))) (S1 V1)] (S1 V0) V1 rfl h) with e|⟨b,x,g,f⟩
  ·exact .inl (zE [_,_] [] [R2 (zm 2 V0) V1,R3 (zm 2 V0) V1] (zm 2 (S1 V0)) (S1 (S1 V1)) [1,1,0] [1,0,1] rfl rfl e e)
  ·exact .inr ⟨(16 * a+c)::b,x,by rw[g];rfl,by rw[Nn];exact zE [_,_] [] [R2 (S1 (zm 2 V0)) V1,R3 (S1 (zm 2 V0)) V1] (S1 (zm 2 (S1 V0))) (S1 (S1 V1)) [1,1,0] [1,0,1] rfl rfl f f⟩
def vP(b):(yx b).length=2 * b.length+2:=by
 haveI:(b.flatMap aS).length=2 * b.length:=by
  induction b with
  |nil=>rfl
  |cons c b a=>rw[OC,Nv,a,Nn,aS,Nn,Nn,NL];exact PF _ _
 rw[Nn];rw[Nv];rw[this];rw[OA];rfl
def oa(b):(fv b).length<=(yN b).length/\(fv b).length<=(yx b).length:=by unfold fv;split<;>lia
def Fp(c):(fv (a7 c)).length<=c.length+2:=by
 haveI k:=(oa (a7 c)).1;haveI d:=(oa (a7 c)).2;rcases mL _ c (Oe _) with e|⟨b,a,f,i⟩
 ·rw[vP] at d;exact cR [R0 V0 (zp (zm 2 V2) (zc 2)),R2 (zm 2 V2) V1] V0 (zp V1 (zc 2)) rfl d e
 ·haveI g:=wm (a7 c)
  rw[f,Ig,KR (adq)] at g;haveI h:lc (16 * a)=1:=Nl (ads);haveI j:=aaV b 0 0;grind
def D7:Be (λt=>(tp t).length) 1 OZ Clean where
 str:=λ_=>rfl
 lex:=by
  intro r tk l e m h he;have v:∀c∈r,c≠37:=λc f=>(m.mem c f).1;haveI f:=zA.of v h;have x:=(f.flags).1;have w:=(f.flags).2;refine⟨?_,x,m.Ff (bl v h).1⟩;haveI u:=(aV r).length_le;haveI j:=m.Ff (aV r);haveI main:(tp tk).length+l.length<=(aE r).length:=by
   generalize aE r=z at f j;induction f with
   |fin=>exact NA _
   | @name r s k=>haveI i:=Cd _ _ s (Oe _) (Clean.a6 j.2.2) k;haveI d:=NN OZ (mU r);replace d:=(Nv)▸d;refine(?_:(47::s.flatMap bg).length+_<=_);simp only[Nn];exact gb [R0 V0 V3,R2 (zp V3 V1) V2] (zp (S1 V0) V1) (S1 V2) rfl i d
   | @str r b l k=>haveI i:=ET _ r 1 b l (Oe _) (λc f=>(j.2.2.mem c f).2) (NA _) k 0 0;haveI d:=wm b;have o:=(oa b).1;refine(?_:(fv b).length+_<=_);dsimp only[Nn];unfold K9 at i;exact jj [_,_,_,_,_,_] [R0 (zp (S1 (zp V3 V4)) V1) (zp (zp V2 K0) (zp K0 K0)),R0 V5 (zp (zp (zc 2) V3) V4),R0 V0 V5] (zp V0 V1) (S1 V2) rfl i d o
   | @hex r b l k=>refine ah (Ea r [] b l k) λn y p=>?_;haveI:=Fp n;rw[y];refine(?_:(fv _).length+_<=_);simp only[Nn,NL] at p ⊢;exact gb [R0 (zp (S1 V3) V1) (zp K0 V2),R0 V0 (zp V3 (zc 2))] (zp V0 V1) (S1 V2) rfl p this
   |two h=>refine(?_:2+_<=_);dsimp only[Nn];lia
   |one h=>refine(?_:1+_<=_);simp only[Nn];grind
   | @run c r k=>haveI i:=zd (Mine.a6 (c::r));haveI d:=NN OZ (mU (c::r));grind
  split
  ·next q=>
   rw[Od] at q;haveI i:=he q.1;haveI d:=w q.2;haveI:aE r≠r:=λe=>by rw[e,i] at d;injection d
   haveI o:(aE r).length≠r.length:=λe=>this ((aV r).eq_of_length e);exact((Oq o).elim (λg=>gb [R0 (zp V0 V1) V3,R0 (S1 V3) V2] (zp (zp K1 V0) V1) V2 rfl main g) λg=>zL [_,_,_,_] [] [R0 V3 V2,R0 (S1 V2) V3] (zp (zp K1 V0) V1) V2 [0,1,1] rfl u g)
  ·exact gb [R0 V3 V2,R0 (zp V0 V1) V3] (zp (zp K0 V0) V1) V2 rfl u main
noncomputable def Dw(s:Ni Nu)(f:Ni Nu->Nu)(p:Tok×Ni Nu):Nu:=if p.1=.fin then 0 else(if p.1=.name s then 1 else 0)+f p.2
noncomputable def C0(s:Ni Nu):Nu->Ni Nu->Nu
 | 0,_=>0
 |n+1,r=>(bG r).elim 0 (Dw s (C0 s n))
def aen(s):∀a,C0 s (0) (a)=(0):=by intros;rfl
def tc(r:Ni Nu):Prop:=∀c∈r,c≠37
def Dx(s):∀n m r,tc r->r.length<n->r.length<m->C0 s n r=C0 s m r:=by
 intro d;induction d with
 |zero=>intro _ _ _ h _;exact aaf h
 |succ n a=>
  intro e;induction e with
  |zero=>intro _ _ _ h;exact aaf h
  |succ m=>
   intro r f j l;refine(?_:(bG r).elim 0 (Dw s (C0 s n))=(bG r).elim 0 (Dw s (C0 s m)));induction i:bG r with
   |none=>rfl
   |some p=>obtain⟨tk,b⟩:=p;have l1:=(bl f i).1;have g:=(bl f i).2;have o:tc b:=λc k=>f c (l1.subset k);refine(?_:(if tk=.fin then 0 else _+C0 s n b)=if tk=.fin then 0 else _+C0 s m b);refine(NG (tk=.fin)).elim (λq=>(Np q).trans (Np q).symm) λq=>?_;rw[a m b o (NY (g q) (Qa j)) (NY (g q) (Qa l))];rfl
def tH(s r:Ni Nu):Nu:=C0 s (r.length+1) r
def ka(b:tc r)(h:bG r=xV (tk,r'))(a:tk≠.fin):tH s r=(if tk=.name s then 1 else 0)+tH s r':=by haveI l1:=(bl b h).1;have d:=(bl b h).2;haveI f:tc r':=λc g=>b c (l1.subset g);haveI:=d a;haveI e:C0 s r.length r'=tH s r':=Dx s _ _ r' f (by assumption) (NA _);refine(e)▸?_;refine(?_:(bG r).elim 0 (Dw s (C0 s r.length))=_);rw[h];exact Nl a
def D6(s):Be (λt=>if t=.name s then 1 else 0) 0 (tH s) tc where
 str:=λ_=>rfl
 lex:=by
  intro r tk i e a h he;have l1:=(bl a h).1;haveI g:=(bl a h).2;refine⟨?_,flags a h,λc j=>a c (l1.subset j)⟩;rw[Wr];rw[Og];by_cases b:tk=.fin
  ·clear g;subst b
   haveI:i=[]:=by
    have d:=zA.of a h;generalize aE r=k at d;generalize f:Tok.fin=t at d;induction d<;>first|rfl|cases f|skip
    unfold dg at f;split at f<;>contradiction
   rw[this];exact OL _
  ·exact Q1 (ka a h b).symm
def dt(h:∀c∈p,aI c=Nk)(b:sP R=Nr):a6 (p++R)=p/\a8 (p++R)=R:=by
 unfold a6 a8;haveI a:R=[]\/∃c l,R=c::l/\aI c=Nr:=by
  induction R with
  |nil=>exact .inl rfl
  |cons c l=>exact .inr ⟨c,l,rfl,b⟩
 induction p with
 |nil=>
  rcases a with rfl|⟨c,l,rfl,e⟩
  ·exact⟨rfl,rfl⟩
  ·rw[OX];rw[Ut];rw[Ur];rw[e];exact⟨rfl,rfl⟩
 |cons c p d=>haveI:=d λx f=>h x (by(exact NB _ ‹_›));rw[OS];rw[RC (h c (by simp))];rw[RB (h c (by simp))];rw[this.1];rw[this.2];exact⟨rfl,rfl⟩
def uE(a:∀c∈p,aI c=Nk)(e:p≠[])(f:dg p=tk)(d:sP R=Nr):bG (p++R)=xV (tk,R):=by
 refine A2 (dt a d) λh g=>?_;induction p using Nw with
 |nil=>exact NK rfl e
 |cons c l=>haveI b:=a c (by(exact Ny));rw[pV b (lg (kr b).1)];rw[h];rw[g];rw[f];rfl
def fg(t):au t=gu t++aA t.natAbs:=by unfold au gu;split<;>rfl
def xb(t)(a:b=c::l)(h:c≠43/\c≠45):g9 (gu t++b)=decide (t<0)/\c6 (gu t++b)=decide (t<0)/\(if g9 (gu t++b) then(gu t++b).drop 1 else gu t++b)=b:=by
 rw[a];by_cases q:t<0
 ·haveI e:gu t=[45]:=Np q
  rw[e];rw[NP q];exact⟨rfl,rfl,rfl⟩
 ·haveI e:gu t=[]:=Nl q
  haveI f:g9 (c::l)=Nr:=by refine(?_:(c==43||c==45)=Nr);rw[OE h.1];rw[OE h.2];rfl
  haveI d:c6 (c::l)=Nr:=OE h.2;rw[e];rw[N5 q];rw[OX];rw[f];rw[d];exact⟨rfl,rfl,rfl⟩
def AX(t):(if decide (t<0)=Nk then -((t.natAbs:Nu):N6) else(t.natAbs:N6))=t:=by
 split
 ·next h=>rw[N8] at h;exact adx h
 ·next h=>rw[N8] at h;exact zJ [_] [_] [R6 (zu V0) V0,R4 V0 (zu V0)] (zu V0) V0 [1,1,0] [1,0,1] rfl rfl (VG (f9 [R5 (S1 V0) K0] K0 V0 rfl h)) WH
def mJ(n):∃c l,aA n=c::l/\48<=c/\c<=57:=by
 induction e:aA n with
 |nil=>have:=dY n;replace this:=(e)▸this;contradiction
 |cons c l=>have:=bw n c (by rw[e];(exact Ny));exact⟨c,l,rfl,this⟩
def DF(h:∀c∈l,48<=c/\c<=57):kg l 0 0 Nm=xV (val l 0,l.length,Nm):=by haveI:=pB l [] 0 0 Nm h;rw[N9] at this;rw[this];rw[Og];rfl
def vW(h:t.natAbs<10 ^ 40):bN (au t)=xV (.int t):=by refine aO (mJ t.natAbs) λc l e a f=>?_;refine A3 (xb t e (⟨ll [R0 (zc 48) V0] (R2 V0 (zc 43)) rfl a,ll [R0 (zc 48) V0] (R2 V0 (zc 45)) rfl a⟩)) λd s2 b=>?_;unfold bN;rw[fg];rw[b];rw[s2];rw[DF (bw _)];rw[hJ];simp only[Vp,Og];haveI:=dX h (by decide);haveI:=dY t.natAbs;rw[Nl ((Pl.mpr ⟨ll [R0 (S1 K0) V0] (R2 V0 K0) rfl this,ll [R0 V0 (zc 40)] (R0 (S1 (zc 40)) V0) rfl (by assumption)⟩))];rw[AX];rfl
def DG(f:∀c∈A,48<=c/\c<=57)(j:∀c∈B,48<=c/\c<=57)(g:val (A++B) 0=t.natAbs)(n:B.length=p)(i:dq t p=(t,p))(h:0<A.length+p)(b:A.length+p<=40):bN (gu t++(A++46::B))=xV (.real t p):=by
 obtain⟨c,l,e,m⟩ : ∃c l,A++46::B=c::l/\c≠43/\c≠45:=by
  clear g h b;induction A using Nw with
  |nil=>exact⟨46,B,rfl,by decide,by decide⟩
  |cons a A=>have:=f a (by(exact Ny));exact⟨a,_,rfl,by exact ll [R0 (zc 48) V0] (R2 V0 (zc 43)) rfl this.1,by exact ll [R0 (zc 48) V0] (R2 V0 (zc 45)) rfl this.1⟩
 refine A3 (xb t e m) λo s2 k=>?_;haveI d:kg (A++46::B) 0 0 Nm=xV (t.natAbs,A.length+p,xV p):=by refine(pB A _ 0 0 Nm f)▸?_;haveI:=pB B [] (val A 0) (0+A.length) (xV 0) j;rw[N9] at this;rw[this];refine bB (NU g) ?_;rw[A9];rw[n];rw[Og];simp only[Hn,nN,Wu,Og];rfl
 unfold bN;rw[k];rw[s2];rw[d];dsimp only;rw[Nl ((Pl.mpr ⟨nG [R0 (S1 K0) (zp V0 V1)] (R2 (zp V0 V1) K0) rfl h,nG [R0 (zp V0 V1) (zc 40)] (R0 (S1 (zc 40)) (zp V0 V1)) rfl b⟩))];rw[AX];rw[i];rfl
def nP(h:48<=c/\c<=57):aI c=Nk:=by
 haveI a:∀c,c<58->48<=c->aI c=Nk:=by decide
 exact a c (cZ [R0 V0 (zc 57)] (S1 V0) (zc 58) rfl h.2) h.1
def uJ(t):∀c∈gu t,aI c=Nk:=by
 unfold gu;split
 ·intro c a;rw[mem_singleton.mp a];rfl
 ·intro c a;contradiction
def l9(l:p<40)(hn:dq t p=(t,p))(ht:t.natAbs<10 ^ 40):∃A B,cB t p=gu t++(A++46::B)/\(∀c∈A,48<=c/\c<=57)/\(∀c∈B,48<=c/\c<=57)/\val (A++B) 0=t.natAbs/\B.length=p/\0<A.length+p/\A.length+p<=40:=by
 haveI k:=dX ht (by decide);haveI hps:=dY t.natAbs;unfold cB;refine(NG (p=0)).elim (λb=>?_) (λb=>?_)
 ·rw[Np b]
  refine⟨aA t.natAbs,[],?_,bw _,(λc d=>by cases d),?_,b.symm,by(exact NY ‹_› (NV _ _)),by exact cj [R0 V0 (zc 40),R2 V1 K0] (zp V0 V1) (zc 40) rfl k b⟩
  ·rw[fg];rw[NM];rfl
  ·rw[N9];rw[hJ];exact Kz
 rw[Nl b];haveI hn0:t≠0:=λe=>by haveI:=(qd p t).2.2.2;replace this:=(hn)▸this;exact this b e
 generalize hm:Pc (p+1 - (aA t.natAbs).length) 48++aA t.natAbs=m;haveI a:m.length=max (p+1) (aA t.natAbs).length:=by refine bB (NU hm) ?_;rw[Nv];rw[QK];exact UW _ _
 haveI h:∀c∈m,48<=c/\c<=57:=by
  refine bB (NU hm) λc d=>?_;refine ND (mem_append.mp d) (λq=>?_) (λq=>?_)
  ·rw[(mem_replicate.mp q).2];decide
  ·exact bw _ c q
 haveI i:val m 0=t.natAbs:=by refine bB (NU hm) ?_;rw[ta];rw[hJ];exact Kz
 haveI g:(m.drop (m.length - p)).length=p:=by rw[Ol];exact adv b a
 refine⟨if 10 ^ p<=t.natAbs\/t=0 then m.take (m.length - p) else[],m.drop (m.length - p),rfl,?_,λc d=>h c ((Ni.drop_sublist _ _).subset d),?_,g,by exact cj [R0 (S1 K0) V1] (S1 K0) (zp V0 V1) rfl (PD b),?_⟩
 ·split
  ·exact λc d=>h c ((Ni.take_sublist _ _).subset d)
  ·intro c d;cases d
 ·split
  ·rw[TV];exact i
  ·next q=>
   rw[OX];haveI j:=(dW (aae b)).mpr (cj [R1 V1 V0] (S1 V0) V1 rfl (Pl.mp q).1);haveI e:m.length - p=1:=by exact zE [_,_,_,_] [] [R2 V1 V2,R2 (zp V0 V3) V1,R2 V2 (S1 V3),R3 V1 V2,R0 V1 (zp V0 V3),R0 (S1 V3) V2] V0 K1 [1,1,1,1,0,0,0] [1,0,0,0,1,1,1] rfl rfl a (NT (cR [R3 V1 V2,R0 (S1 V0) V2] V0 V1 rfl a (Ox _ _))) (Nu.max_eq_left (cj [R0 V0 V1] V0 (S1 V1) rfl j)) a (mV _ _) (Ox _ _)
   haveI e2:p+1 - (aA t.natAbs).length=(p - (aA t.natAbs).length)+1:=by exact zE [_,_,_,_] [] [R2 (zp V0 V2) (S1 V3),R0 V3 (zp V1 V2),R0 (S1 V3) (zp V0 V2),R2 (zp V1 V2) V3] V0 (S1 V1) [1,1,1,0,0] [1,0,0,1,1] rfl rfl (NT (cj [R0 V0 V1] V0 (S1 V1) rfl j)) (mV _ _) (mV _ _) (NT (j))
   rw[e];refine bB (NU hm) ?_;rw[e2];rw[Sj];rw[OS];rw[Ni.drop_succ_cons];rw[Ni.drop_zero];rw[ta];rw[hJ];exact Kz
 ·split
  ·rw[OR];exact adw l k b a
  ·rw[NL];exact cZ [R0 (S1 V0) (zc 40)] (zp K0 V0) (zc 40) rfl l
def yw:∀k,k<16->bT (eL k)=k/\eL k≠62:=by decide
def qb:∀s,(∀c∈s,0<c/\c<256)->cU (s.flatMap bg)=xV s:=by
 intro f;induction f with
 |nil=>intro _;rw[SR];rw[cU];rfl
 |cons c s a=>
  intro h;haveI e:=h c (by(exact Ny));haveI d:=a λx j=>h x (by(exact NB _ ‹_›));refine(OC)▸?_;unfold bg;split
  ·haveI g:=(yw (c / 16) (zL [_,_,_] [] [R0 (S1 V1) (zc 256),R2 (zp (zm 16 V0) V2) V1] (S1 V0) (zc 16) [16,1,1] rfl e.2 (OF _ _))).1
   haveI i:=(yw (c % 16) (cZ [R0 (S1 V0) (zc 16)] (S1 V0) (zc 16) rfl (RM _ (QB _)))).1;rw[aS];rw[OS];rw[cU];have b:aT 35 ([eL (c / 16),eL (c % 16)]++s.flatMap bg)=(c,s.flatMap bg):=by
    show(if _ then _ else _)=_;rw[Np (⟨zE [] [] [] (zc 35) (zc 35) [1] [1] rfl rfl,⟨zI [_] [_] [R7 V0 (zu V0)] K0 V0 [1,1] rfl g,zI [_] [_] [R7 V0 (zu V0)] K0 V0 [1,1] rfl i⟩⟩)];rw[g];rw[i]
    congr 1;exact adu e
   unfold bg at b d;rw[b];rw[Nl (by dsimp only;exact ll [R0 (S1 K0) V0] (R2 V0 K0) rfl e.1)];rw[d];rfl
  ·next q=>
   rw[VF];rw[cU];have b:∀r,aT c r=(c,r):=λr=>jQ λk=>q (.inr (.inr (.inl k)));unfold bg at d;rw[b];rw[Nl (by simp only;exact ll [R0 (S1 K0) V0] (R2 V0 K0) rfl e.1)];rw[d];rfl
def gV{s:Ni Nu}(h:∀c∈s,c<256):∀c∈s.flatMap bg,aI c=Nk:=by
 intro c f;refine ah (mem_flatMap.mp f) λx d a=>?_;haveI b:=h x d;unfold bg at a;split at a
 ·unfold aS at a
  haveI:c=35\/c=eL (x / 16)\/c=eL (x % 16):=by simpa using a
  rcases this with e|e|e
  ·rw[e];rfl
  ·rw[e];exact pL _ (zL [_,_,_] [] [R0 (S1 V1) (zc 256),R2 (zp (zm 16 V0) V2) V1] (S1 V0) (zc 16) [16,1,1] rfl b (OF _ _))
  ·rw[e];exact pL _ (RM _ (by decide))
 ·next h=>
  rw[mem_singleton.mp a];induction hr:aI x with
  |true=>rfl
  |false=>exact NK (.inr (.inr (.inr hr))) h
def qE:∀b k st e x,(x∈(bI b k st e).1->x∈st\/k<=x)/\(x∈(bI b k st e).2->x∈e\/k<=x)/\(x∈e->x∈(bI b k st e).2):=by
 intro i;induction i with
 |nil=>intro k st e x;exact⟨.inl,.inl,id⟩
 |cons c b d=>
  intro k st e x;rw[fq];split
  ·refine A3 (d (k+1) (st++[k]) e x) λh g f=>?_
   refine⟨λq=>?_,λq=>(g q).imp id ((λa=>cj [R0 (S1 V0) V1] V0 V1 rfl a)),f⟩;refine ND (h q) (λz=>?_) (λz=>?_)
   ·exact(mem_append.mp z).imp id λz=>by rw[mem_singleton.mp z];exact NA _
   ·exact .inr (aai z)
  ·split
   ·split
    ·refine A3 (d (k+1) st (e++[k]) x) λh g f=>?_
     refine⟨λq=>(h q).imp id ((λa=>cj [R0 (S1 V0) V1] V0 V1 rfl a)),λq=>?_,λq=>f (mem_append_left _ q)⟩;refine ND (g q) (λz=>?_) (λz=>?_)
     ·exact(mem_append.mp z).imp id λz=>by rw[mem_singleton.mp z];exact NA _
     ·exact .inr (aai z)
    ·refine A3 (d (k+1) st.dropLast e x) λh g f=>?_
     exact⟨λq=>(h q).imp (λz=>(dropLast_sublist st).subset z) ((λa=>cj [R0 (S1 V0) V1] V0 V1 rfl a)),λq=>(g q).imp id ((λa=>cj [R0 (S1 V0) V1] V0 V1 rfl a)),f⟩
   ·refine A3 (d (k+1) st e x) λh g f=>?_
    exact⟨λq=>(h q).imp id ((λa=>cj [R0 (S1 V0) V1] V0 V1 rfl a)),λq=>(g q).imp id ((λa=>cj [R0 (S1 V0) V1] V0 V1 rfl a)),f⟩
noncomputable def vj(L st:Ni Nu):Nu:=(st.filter λx=>decide (x∉L)).length
def sj(L st)(k):vj L (st++[k])=vj L st+if k∈L then 0 else 1:=by
 unfold vj;rw[U8];rw[Nv];split
 ·next h=>rw[PN (by simp[h])];rfl
 ·next h=>rw[PE (by exact NP ‹_›)];rfl
def kE(he:eH (c::X)=([x],X))(h:cw X d=xV (b,R)):cw (92::c::X) d=xV (x::b,R):=by rw[cw];rw[Np rfl];rw[he];rw[h];rfl
def EV(L R):∀b k st d,(∀x,x∈L↔x∈(bI b k st d).2\/x∈(bI b k st d).1)->(st++d).Nodup->(∀x∈st++d,x<k)->cw (fj L k b++41::R) (1+vj L st)=xV (b,R):=by
 intro A;induction A with
 |nil=>
  intro k st d hL t hk;haveI e:vj L st=0:=by unfold vj;rw[Sx];rw[QU];intro x i;haveI:=(hL x).mpr (.inr i);simp[this]
  rw[e];refine(?_:cw (41::R) 1=_);rw[cw];rw[Nl (by decide)];rw[Np ⟨rfl,rfl⟩];rfl
 |cons c b h=>
  intro k st d hL t hk;have n:∀x∈st++d,x<k+1:=λx i=>Q7 (hk x i);have g:k∉st/\k∉d:=⟨λq=>P4 _ (hk k (mem_append_left _ q)),λq=>P4 _ (hk k (mem_append_right _ q))⟩;refine(NG (c=40)).elim (λm=>?_) (λm=>?_)
  ·cases m
   haveI es:bI (40::b) k st d=bI b (k+1) (st++[k]) d:=by rw[fq];rw[Np rfl];rfl
   have r:(st++[k]++d).Nodup:=by rw[NM];refine(perm_middle).nodup_iff.mpr (Ow.mpr ⟨λq=>?_,t⟩);exact(Of.mp q).elim g.1 g.2
   haveI j:=h (k+1) (st++[k]) d hL r (λx i=>by
    refine ND (Of.mp i) (λq=>?_) (λq=>?_)
    ·refine ND (Of.mp q) (λq=>?_) (λq=>?_)
     ·exact n x (Qw _ q)
     ·exact(Oc.mp q)▸(Oe _)
    ·exact n x (Qe _ q))
   rw[sj] at j;rw[gm];rw[Nl (by decide)];by_cases f:k∈L
   ·rw[Np (.inr f)]
    rw[Np f] at j;exact kE rfl j
   ·rw[Nl λq=>q.elim (by decide) f]
    rw[Nl f] at j;refine(?_:cw (40::(fj L (k+1) b++41::R)) _=_);rw[cw];rw[Nl (by decide)];rw[Nl (by simp)];rw[Np rfl];rw[Qx];rw[j];rfl
  refine(NG (c=41)).elim (λl=>?_) (λl=>?_)
  ·clear m;subst l
   refine(NG (st=[])).elim (λw=>?_) (λw=>?_)
   ·clear hk;subst w
    haveI es:bI (41::b) k [] d=bI b (k+1) [] (d++[k]):=by rw[fq];rw[Nl (by decide)];rw[Np rfl];rw[Np rfl];rfl
    haveI f:=(hL k).mpr (.inl ((qE b (k+1) [] (d++[k]) k).2.2 (Qe _ (Ni.mem_singleton_self _))));haveI r:([]++(d++[k])).Nodup:=by refine(Ni.perm_append_comm (l₂:=[k])).nodup_iff.mpr (Ow.mpr ⟨g.2,t⟩)
    haveI j:=h (k+1) [] (d++[k]) hL r (λx i=>by
     haveI i:x∈d++[k]:=i;refine ND (Of.mp i) (λq=>?_) (λq=>?_)
     ·exact n x (Qe _ q)
     ·rw[Oc.mp q];exact Oe _)
    rw[gm];rw[Nl (by decide)];rw[Np (.inr f)];exact kE rfl j
   ·obtain⟨o,y,rfl⟩ : ∃o y,st=o++[y]:=⟨_,_,(OM w).symm⟩
    haveI es:bI (41::b) k (o++[y]) d=bI b (k+1) o d:=by rw[fq];rw[Nl (by decide)];rw[Np rfl];rw[Nl w];rw[Uv];rfl
    replace hL:=(es)▸hL;have u:∀x,x∈L->x∈d\/x∈o\/k+1<=x:=λx i=>by
     refine A3 (qE b (k+1) o d x) λC D _=>?_;rcases(hL x).mp i with q|q
     ·refine ND (D q) (λq=>?_) (λq=>?_)
      ·exact .inl q
      ·exact .inr (.inr q)
     ·exact .inr (C q)
    haveI f:k∉L:=λq=>by
     rcases u k q with z|z|z
     ·exact g.2 z
     ·exact g.1 (Qw _ z)
     ·exact P4 _ z
    rw[NM,Ni.singleton_append] at t;have p:=(Ni.perm_middle).nodup_iff.mp t;rw[Ow] at p;haveI B:y∉L:=λq=>by
     rcases u y q with z|z|z
     ·exact p.1 (Qe _ z)
     ·exact p.1 (Qw _ z)
     ·haveI:=hk y (by simp);exact Nu.lt_asymm z this
    haveI j:=h (k+1) o d hL p.2 (λx i=>n x (by
     refine ND (Of.mp i) (λq=>?_) (λq=>?_)
     ·exact Qw _ (Qw _ q)
     ·exact Qe _ q))
    rw[sj];rw[Nl B];rw[gm];rw[Nl (by decide)];rw[Nl λq=>q.elim (by decide) f];refine(?_:cw (41::(fj L (k+1) b++41::R)) _=_);rw[cw];rw[Nl (by decide)];rw[Nl (adt)];rw[Nl (by decide)];rw[Np rfl];rw[show 1+(vj L o+1) - 1=1+vj L o by exact rfl];rw[j];rfl
  ·haveI es:bI (c::b) k st d=bI b (k+1) st d:=by rw[fq];rw[Nl m];rw[Nl l];rfl
   replace hL:=(es)▸hL;have f:k∉L:=λq=>by
    refine A3 (qE b (k+1) st d k) λC D _=>?_;refine ND ((hL k).mp q) (λq=>?_) (λq=>?_)
    ·refine ND (D q) (λq=>?_) (λq=>?_)
     ·exact g.2 q
     ·omega
    ·refine ND (C q) (λq=>?_) (λq=>?_)
     ·exact g.1 q
     ·omega
   have j:=h (k+1) st d hL t n;rw[gm];by_cases v:c=13
   ·cases v;exact kE rfl j
   rw[Nl v];by_cases s:c=92
   ·rw[s];exact kE rfl j
   rw[Nl λq=>q.elim s f];refine(?_:cw (c::(fj L (k+1) b++41::R)) _=_);rw[cw];rw[Nl s];rw[Nl (λq=>l q.1)];rw[Nl m];rw[Nl l];rw[j];rfl
def EW(b R):cw (fj (fk b) 0 b++41::R) 1=xV (b,R):=by haveI:=EV (fk b) R b 0 [] [] (λx=>by unfold fk;rw[Of];rfl) (by decide) (by(decide));exact this
def yY:∀b,(∀c∈b,c<256)->a7 (b.flatMap λc=>[c / 16,c % 16])=b:=by
 intro d;induction d with
 |nil=>intro _;exact rfl
 |cons c b a=>
  intro h;refine(OC)▸?_;refine(?_:(16 * (c / 16)+c % 16)::a7 (b.flatMap λc=>[c / 16,c % 16])=_);rw[a λx e=>h x (by(exact NB _ ‹_›))]
  congr 1;exact zE [_,_,_] [] [R2 (zp (zm 16 V0) V1) V2,R3 (zp (zm 16 V0) V1) V2] (zp (zm 16 V0) V1) V2 [1,1,0] [1,0,1] rfl rfl (OF _ _) (OF _ _)
def vQ(hk:k<16)(b:c=eL k):iD (c::r) hs=iD r (hs++[k]):=by refine A2 (yw k hk) λa d=>?_;rw[b];rw[kp];rw[Nl d];rw[Np (zI [_] [_] [R7 V0 (zu V0)] K0 V0 [1,1] rfl a)];rw[a];rfl
def Ec(R):∀(b d:Ni Nu),(∀c∈b,c<256)->iD (b.flatMap aS++62::R) d=xV (a7 (d++b.flatMap λc=>[c / 16,c % 16]),R):=by
 intro e;induction e with
 |nil=>intro d _;rw[SR,SR,N9,OX,kp,Np rfl]
 |cons c b a=>intro d h;haveI f:=h c (by(exact Ny));rw[OC];rw[OC];rw[aS];rw[vQ (by exact zL [_,_,_] [] [R0 (S1 V1) (zc 256),R2 (zp (zm 16 V0) V2) V1] (S1 V0) (zc 16) [16,1,1] rfl f (OF _ _)) rfl];rw[vQ (by exact cZ [R0 (S1 V0) (zc 16)] (S1 V0) (zc 16) rfl (RM _ (QB _))) rfl];rw[a _ λx g=>h x (by(exact NB _ ‹_›))];simp only[NM,OS,OX]
def Ed(R:Ni Nu)(h:∀c∈b,c<256):iD (b.flatMap aS++62::R) []=xV (b,R):=by rw[Ec R b [] h];rw[OX];rw[yY b h];rfl
def j0:Tok->Prop
 |.word b=>dg b=.word b/\(∀c∈b,aI c=Nk)/\b≠[]
 |.int i=>i.natAbs<10 ^ 40
 |.real t p=>t.natAbs<10 ^ 40/\p<40/\dq t p=(t,p)
 |.name s=>∀c∈s,0<c/\c<256
 |.str b=>∀c∈b,c<256
 |.sign b=>b=[91]\/b=[93]\/b=[60,60]\/b=[62,62]
 | _=>OH
inductive xu:Tok->Tok->Prop
 |same (t:Tok):xu t t
 |hex (b:Ni Nu):xu (.str b) (.hex b)
def Aw(h:j0 tk)(j:eP (tp tk)=Nk->sP R=Nr):∃f,xu tk f/\bG (tp tk++R)=xV (f,R):=by
 induction tk with
 |word b=>refine⟨_,.same _,uE h.2.1 h.2.2 h.1 (j ?_)⟩;obtain⟨s',c,e⟩ : ∃s' c,b=s'++[c]:=⟨_,_,(OM h.2.2).symm⟩;rw[e];exact nQ (h.2.1 c (by refine(e)▸?_;simp))
 |int i=>
  refine⟨_,.same _,uE (p:=au i) ?_ ?_ ?_ (j (bU i).2)⟩
  ·rw[fg];intro c g
   refine ND (mem_append.mp g) (λq=>?_) (λq=>?_)
   ·exact uJ i c q
   ·exact nP (bw _ c q)
  ·intro e;haveI:=(bU i).1;replace this:=(e)▸this;injection this
  ·unfold dg;rw[vW h];rfl
 |real t p=>
  refine Mine.e9 (l9 h.2.1 h.2.2 h.1) λA B e hA hB n=>?_;refine Mine.A4 n λhv hp h0 o=>?_;haveI r:=DG hA hB hv hp h.2.2 h0 o;have d:∀c∈gu t++(A++46::B),aI c=Nk:=by
   intro c g;refine ND (mem_append.mp g) (λq=>?_) (λq=>?_)
   ·exact uJ t c q
   refine ND (mem_append.mp q) (λq=>?_) (λq=>?_)
   ·exact nP (hA c q)
   refine ND (NH.mp q) (λq=>?_) (λq=>?_)
   ·refine(q)▸?_;rfl
   ·exact nP (hB c q)
  haveI l:gu t++(A++46::B)≠[]:=by simp
  refine⟨_,.same _,uE (p:=cB t p) (by rw[e];exact d) (by refine(e)▸?_;exact l) ?_ (j ?_)⟩
  ·unfold dg;rw[e];rw[r];rfl
  ·refine(?_:eP (cB t p)=Nk)
   refine(e)▸?_;obtain⟨s',c,e2⟩ : ∃s' c,gu t++(A++46::B)=s'++[c]:=⟨_,_,(OM l).symm⟩;rw[e2] at d ⊢;exact nQ (d c (by simp))
 |name s=>refine⟨_,.same _,?_⟩;haveI h1:=(dt (gV λc g=>(h c g).2) (j (nR s))).1;haveI h2:=(dt (gV λc g=>(h c g).2) (j (nR s))).2;unfold bG;rw[lg (by decide)];rw[l0];rw[Np rfl];rw[h1];rw[h2];rw[qb s h];rfl
 |str b=>
  refine(?_:∃f,_/\bG (fv b++R)=_);unfold fv;split
  ·refine⟨_,.same _,?_⟩
   rw[OS];rw[NM];refine(?_:(cw (fj (fk b) 0 b++41::R) 1).map _=_);rw[EW];rfl
  ·refine⟨_,.hex _,?_⟩
   rw[OS];rw[NM];refine(?_:(if(b.flatMap aS++62::R).head?=xV 60 then _ else _)=_);rw[Nl]
   ·refine(Ed R h)▸?_;rfl
   ·clear j;induction b using Nw with
    |nil=>intro q;contradiction
    |cons c b=>
     haveI:=h c (by(exact Ny));haveI m:∀k:Nu,k<16->eL k≠60:=by decide
     intro q;haveI q:=q;replace q:=N1 q;exact m _ (zL [_,_,_] [] [R0 (S1 V1) (zc 256),R2 (zp (zm 16 V0) V2) V1] (S1 V0) (zc 16) [16,1,1] rfl this (OF _ _)) q
 |sign b=>rcases h with h|h|h|h<;>subst h<;>exact⟨_,.same _,rfl⟩
 |hex b=>contradiction
 |fin=>contradiction
noncomputable def jd:NF->Fo->Prop
 |true,.nil=>Sl
 |true,.atom (.name _) r=>jd Nr r
 |false,.atom _ r=>jd Nk r
 |false,.arr _ r=>jd Nk r
 |false,.dict _ r=>jd Nk r
 | _,_=>OH
noncomputable def Bb:Fo->Prop
 |.nil=>Sl
 |.atom _ r=>Bb r
 |.arr l r=>Bb l/\Bb r
 |.dict l r=>jd Nk l/\Bb l/\Bb r
def iR(h:jd Nk r):r=.nil\/∃k b,r=.atom (.name k) b/\jd Nr b:=by
 induction r with
 |nil=>exact .inl rfl
 |atom a r=>induction a with
  |name k=>exact .inr ⟨k,r,rfl,h⟩
  | _=>contradiction
 |arr l r=>contradiction
 |dict l r=>contradiction
def Bk:∀{K}{f},Tl f (aX ks us K)->jd Nk f:=by
 intro j;induction j with
 |nil=>intro f h;rw[Tl.nil h];trivial
 |cons k K b=>
  intro f h;haveI e:aX ks us (k::K)=qo k (b7 k ks us)++aX ks us K:=by unfold aX;rw[OC];rfl
  replace h:=(e)▸h;induction o:b7 k ks us with
  |none=>replace h:=(o)▸h;exact b h
  |some v=>
   replace h:=(o)▸h;haveI h:Tl f (el k v++aX ks us K):=h;unfold el at h;split at h
   ·refine ah (Tl.name h) λr n g=>?_;clear h;subst n
    refine(?_:jd Nr r);clear h;cases r with
    |nil=>contradiction
    |atom a r=>refine aO g ?_;clear g;intro _ d e _ i;injection e with e c;subst e c;exact b i
    |arr l r=>refine e9 g ?_;clear g;intro _ d e _ _ i;injection e with e c;subst e c;exact b i
    |dict l r=>refine Mine.bO g λ_ _ d e _ _ m=>?_;refine Mine.A3 m λ_ _ i=>?_;injection e with e c;subst e c;exact b i
   ·exact b h
def Tl.wf:∀{f}{vs},Tl f vs->Bb f:=by
 intro g;induction g with
 |nil=>intro _ _;exact trivial
 |atom a r b=>intro _ h;refine aO h ?_;clear h;intro _ _ _ _ d;exact b d
 |arr l r b c=>intro _ h;refine e9 h ?_;clear h;intro _ _ _ _ e d;exact⟨b e,c d⟩
 |dict l r b c=>intro _ h;refine Mine.bO h λ_ _ _ _ _ _ i=>?_;refine Mine.A3 i λ_ e d=>?_;exact⟨Bk e,b e,c d⟩
def aa7(n)(i j):eD n (.int i) (.int j)=xV (i==j):=by induction n<;>rfl
def JW(n)(i j):eD n (.str i) (.str j)=xV (i==j):=by induction n<;>rfl
def aa6(n)(i j):eD n (.bytes i) (.bytes j)=xV (i==j):=by induction n<;>rfl
def c5:eD (n+1) (.tup (.str k'::xs)) (.tup (.str k::ys))=if k'=k then du (eD n) xs ys else xV Nr:=by
 refine(?_:(match eD n (.str k') (.str k) with|some Nk=>du (eD n) xs ys|some Nr=>xV Nr|none=>Nm)=_);rw[JW];by_cases h:k'=k
 ·rw[Np h];rw[Ob.mpr h];rfl
 ·rw[Nl h];rw[OE h];rfl
def iV:du (eD n) (.int i::xs) (.int j::ys)=if i=j then du (eD n) xs ys else xV Nr:=by
 refine(?_:(match eD n (.int i) (.int j) with|some Nk=>du (eD n) xs ys|some Nr=>xV Nr|none=>Nm)=_);rw[aa7];by_cases h:i=j
 ·rw[Np h];rw[Ob.mpr h];rfl
 ·rw[Nl h];rw[OE h];rfl
def HB:du (eD n) (.str i::xs) (.str j::ys)=if i=j then du (eD n) xs ys else xV Nr:=by
 refine(?_:(match eD n (.str i) (.str j) with|some Nk=>du (eD n) xs ys|some Nr=>xV Nr|none=>Nm)=_);rw[JW];by_cases h:i=j
 ·rw[Np h];rw[Ob.mpr h];rfl
 ·rw[Nl h];rw[OE h];rfl
def HA:du (eD n) (.bytes i::xs) (.bytes j::ys)=if i=j then du (eD n) xs ys else xV Nr:=by
 refine(?_:(match eD n (.bytes i) (.bytes j) with|some Nk=>du (eD n) xs ys|some Nr=>xV Nr|none=>Nm)=_);rw[aa6];by_cases h:i=j
 ·rw[Np h];rw[Ob.mpr h];rfl
 ·rw[Nl h];rw[OE h];rfl
def lM:du (eD n) [] []=xV Nk:=rfl
def jb(a:Atom):∃xs,a.told=.tup (.str a.kind::xs):=by induction a<;>exact⟨_,rfl⟩
def Ia{a b:Atom}(h:a.kind≠b.kind):eD (n+1) a.told b.told=xV (decide (a=b)):=by refine X1 (jb a) λxs e=>?_;refine X1 (jb b) λys d=>?_;haveI c:a≠b:=λq=>h (by rw[q];rfl);rw[e];rw[d];rw[c5];rw[Nl h];rw[N5 c];rfl
def i3[Pw p][Pw q](h:p↔q):(if p then xV Nk else xV Nr)=xV (decide q):=by
 by_cases a:p
 ·rw[Np a];rw[NP (h.mp a)];rfl
 ·haveI b:¬ q:=λz=>a (h.mpr z)
  rw[Nl a];rw[N5 b];rfl
def DM(a b:Atom)(n):eD (n+1) a.told b.told=xV (decide (a=b)):=by
 by_cases h:a.kind=b.kind
 ·induction a with
  |null=>
   induction b<;>first|(cases h;done)|skip
   rw[c5];rw[Np rfl];exact(NN xV (NP rfl)).symm
  |truth x=>induction b with
   |truth y=>rw[Atom.told];rw[Atom.told];rw[c5];rw[Np rfl];rw[iV];rw[lM];exact i3 ⟨λe=>NN Atom.truth (by revert e;clear h;induction x<;>induction y<;>decide),λe=>by injection e with e;rw[e];rfl⟩
   | _=>cases h
  |int x=>induction b with
   |int y=>rw[Atom.told];rw[Atom.told];rw[c5];rw[Np rfl];rw[iV];rw[lM];exact i3 (by rw[Atom.int.injEq];rfl)
   | _=>cases h
  |real x p=>induction b with
   |real y q=>
    rw[Atom.told];rw[Atom.told];rw[c5];rw[Np rfl];rw[iV];rw[iV];rw[lM];by_cases e:x=y
    ·rw[Np e];refine i3 ?_;rw[Atom.real.injEq];simp only[e,Xy];exact Pg
    ·haveI c:Atom.real x p≠.real y q:=λz=>e (by cases z;rfl)
     rw[Nl e];rw[N5 c];rfl
   | _=>cases h
  |name x=>induction b with
   |name y=>rw[Atom.told];rw[Atom.told];rw[c5];rw[Np rfl];rw[HB];rw[lM];exact i3 (by rw[Atom.name.injEq];rfl)
   | _=>cases h
  |str x=>induction b with
   |str y=>rw[Atom.told];rw[Atom.told];rw[c5];rw[Np rfl];rw[HA];rw[lM];exact i3 (by rw[Atom.str.injEq];rfl)
   | _=>cases h
  |ref x p=>induction b with
   |ref y q=>
    rw[Atom.told];rw[Atom.told];rw[c5];rw[Np rfl];rw[iV];rw[iV];rw[lM];by_cases e:x=y
    ·rw[Np e];refine i3 ?_;rw[Atom.ref.injEq];simp only[e,Xy]
    ·haveI c:Atom.ref x p≠.ref y q:=λz=>e (by cases z;rfl)
     rw[Nl e];rw[N5 c];rfl
   | _=>cases h
 ·exact Ia h
def tY[Pw p][Pw q](c:eD n x y=xV (decide p))(b:du (eD n) xs ys=xV (decide q)):du (eD n) (x::xs) (y::ys)=xV (decide (p/\q)):=by
 refine(?_:(match eD n x y with|some Nk=>du (eD n) xs ys|some Nr=>xV Nr|none=>Nm)=_);rw[c];by_cases a:p
 ·rw[NP a];rw[b];simp[a]
 ·rw[N5 a];simp[a]
noncomputable def qL:Fo->Nu
 |.nil=>0
 |.atom _ r=>qL r+1
 |.arr l r=>qL l+qL r+1
 |.dict l r=>qL l+qL r+1
def zl:qL  (.nil)=(0):=by intros;rfl
def zo:∀a r,qL  (.atom a r)=(qL r+1):=by intros;rfl
def zq:∀l r,qL  (.arr l r)=(qL l+qL r+1):=by intros;rfl
def zt:∀l r,qL  (.dict l r)=(qL l+qL r+1):=by intros;rfl
def kd1:Fo->Ni Nu
 |.nil=>[]
 |.atom a _=>a.kind
 |.arr _ _=>[97,114,114,97,121]
 |.dict _ _=>[100,105,99,116]
def iS(a:Atom):a.kind≠[97,114,114,97,121]/\a.kind≠[100,105,99,116]:=by induction a<;>exact⟨(λq=>by cases q),(λq=>by cases q)⟩
def di[Pw p][Pw q](h:o=xV (decide p))(e:p↔q):o=xV (decide q):=by rw[h];simp only[e]
def EqA(m n:Nu):Prop:=∀(N:Nu)(f f':Fo),n+n<=N->qL f<m->Bb f->Bb f'->dp f'<n->du (eD N) (tv f) (tv f')=xV (decide (f=f'))
def EqB(m n:Nu):Prop:=∀(N:Nu)(f f':Fo),n+n<=N->qL f<m->Bb f->Bb f'->jd Nk f->jd Nk f'->dp f'<n->du (eD N) (AK (tv f)) (AK (tv f'))=xV (decide (f=f'))
def tZ(t:n+n<=N)(u:EqA m n)(w:EqB m n):∀(f c:Fo),f≠.nil->c≠.nil->qL (ed f)<=m->Bb f->Bb c->dp (ed c)<n+1->eD (N+1) (oi f) (oi c)=xV (decide (ed f=ed c)):=by
 intro f c s j o p i hd;have arr:∀l r l' d,f=.arr l r->c=.arr l' d->eD (N+1) (oi f) (oi c)=xV (decide (ed f=ed c)):=by rintro l r l' d rfl rfl;haveI hd:dp (.arr l' .nil)<n+1:=hd;haveI o:=o;simp only[iA,gf,gh,gi] at hd;rw[c5];rw[Np rfl];exact di (u N l l' t (by assumption) p.1 i.1 (aag hd)) (by refine(?_:l=l'↔Fo.arr l .nil=.arr l' .nil);simp)
 have dict:∀l r l' d,f=.dict l r->c=.dict l' d->eD (N+1) (oi f) (oi c)=xV (decide (ed f=ed c)):=by rintro l r l' d rfl rfl;haveI hd:dp (.dict l' .nil)<n+1:=hd;haveI o:=o;dsimp only[dp] at hd;rw[c5];rw[Np rfl];exact di (w N l l' t (by assumption) p.2.1 i.2.1 p.1 i.1 (aag hd)) (by refine(?_:l=l'↔Fo.dict l .nil=.dict l' .nil);simp)
 haveI k:∀f,f≠.nil->∃xs,oi f=.tup (.str (kd1 f)::xs):=by
  intro f h;induction f with
  |nil=>exact NK rfl h
  |atom a r=>exact jb a
  |arr l r=>exact⟨_,rfl⟩
  |dict l r=>exact⟨_,rfl⟩
 haveI ne:kd1 f≠kd1 c->eD (N+1) (oi f) (oi c)=xV (decide (ed f=ed c)):=by
  intro hk;refine X1 (k f s) λxs e=>?_;refine X1 (k c j) λys v=>?_;rw[e];rw[v];rw[c5];rw[Nl hk];rw[N5];rfl;intro q;haveI:∀g,g≠.nil->kd1 (ed g)=kd1 g:=by intro g x;induction g<;>first|rfl|exact NK rfl x
  exact hk (by refine bB (NU (this f s)) ?_;rw[q];rw[this c j];rfl)
 clear o p;cases f with
 |nil=>exact NK rfl s
 |atom a r=>
  clear i hd;cases c with
  |nil=>exact NK rfl j
  |atom b d=>exact di (DM a b N) (by refine(?_:a=b↔Fo.atom a .nil=.atom b .nil);simp)
  |arr l d=>exact ne (iS a).1
  |dict l d=>exact ne (iS a).2
 |arr l r=>
  clear i hd;cases c with
  |nil=>exact NK rfl j
  |atom b d=>exact ne (OG (iS b).1)
  |arr l' d=>exact arr _ _ _ _ rfl rfl
  |dict l' d=>exact ne (λq=>by cases q)
 |dict l r=>
  clear i hd;cases c with
  |nil=>exact NK rfl j
  |atom b d=>exact ne (OG (iS b).2)
  |arr l' d=>exact ne (λq=>by cases q)
  |dict l' d=>exact dict _ _ _ _ rfl rfl
def dr(h:f≠.nil):tv f=oi f::tv (f7 f)/\qL f=qL (ed f)+qL (f7 f)/\0<qL (ed f)/\(Bb f->Bb (f7 f))/\dp f=max (dp (ed f)) (dp (f7 f)):=by
 induction f with
 |nil=>exact NK rfl h
 |atom a r=>exact⟨rfl,by simp[zl,zo,zq,zt,ed,f7];exact L93,by exact QG _,λw=>w,by(rfl)⟩
 |arr l r=>exact⟨rfl,by simp[zl,zo,zq,zt,ed,f7];exact aah,by exact QG _,λw=>w.2,by(rfl)⟩
 |dict l r=>exact⟨rfl,by simp[zl,zo,zq,zt,ed,f7];exact aah,by exact QG _,λw=>w.2.2,by(rfl)⟩
def FY(h:f≠.nil)(b:f'≠.nil):(ed f=ed f'/\f7 f=f7 f')↔f=f':=by
 constructor
 ·rintro⟨a,c⟩
  cases f<;>cases f'<;>simp_all [ed,f7]
 ·rintro rfl;exact⟨rfl,rfl⟩
def abl(h:f≠.nil):dp (ed f)<=dp f:=by haveI:=(dr h).2.2.2.2;exact cR [R3 V1 V2,R0 V0 V2] V0 V1 rfl this (Ox _ _)
def Ac:∀m n,EqA m n/\EqB m n:=by
 intro m;induction m with
 |zero=>exact λn=>⟨λN f o _ h=>NK h (O1 _),λN f o _ h=>NK h (O1 _)⟩
 |succ m u=>
  intro n;have A:EqA (m+1) n:=by
   intro N f o p t s b hd;by_cases h:f=.nil
   ·rw[h]
    by_cases i:o=.nil
    ·rw[i];exact(NN xV (NP rfl)).symm
    ·rw[(dr i).1]
     refine(?_:xV Nr=_);rw[N5 (OG i)];rfl
   ·by_cases i:o=.nil
    ·rw[i]
     rw[(dr h).1];refine(?_:xV Nr=_);rw[N5 h];rfl
    ·refine A5 (dr h) λy x D E J=>?_
     refine A5 (dr i) λF I G z v=>?_;rw[y];rw[F];obtain⟨n0,rfl⟩ : ∃n0,n=n0+1:=⟨n - 1,by exact zE [_,_] [] [R0 V0 (S1 V1),R2 (S1 V1) V0] V0 (S1 V1) [1,1,0] [1,0,1] rfl rfl (mV _ _) (NT (cj [R0 (S1 V1) V0] K1 V0 rfl hd))⟩;obtain⟨g,rfl⟩ : ∃g,N=g+1:=⟨N - 1,by exact zE [_,_] [] [R0 V0 (S1 V1),R2 (S1 V1) V0] V0 (S1 V1) [1,1,0] [1,0,1] rfl rfl (mV _ _) (NT (cj [R0 (zp (S1 V1) (S1 V1)) V0] K1 V0 rfl p))⟩;haveI B:=tZ (cj [R0 (zp (S1 V0) (S1 V0)) (S1 V1)] (zp V0 V0) V1 rfl p) (u n0).1 (u n0).2 f o h i (gb [R0 (S1 V2) (S1 V1),R3 V2 (zp V0 V3)] V0 V1 rfl t x) s b (gb [R3 V2 V3,R0 (S1 V2) (S1 V1),R0 V0 V3] (S1 V0) (S1 V1) rfl v hd (Ox _ _));haveI C:=(u (n0+1)).1 (g+1) (f7 f) (f7 o) p (gb [R0 (S1 V2) (S1 V1),R3 V2 (zp V3 V0),R0 (S1 K0) V3] (S1 V0) V1 rfl t x D) (E s) (z b) (gb [R3 V2 V3,R0 (S1 V2) (S1 V1),R0 V0 V3] (S1 V0) (S1 V1) rfl v hd (RF _ _));exact di (tY B C) (FY h i)
  refine⟨A,?_⟩;intro N f o p t s b H w hd;rcases iR H with rfl|⟨k,r,rfl,l⟩
  ·rcases iR w with rfl|⟨k',d,rfl,a⟩
   ·exact(NN xV (NP rfl)).symm
   ·have c:d≠.nil:=λq=>by rw[q] at a;exact a
    refine(?_:du (eD N) [] (AK (.tup [.str _,.str k']::tv d))=_);rw[(dr c).1];refine(?_:xV Nr=_);rw[N5];rfl;exact λq=>by contradiction
  ·have hr:r≠.nil:=λq=>by rw[q] at l;exact l
   refine A5 (dr hr) λy x D E J=>?_;rcases iR w with rfl|⟨k',d,rfl,a⟩
   ·refine(?_:du (eD N) (AK (.tup [.str _,.str k]::tv r)) []=_)
    rw[y];refine(?_:xV Nr=_);rw[N5];rfl;exact λq=>by contradiction
   ·have c:d≠.nil:=λq=>by rw[q] at a;exact a
    refine A5 (dr c) λF I G z v=>?_;refine(?_:du (eD N) (AK (.tup [.str _,.str k]::tv r)) (AK (.tup [.str _,.str k']::tv d))=_);rw[y];rw[F];have t:=t;have hd:=hd;have s:=s;haveI b:=b;obtain⟨n0,rfl⟩ : ∃n0,n=n0+1:=⟨n - 1,by exact zE [_,_] [] [R0 V0 (S1 V1),R2 (S1 V1) V0] V0 (S1 V1) [1,1,0] [1,0,1] rfl rfl (mV _ _) (NT (cj [R0 (S1 V1) V0] K1 V0 rfl (by assumption)))⟩;obtain⟨g,rfl⟩ : ∃g,N=g+1+1:=⟨N - 2,by exact zE [_,_] [] [R0 V0 (zp V1 (zc 2)),R2 (zp V1 (zc 2)) V0] V0 (S1 (S1 V1)) [1,1,0] [1,0,1] rfl rfl (mV _ _) (NT (cj [R0 (zp (S1 V1) (S1 V1)) V0] (zc 2) V0 rfl p))⟩;have j:∀{r},jd Nr r->jd Nk (f7 r):=by intro r h;induction r<;>first|exact h|exact Rb h
    haveI B:=tZ (cj [R0 (zp (S1 V0) (S1 V0)) (S1 (S1 V1))] (zp V0 V0) V1 rfl p) (u n0).1 (u n0).2 r d hr c (gb [R3 V2 (zp V0 V3),R0 (S1 (S1 V2)) (S1 V1)] V0 V1 rfl x t) s b (gb [R3 V2 V3,R0 (S1 V2) (S1 V1),R0 V0 V3] (S1 V0) (S1 V1) rfl v hd (Ox _ _));haveI K:eD (g+1+1) (.tup [.str k,oi r]) (.tup [.str k',oi d])=xV (decide (k=k'/\ed r=ed d)):=by
     rw[c5];by_cases e:k=k'
     ·rw[Np e]
      exact di (tY B (show du (eD (g+1)) [] []=xV (decide Sl) from rfl)) (by simp[e])
     ·rw[Nl e];simp[e]
    haveI C:=(u (n0+1)).2 (g+1+1) (f7 r) (f7 d) p (gb [R3 V2 (zp V3 V0),R0 (S1 K0) V3,R0 (S1 (S1 V2)) (S1 V1)] (S1 V0) V1 rfl x D t) (E s) (z b) (j l) (j a) (gb [R3 V2 V3,R0 (S1 V2) (S1 V1),R0 V0 V3] (S1 V0) (S1 V1) rfl v hd (RF _ _));refine di (tY K C) ?_;rw[Fo.atom.injEq];rw[Atom.name.injEq];rw[and_assoc];rw[FY hr c];rfl
def HC(h:Tl f [v])(g:Tl f' [v'])(hd:dp f'<=3):eD 64 (oi f) (oi f')=xV (decide (f=f')):=by
 have j:f≠.nil:=λq=>by rw[q] at h;contradiction
 have b0:f'≠.nil:=λq=>by rw[q] at g;contradiction
 have i:=tZ (N:=63) (by decide) (Ac (qL (ed f)) 31).1 (Ac (qL (ed f)) 31).2 f f' j b0 (NA _) h.wf g.wf (by haveI:=abl b0;exact Nx this (Nx hd (by decide)));refine di i ?_;haveI k:ed f=f:=by
  clear j i;cases f with
  |nil=>rfl
  |atom a r=>refine aO h ?_;clear h;intro _ us e _ c;injection e with e b;subst e b;rw[Tl.nil c];rfl
  |arr l r=>refine e9 h ?_;clear h;intro _ us e _ _ c;injection e with e b;subst e b;rw[Tl.nil c];rfl
  |dict l r=>refine Mine.bO h λ_ _ us e _ _ d=>?_;refine Mine.A3 d λ_ _ c=>?_;injection e with e b;subst e b;rw[Tl.nil c];rfl
 haveI m:ed f'=f':=by
  clear hd b0 i;cases f' with
  |nil=>rfl
  |atom a r=>refine aO g ?_;clear g;intro _ us e _ c;injection e with e b;subst e b;rw[Tl.nil c];rfl
  |arr l r=>refine e9 g ?_;clear g;intro _ us e _ _ c;injection e with e b;subst e b;rw[Tl.nil c];rfl
  |dict l r=>refine Mine.bO g λ_ _ us e _ _ d=>?_;refine Mine.A3 d λ_ _ c=>?_;injection e with e b;subst e b;rw[Tl.nil c];rfl
 rw[k];rw[m];rfl
def jt(e:NF)(ts:Ni Tok):Ni Nu:=jn e (ts.map tp)
def cM(ts:Ni Tok):Prop:=∀t∈ts,j0 t
def cM.cons(h:cM (t::ts)):j0 t/\cM ts:=⟨h t (by simp),λx a=>h x (by simp[a])⟩
def cM.join(h:cM a)(c:cM b):cM (a++b):=λx d=>(mem_append.mp d).elim (h x) (c x)
def cM.push(h:j0 a)(d:cM b):cM (a::b):=λx c=>(NH.mp c).elim (λe=>e▸h) (d x)
def jD(d):j0 (cls d):=by
 induction d with
 |false=>exact .inr (.inl rfl)
 |true=>exact .inr (.inr (.inr rfl))
def i4(e)(t)(ts):jt e (t::ts)=(if e&&sP (tp t) then[32] else[])++(tp t++jt (eP (tp t)) ts):=append_assoc _ _ _
def MG(h:p≠[]):sP (p++r)=sP p:=by
 induction p using Nw with
 |nil=>exact NK rfl h
 |cons c p=>rfl
def j0.ne(h:j0 t):tp t≠[]:=by
 induction t with
 |word b=>exact h.2.2
 |int i=>intro e;haveI:=(bU i).1;replace this:=(show au i=[] from e)▸this;injection this
 |real t p=>refine bo (l9 h.2.1 h.2.2 h.1) λA B e _=>?_;intro k;rw[show cB t p=[] from k] at e;simp at e
 |name s=>exact λe=>by contradiction
 |str b=>intro e;haveI e:fv b=[]:=e;unfold fv yN yx at e;split at e<;>contradiction
 |sign b=>rcases h with h|h|h|h<;>subst h<;>exact λe=>by injection e
 |hex b=>contradiction
 |fin=>contradiction
def uj(h:cM ts):sP (jt Nk ts)=Nr:=by
 induction ts with
 |nil=>rfl
 |cons t ts=>
  rw[i4];rw[NF.true_and];split
  ·rfl
  ·next q=>rw[OX];rw[MG h.cons.1.ne];simpa using q
def LL(r):bG (32::r)=bG r:=rfl
def jM(e)(h:cM (t::ts)):∃a,xu t a/\bG (jt e (t::ts))=xV (a,jt (eP (tp t)) ts):=by
 refine ah (Aw (R:=jt (eP (tp t)) ts) h.cons.1 (λq=>by rw[q];exact uj h.cons.2)) λa c b=>?_;refine⟨a,c,?_⟩;rw[i4];refine bB (NU b) ?_;split
 ·exact LL _
 ·rfl
structure Bh(ts:Ni Tok):Prop where
 two:∀g ts',ts≠.int g::.word [82]::ts'
 one:∀ts',ts≠.word [82]::ts'
def Bh.atom{a:Atom}(h:Bh ts):Bh (a.bJ++ts):=by
 induction a with
 |int i=>exact⟨λg c e=>(by cases e;exact h.one _ rfl),λc e=>by cases e⟩
 |truth b=>induction b<;>exact⟨λg c e=>(by injection e with e;injection e),λc e=>by cases e⟩
 | _=>exact⟨λg c e=>(by cases e),λc e=>by cases e⟩
def Bh.fo(h:Bh ts):∀f:Fo,Bh (bJ f++ts):=by
 intro i;induction i with
 |nil=>exact h
 |atom a r b=>rw[zy];rw[NM];exact(b).atom
 |arr l r b d=>exact⟨λg c e=>(by injection e with e;injection e),λc e=>by cases e⟩
 |dict l r b d=>exact⟨λg c e=>(by injection e with e;injection e),λc e=>by cases e⟩
def Bh.cls(d)(ts):Bh (cls d::ts):=by induction d<;>exact⟨λg a e=>(by cases e),λa e=>by cases e⟩
def I5(e)(h:cM ts)(f:Bh ts):nz (jt e ts)=Nm:=by
 induction hr:nz (jt e ts) with
 |none=>rfl
 |some p=>
  obtain⟨g,k⟩:=p;obtain⟨j,i,b,a⟩:=wY hr;cases ts with
  |nil=>contradiction
  |cons t ts=>
   refine ah (jM e h) λd k1 k2=>?_;replace b:=(k2)▸b;cases b;cases k1;clear hr k2;induction ts with
   |nil=>cases a
   |cons t ts=>
    refine ah (jM (eP (tp (.int g))) h.cons.2) λd k3 c=>?_;replace a:=(c)▸a;injection a with a;injection a with a;clear c;subst a
    cases k3;exact NK rfl (f.two _ _)
def hV(ps:Ni (Ni Nu×V)):Ni V:=ps.flatMap λp=>[cV p.1,p.2]
def pQ(k)(v)(ps):hV ((k,v)::ps)=cV k::v::hV ps:=rfl
def GO(ps:Ni (Ni Nu×V)):Prop:=∀p∈ps,aJ p.2=Nk
def vI(ks)(ws):∀K,∃ps,aX ks ws K=hV ps/\(fi ps).Sublist K/\GO ps:=by
 intro c;induction c with
 |nil=>exact⟨[],rfl,List.Sublist.refl _,λp f=>by cases f⟩
 |cons k K a=>
  refine a9 a ?_;clear a;intro ps h d b;haveI e:aX ks ws (k::K)=qo k (b7 k ks ws)++aX ks ws K:=by unfold aX;rw[OC];rfl
  rw[e];rw[h];induction b7 k ks ws with
  |none=>exact⟨ps,rfl,d.cons _,b⟩
  |some v=>
   refine(?_:∃g,el k v++hV ps=_/\_);unfold el;split
   ·next q=>exact⟨(k,v)::ps,rfl,d.cons_cons _,λp f=>(NH.mp f).elim (λe=>e▸q) (b p)⟩
   ·exact⟨ps,rfl,d.cons _,b⟩
def Dc(h:Tl r us)(hr:r≠.nil):∃v a,us=v::a/\Tl (ed r) [v]/\Tl (f7 r) a:=by
 induction us using Nw with
 |nil=>exact NK h.nil hr
 |cons v us=>exact⟨v,us,rfl,h.iO.1,h.iO.2.1⟩
def GW(h:Tl g [v])(c:Tl g [v'])(n:aJ v=Nk):aJ v'=Nk:=by
 induction g with
 |nil=>contradiction
 |atom a r=>
  refine aO h ?_;clear h;intro _ _ e i _;injection e with e;subst e
  refine aO c ?_;clear c;intro _ _ e f _;injection e with e;subst e
  induction a with
  |null=>subst i;injection n
  |str b=>refine X1 f ?_;clear f;intro _ d;clear r_ih;subst d;rfl
  | _=>rw[f];rfl
 |arr l r=>refine bo c ?_;clear c;intro _ _ e _;injection e with e;clear l_ih r_ih;subst e;rfl
 |dict l r=>refine gC c ?_;clear c;intro _ _ _ e _;injection e with e;clear l_ih r_ih;subst e;rfl
def Dd:∀{ps}{g}{us},Tl g (hV ps)->Tl g us->GO ps->∃a,us=hV a/\fi a=fi ps/\GO a:=by
 intro i;induction i with
 |nil=>intro g us h c _;replace c:=(Tl.nil h)▸c;exact⟨[],c,rfl,λp f=>by cases f⟩
 |cons m ps d=>obtain⟨k,v⟩:=m;intro g us h c n;refine ah (Tl.name h) λr l j=>?_;clear h;subst l;refine aO c ?_;clear c;intro C B b e o;subst b;rw[e];refine A3 j.iO λu w _=>?_;refine aO (Dc o (λe=>by replace j:=(e)▸j;contradiction)) λq A b z t=>?_;clear o;subst b;refine a9 (d w t λp f=>n p (by(exact NB _ ‹_›))) λa y s x=>?_;refine⟨(k,q)::a,by refine(y)▸?_;rfl,NN (k::·) s,λp f=>(NH.mp f).elim (λe=>?_) (x p)⟩;exact(e)▸(GW u z (n (k,v) (by(exact .head _))))
def wM:∀ps,eR (hV ps)=ps:=by
 intro b;induction b with
 |nil=>exact rfl
 |cons c ps a=>obtain⟨k,v⟩:=c;rw[pQ];rw[qs];rw[a];rfl
def IZ:∀{d},k∉fi d->dE k v d=d++[(k,v)]:=by
 intro b;induction b with
 |nil=>intro _;exact rfl
 |cons c d a=>obtain⟨x,u⟩:=c;intro h;rw[fK];rw[Nl (λe=>h (by rw[e];exact Ny))];rw[a λq=>h (NB _ q)];rfl
def DY:∀{ps d},(fi (d++ps)).Nodup->ps.foldl (λd p=>dE p.1 p.2 d) d=d++ps:=by
 intro b;induction b with
 |nil=>intro d _;exact(N9 _).symm
 |cons c ps a=>
  obtain⟨k,v⟩:=c;intro d h;haveI e:d++(k,v)::ps=(d++[(k,v)])++ps:=by simp
  haveI hk:k∉fi d:=by unfold fi at h ⊢;rw[N7,So] at h;exact λq=>h.2.2 k q k (by(exact .head _)) rfl
  rw[Ra,IZ hk,a (by refine(e)▸?_;exact h),e]
def Ih:∀a b,mF a b=Nr->mF b a=Nk:=by
 intro e;induction e with
 |nil=>intro _ h;contradiction
 |cons x a c=>
  intro f;induction f using Nw with
  |nil=>intro _;exact rfl
  |cons y b=>
   intro h;rw[lY] at h ⊢;refine(NG (x<y)).elim (λd=>?_) (λd=>?_)
   ·replace h:=(Np d)▸h;injection h
   ·replace h:=(Nl d)▸h
    refine(NG (y<x)).elim (λg=>?_) (λg=>?_)
    ·rw[Np g];rfl
    ·rw[Nl g] at h ⊢;exact(Nl d)▸(c b h)
theorem Av:∀a b c,mF a b=Nk->mF b c=Nk->mF a c=Nk
 |[],_,_=>λ_ _=>by rw[pT];rfl
 | _::_,[],_=>λh _=>by exact nomatch h
 | _::_,_::_,[]=>λ_ h=>by exact nomatch h
 |x::a,y::b,z::c=>λh d=>by
  rw[lY] at h d ⊢;refine(NG (x<y)).elim (λi=>?_) (λi=>?_)
  ·refine(NG (y<z)).elim (λe=>?_) (λe=>?_)
   ·rw[Np (L4 i e)];rfl
   ·replace d:=(Nl e)▸d
    refine(NG (z<y)).elim (λf=>?_) (λf=>?_)
    ·replace d:=(Np f)▸d;injection d
    ·rw[Np (cR [R0 (S1 V0) V2,R1 (S1 V1) V2] (S1 V0) V1 rfl i f)];rfl
  ·replace h:=(Nl i)▸h
   refine(NG (y<x)).elim (λg=>?_) (λg=>?_)
   ·replace h:=(Np g)▸h;exact(by contradiction)
   ·replace h:=(Nl g)▸h
    refine(NG (y<z)).elim (λe=>?_) (λe=>?_)
    ·rw[Np (cR [R1 (S1 V2) V0,R0 (S1 V2) V1] (S1 V0) V1 rfl g e)];rfl
    ·replace d:=(Nl e)▸d
     refine(NG (z<y)).elim (λf=>?_) (λf=>?_)
     ·replace d:=(Np f)▸d;contradiction
     ·replace d:=(Nl f)▸d
      rw[Nl (zN [_,_,_] [] [R1 (S1 V0) V2,R1 (S1 V2) V1] (R0 (S1 V0) V1) [1,1,1] rfl i e)];rw[Nl (zN [_,_,_] [] [R1 (S1 V2) V1,R1 (S1 V0) V2] (R0 (S1 V0) V1) [1,1,1] rfl g f)];exact Av a b c h d
def M9(l:Ni (Ni Nu)):Prop:=l.Pairwise λa b=>mF a b=Nk
def Ej:∀{l},M9 l->M9 (nk x l):=by
 intro c;induction c with
 |nil=>intro _;exact pairwise_singleton _ _
 |cons y l a=>
  intro h;haveI d:=PI.mp h;rw[d7];split
  ·next q=>exact PI.mpr ⟨λz b=>(NH.mp b).elim (λe=>e▸q) λb=>Av _ _ _ q (d.1 z b),h⟩
  ·next q=>
   refine PI.mpr ⟨λz b=>?_,a d.2⟩;refine ND (qa.mp b) (λe=>?_) (λe=>?_)
   ·exact(e)▸(Ih _ _ (by simpa using q))
   ·exact d.1 z e
def CM:∀l,M9 (bK l):=by
 intro b;induction b with
 |nil=>exact List.Pairwise.nil
 |cons x l a=>exact Ej (a)
def zi:∀{l},M9 l->bK l=l:=by
 intro b;induction b with
 |nil=>intro _;exact rfl
 |cons x l a=>
  intro h;have c:=PI.mp h;rw[xd];rw[a c.2];clear a h;induction l using Nw with
  |nil=>rfl
  |cons y l=>rw[d7];rw[Np (c.1 y (by(exact Ny)))];rfl
def D5:∀{ps}{p},(fi ps).Nodup->p∈ps->b7 p.1 (fi ps) (Ba ps)=xV p.2:=by
 intro c;induction c with
 |nil=>intro p _ h;contradiction
 |cons d ps b=>
  obtain⟨k,v⟩:=d;intro p f h;have a:=Ow.mp f;refine(?_:(if k=p.1 then _ else _)=_);rcases NH.mp h with e|e
  ·rw[e];exact Np rfl
  ·rw[Nl (λq=>a.1 (by rw[q];exact mem_map.mpr ⟨p,e,rfl⟩))]
   exact b a.2 e
def DX(c:(fi ps).Nodup)(b:M9 (fi ps))(d:GO ps):HI (fi ps) (Ba ps)=hV ps:=by unfold HI aX hV;rw[zi b];refine(?_:Ni.flatMap _ (ps.map _)=_);rw[Ni.flatMap_map];rw[VH];rw[VH];refine NN Xf (map_congr_left λp a=>?_);rw[D5 c a];refine(?_:el p.1 p.2=_);unfold el;rw[Np (d p a)];rfl
def yi(h:Tl (.dict g r) (v::vs))(o:Tl g us):Tl (.dict g .nil) [hU us]/\eI us=Nk:=by
 refine Mine.bO h λks ws z e w C j=>?_;refine Mine.A3 j λB s _=>?_;injection e;refine a9 (vI ks ws (bK ks)) λps t b u=>?_;haveI y:Tl g (hV ps):=by refine(t)▸?_;exact s
 refine a9 (Dd y o u) λa f l q=>?_;haveI i:(fi a).Nodup:=by refine(l)▸?_;exact List.Nodup.sublist b (mR w)
 haveI x:M9 (fi a):=by refine(l)▸?_;exact List.Pairwise.sublist b (CM ks)
 haveI m:iC us=a:=by unfold iC;rw[f];rw[wM];rw[DY (by exact i)];rfl
 haveI c:(iC us).filter (λp=>aJ p.2)=a:=by rw[m];exact filter_eq_self.mpr q
 haveI hd:hU us=.ec (fi a) (Ba a):=by refine(c)▸?_;rfl
 haveI n:(fi a).length<=ks.length:=by refine(l)▸?_;haveI:=b.length_le;rwa [eZ] at this
 refine⟨?_,?_⟩
 ·refine(hd)▸?_
  refine⟨fi a,Ba a,[],rfl,i,by simp[fi,Ba],by(exact Nx ‹_› ‹_›),?_,rfl⟩;rw[DX i x q];exact bB (NU f) o
 ·refine(f)▸?_
  haveI:(hV a).length % 2=0:=by
   haveI:∀ps,(hV ps).length % 2=0:=by
    intro ps;induction ps with
    |nil=>rfl
    |cons p ps A=>have k:=(p).1;haveI v:=(p).2;rw[pQ];rw[Nn];rw[Nn];exact L3 A
   exact this a
  unfold eI;rw[this];rfl
def KG:∀{f}{us vs},Tl f us->Tl f vs->us.length=vs.length:=by
 intro g;induction g with
 |nil=>intro _ _ h c;rw[show _=[] from h];rw[show _=[] from c];rfl
 |atom a r d=>intro _ _ h c;refine aO h ?_;clear h;intro _ _ b _ h;subst b;refine aO c ?_;clear c;intro _ _ b _ c;subst b;rw[Nn];rw[Nn];rw[d h c];rfl
 |arr l r d e=>intro _ _ h c;refine e9 h ?_;clear h;intro _ _ b _ _ h;subst b;refine e9 c ?_;clear c;intro _ _ b _ _ c;subst b;rw[Nn];rw[Nn];rw[e h c];rfl
 |dict l r d e=>intro _ _ h c;obtain⟨_,_,_,rfl,_,_,_,_,h⟩:=h;obtain⟨_,_,_,rfl,_,_,_,_,c⟩:=c;rw[Nn];rw[Nn];rw[e h c];rfl
def PLe(fs:Ni Fr)(tk:Tok)(r:Ni Nu)(S:Nt (V×Ni Nu)->Prop):Prop:=∃res,PL fs tk r res/\S res
def PLs(fs:Ni Fr)(r:Ni Nu)(S:Nt (V×Ni Nu)->Prop):Prop:=∃tk r',bG r=xV (tk,r')/\PLe fs tk r' S
def PLk(st:Step)(S:Nt (V×Ni Nu)->Prop):Prop:=
 match st with
 |.done v r=>S (xV (v,r))
 |.more fs r=>PLs fs r S
def zB(h:cY fs tk r=xV st)(k:PLk st S):PLe fs tk r S:=by
 induction st with
 |done v d=>exact⟨_,.done h,k⟩
 |more g d=>refine Mine.bo k λe j i b=>?_;refine Mine.ah b λa f c=>?_;exact⟨a,.more h i f,c⟩
noncomputable def yG:Tok->NF
 |.sign _=>Nk
 | _=>Nr
def qJ(d:aQ fs=Nk->eB tk=Nk)(c:yG tk=Nr):cY fs tk r=(fX tk r).map λp=>fJ p.1 p.2 fs:=by
 have a:∀b,tk≠.sign b:=λb e=>by replace c:=(e)▸c;contradiction
 unfold cY;rw[Nl (λq=>by replace q:=(d q.1)▸q;cases q.2.1)];rw[Nl (λq=>q.elim (a _) (a _))];rw[Nl (a _)];rw[Nl (a _)];rfl
def Gi(d)(a:aQ fs=Nr)(b:fs.length<40):cY fs (jS d) r=xV (.more ((d,[])::fs) r):=by unfold cY;rw[Nl (λq=>by replace q:=(a)▸q;cases q.1)];rw[Np (by induction d<;>(decide))];rw[Nl (by(exact OV ‹_›))];induction d<;>rfl
def Gh(d)(he:d=Nk->eI l=Nk):cY ((d,l)::fs) (cls d) r=xV (fJ (if d then hU l else .lst l) r fs):=by
 unfold cY;induction d with
 |false=>rfl
 |true=>
  rw[Nl (λq=>q.2.2 rfl)];rw[Nl (by(exact λh=>(by contradiction)))];rw[Nl (by(exact λh=>(by contradiction)))];rw[Np (by rfl)];show(gL ((Nk,l)::fs) Nk).map _=_;haveI e:gL ((Nk,l)::fs) Nk=if eI l=Nk then xV (hU l,fs) else Nm:=rfl
  rw[e];rw[Np (he rfl)];rfl
def EP(h:xu (cls d) t'):t'=cls d:=by induction d<;>(cases h;rfl)
def ER(h:xu (jS d) t'):t'=jS d:=by induction d<;>(cases h;rfl)
def FU(d:0<=g)(o:g.natAbs<10 ^ 40)(b:cM ts):nz (jt Nk (.int g::.word [82]::ts))=xV (g,jt Nk ts):=by
 haveI h:jt Nk (.word [82]::ts)=32::([82]++jt Nk ts):=rfl;haveI n:jt Nk (.int g::.word [82]::ts)=32::(au g++32::([82]++jt Nk ts)):=by rw[i4];rw[show tp (.int g)=au g from rfl];rw[(bU g).1];rw[(bU g).2];rw[h];rfl
 have hr:∀c∈au g,aI c=Nk:=by
  rw[fg];intro c f;refine ND (mem_append.mp f) (λq=>?_) (λq=>?_)
  ·exact uJ g c q
  ·exact nP (bw _ c q)
 have j:=(dt (R:=32::([82]++jt Nk ts)) hr rfl).1;have k:=(dt (R:=32::([82]++jt Nk ts)) hr rfl).2;haveI b1:=(dt (p:=[82]) (by decide) (uj b)).1;haveI i:=(dt (p:=[82]) (by decide) (uj b)).2;refine aO (mJ g.natAbs) λc l e h1 h2=>?_;haveI es:aE (au g++32::([82]++jt Nk ts))=au g++32::([82]++jt Nk ts):=by
  induction ei:au g using Nw with
  |nil=>have:=(bU g).1;replace this:=(ei)▸this;injection this
  |cons x m=>exact lg (kr (hr x (by rw[ei];(exact Ny)))).1
 refine(?_:(bN (a6 (aE _))).bind (Mo (aE (a8 (aE _))))=_);rw[n];rw[show aE (32::(au g++32::([82]++jt Nk ts)))=aE (au g++32::([82]++jt Nk ts)) from rfl];rw[es];rw[j];rw[k];rw[vW o];rw[show aE (32::([82]++jt Nk ts))=[82]++jt Nk ts from rfl];exact(Np ⟨d,b1⟩).trans (NN (λr=>xV (g,r)) i)
def adg(a:Atom):Prop:=cM a.bJ/\∀n g,a=.ref n g->0<=n/\0<=g
noncomputable def jy:Fo->Prop
 |.nil=>Sl
 |.atom a r=>adg a/\jy r
 |.arr l r=>jy l/\jy r
 |.dict l r=>jy l/\jy r
def qk(d):j0 (jS d):=by
 induction d with
 |false=>exact .inl rfl
 |true=>exact .inr (.inr (.inl rfl))
def jy.all:∀{f},jy f->cM (bJ f):=by
 intro d;induction d with
 |nil=>intro _;exact λx e=>by cases e
 |atom a r b=>intro h;exact h.1.1.join (b h.2)
 |arr l r b c=>intro h;exact .push (qk _) ((b h.1).join (.push (jD _) (c h.2)))
 |dict l r b c=>intro h;exact .push (qk _) ((b h.1).join (.push (jD _) (c h.2)))
def uV(f:Fo):Prop:=∀(v0:V),Tl f [v0]->jy f->∀(fs:Ni Fr) (e:NF) (ts:Ni Tok) (res:Nt (V×Ni Nu)->Prop),cM ts->Bh ts->(aQ fs=Nk->∃s,f=.atom (.name s) .nil)->dp f+fs.length<=40 ->
 (∀v,Tl f [v]->PLk (fJ v (jt (eE e (bJ f)) ts) fs) res)->PLs fs (jt e (bJ f++ts)) res
def M8(f:Fo):Prop:=∀(vs:Ni V),Tl f vs->jy f->∀(d:NF) (l:Ni V) (fs:Ni Fr) (e:NF) (ts:Ni Tok) (res:Nt (V×Ni Nu)->Prop),cM ts->Bh ts->(d=Nk->jd (eI l) f)->dp f+fs.length+1<=40 ->
 (∀us,Tl f us->PLs ((d,l++us)::fs) (jt (eE e (bJ f)) ts) res)->PLs ((d,l)::fs) (jt e (bJ f++ts)) res
def gx(m:a.bJ=[t])(y:yG t=Nr)(n:∀d e ts,xu t d->cM ts->Bh ts->∃v,fX d (jt e ts)=xV (v,jt e ts)/\Ta a v)(j:∀s,a=.name s->eB t=Nk):uV (.atom a .nil):=by
 intro z h c fs e ts r f x o hd k;have c:=c.all;have p:bJ (.atom a .nil)=[t]:=by rw[show bJ (.atom a .nil)=a.bJ++[] from rfl];rw[N9];rw[m];rfl
 rw[p] at c k ⊢;refine ah (jM e (c.join f)) λd g w=>?_;refine ah (n d (eP (tp t)) ts g f x) λv u l=>?_;refine⟨d,_,w,?_⟩;have i:yG d=Nr:=by induction g<;>first|exact y|rfl
 refine zB ?_ (k v ⟨v,[],rfl,l,rfl⟩);rewrite [qJ (λq=>?_) i]
 ·rw[u];rfl
 ·refine X1 (o q) λs e=>?_
  injection e with e;clear m n h c o hd k p l;subst e
  haveI:=j s rfl;induction g with
  |same=>exact this
  |hex b=>contradiction
def Gu(n g):uV (.atom (.ref n g) .nil):=by
 intro o h a fs e ts c b m i hd k;refine A2 (a.1.2 n g rfl) λn0 d=>?_;haveI a:=a.all;refine ah (jM e (a.join b)) λl f j=>?_;cases f;refine⟨_,_,j,zB ?_ (k (k7 n g) ⟨_,[],rfl,rfl,rfl⟩)⟩;rewrite [qJ (λq=>by refine X1 (i q) ?_;intro s e;injection e with e;injection e) rfl];rw[show eP (tp (.int n))=Nk from(bU n).2];haveI e:fX (.int n) (jt Nk (.int g::.word [82]::ts))=xV (k7 n g,jt Nk ts):=by refine(Np n0).trans ?_;rw[FU d a.cons.2.cons.1 b];rfl
 rw[e];rfl
def s6(a):uV (.atom a .nil):=by
 induction a with
 |null=>exact gx rfl rfl (λc e ts h _ _=>by cases h;exact⟨_,rfl,rfl⟩) (λs q=>by contradiction)
 |truth b=>exact gx rfl rfl (λc e ts h _ _=>by cases h;induction b<;>exact⟨_,rfl,rfl⟩) (λs q=>by contradiction)
 |int i=>refine gx rfl rfl (λc e ts h f d=>?_) (λs q=>by contradiction);cases h;refine⟨.int i,?_,rfl⟩;refine(NG (0<=i)).elim (λq=>(Np q).trans ?_) λq=>Nl q;rw[I5 e f d];rfl
 |real t p=>exact gx rfl rfl (λc e ts h _ _=>by cases h;exact⟨_,rfl,rfl⟩) (λs q=>by contradiction)
 |name s=>exact gx rfl rfl (λc e ts h _ _=>by cases h;exact⟨_,rfl,rfl⟩) (λs q=>rfl)
 |str b=>exact gx rfl rfl (λc e ts h _ _=>by cases h<;>exact⟨_,rfl,_,rfl⟩) (λs q=>by contradiction)
 |ref n g=>exact Gu n g
def s8(hr:M8 l)(r:bJ f=jS d::(bJ l++[cls d]))(i:dp f=dp l+1)(A:∀t,Tl f [t]->(∃vs,Tl l vs)/\(d=Nk->jd Nk l)/\∀us,Tl l us->Tl f [if d then hU us else .lst us]/\(d=Nk->eI us=Nk))(x:jy f->jy l)(D:∀s,f≠.atom (.name s) .nil):uV f:=by
 intro t h a fs e ts j b J G hd k;refine A3 (A t h) λg z n=>?_;refine X1 g ?_;clear g;intro vs o;haveI m:=a.all;rw[r] at m k ⊢;have c:=(x a).all.join (.push (jD d) b);have H:(jS d::(bJ l++[cls d]))++ts=jS d::(bJ l++cls d::ts):=by simp
 haveI C:=yl e d (bJ l);rw[C] at k;rw[H];refine ah (jM e (cM.push (qk d) c)) λI w y=>?_;haveI:=ER w;clear w;subst this;haveI p:aQ fs=Nr:=by rw[Pu];intro q;refine X1 (G q) λs e=>?_;exact D s e
 refine⟨_,_,y,zB (Gi d p (cR [R3 V1 (S1 V2),R0 (zp V1 V0) (zc 40)] (S1 V0) (zc 40) rfl i hd)) ?_⟩;rw[show eP (tp (jS d))=Nr by clear y;clear r A m c H C;induction d<;>rfl];refine hr vs o (x a) d [] fs Nr (cls d::ts) j (.push (jD d) b) (Bh.cls d ts) z (cR [R3 V2 (S1 V0),R0 (zp V2 V1) (zc 40)] (S1 (zp V0 V1)) (zc 40) rfl i hd) λus B=>?_;refine A2 (n us B) λF E=>?_;refine ah (jM (eE Nr (bJ l)) (cM.push (jD d) b)) λK u v=>?_;haveI:=EP u;clear u;subst this;refine⟨_,_,v,zB (Gh d E) ?_⟩;rw[show eP (tp (cls d))=Nr by clear v;clear r A z n m c H C y E;induction d<;>rfl];exact k _ F
def xj(hr:M8 l):uV (.arr l .nil):=
 s8 hr rfl (by(rfl)) (λf h=>by refine e9 h ?_;clear h;intro ws us e c b _;exact⟨⟨ws,b⟩,(λq=>by contradiction),λus a=>⟨⟨us,[],rfl,by rw[KG a b];exact c,a,rfl⟩,λq=>by cases q⟩⟩) (λh=>h.1) (λs q=>by contradiction)
def s7(hr:M8 l):uV (.dict l .nil):=
 s8 hr rfl (by(rfl)) (λi h=>by
  refine⟨?_,λ_=>h.wf.1,λus b=>?_⟩
  ·refine Mine.bO h λks ws us e _ _ a=>?_;refine Mine.A3 a λ_ f _=>?_
   exact⟨_,f⟩
  ·refine A2 (yi h b) λg c=>?_
   exact⟨g,λ_=>c⟩) (λh=>h.1) (λs q=>by contradiction)
def BM(l)(v):eI (l++[v])=!eI l:=by
 unfold eI;rw[Nv];rw[OA];refine ND (mod_two_eq_zero_or_one l.length) (λh=>?_) (λh=>?_)
 ·rw[h];rw[show(l.length+1) % 2=1 by exact L9 h];rfl
 ·rw[h];rw[show(l.length+1) % 2=0 by exact L10 h];rfl
def zb{f r:Fo}(j:f≠.nil)(hh:uV (ed f))(hr:M8 (f7 f)):M8 f:=by
 intro vs h c d l fs e ts o p hT i hd k;refine aO (Dc h j) λv us e2_ h1 h2=>?_;subst e2_;have n:=qG h;have et:bJ f=bJ (ed f)++bJ (f7 f):=by rewrite [<- oh];refine bB (NU n) ?_;rfl
 have t:dp f=max (dp (ed f)) (dp (f7 f)):=by rewrite [<- lH];refine bB (NU n) ?_;rfl
 have g:jy (ed f)/\jy (f7 f):=by
  clear hh hr i hd k h1 h2 h n et t;induction f with
  |nil=>exact NK rfl j
  |atom a r=>exact⟨⟨c.1,trivial⟩,c.2⟩
  |arr l r=>exact⟨⟨c.1,trivial⟩,c.2⟩
  |dict l r=>exact⟨⟨c.1,trivial⟩,c.2⟩
 have m:d=Nk->(eI l=Nk->∃s,ed f=.atom (.name s) .nil)/\jd (!eI l) (f7 f):=by
  intro q;have:=i q;induction he:eI l with
  |true=>
   rw[he] at this;rcases iR this with e|⟨s,r',e,h3⟩
   ·exact NK e j
   ·rw[e];exact⟨λ_=>⟨s,rfl⟩,h3⟩
  |false=>
   replace this:=(he)▸this;refine⟨(λq=>by injection q),?_⟩;clear hh hr c i hd k h1 h2 h n et t g;induction f with
   |nil=>exact NK rfl j
   |atom a r=>exact this
   |arr l r=>exact this
   |dict l r=>exact this
 rw[et,yk] at k;rw[et];rw[NM];refine hh v h1 g.1 ((d,l)::fs) e (bJ (f7 f)++ts) o (g.2.all.join p) (hT.fo _) (λq=>?_) (by rw[Nn];exact gb [R0 (S1 (zp V2 V1)) (zc 40),R3 V2 V3,R0 V0 V3] (zp V0 (S1 V1)) (zc 40) rfl hd t (Ox _ _)) λv' hv'=>?_
 ·clear i k;induction d with
  |false=>contradiction
  |true=>exact(m rfl).1 q
 ·refine hr us h2 g.2 d (l++[v']) fs _ ts o p hT (λq=>by rw[BM];exact(m q).2) (gb [R0 (S1 (zp V2 V1)) (zc 40),R3 V2 V3,R0 V0 V3] (S1 (zp V0 V1)) (zc 40) rfl hd t (RF _ _)) λus' hu'=>?_
  rw[NM];refine k _ ?_;rw[n];exact lr hv' hu'
def row:∀f,M8 f:=by
 intro g;induction g with
 |nil=>
  exact λvs h j d l fs e ts i n o m hd k=>by haveI:=k [] rfl;rw[N9] at this;exact this
 |atom a r b=>exact zb (r:=.nil) (by intro h;injection h) (s6 a) (b)
 |arr l r b c=>exact zb (r:=.nil) (by intro h;injection h) (xj (b)) (c)
 |dict l r b c=>exact zb (r:=.nil) (by intro h;injection h) (s7 (b)) (c)
def Gs(h:Tl f [v]):uV f:=by
 cases f with
 |nil=>contradiction
 |atom a r=>refine aO h ?_;clear h;intro _ _ e _ c;injection e with e b;subst e b;rw[Tl.nil c];exact s6 a
 |arr l r=>refine e9 h ?_;clear h;intro _ _ e _ _ c;injection e with e b;subst e b;rw[Tl.nil c];exact xj (row l)
 |dict l r=>refine Mine.bO h λ_ _ _ e _ _ d=>?_;refine Mine.A3 d λ_ _ c=>?_;injection e with e b;subst e b;rw[Tl.nil c];exact s7 (row l)
def Cz(h:Tl f [v])(c:jy f)(hd:dp f<=40):∃v',RV (jt Nr (bJ f)) (xV v')/\Tl f [v']:=by haveI:=Gs h v h c [] Nr [] (λa=>∃v',a=xV (v',[])/\Tl f [v']) (λx g=>by cases g) ⟨λ_ _ e=>(by contradiction),λ_ e=>(by contradiction)⟩ (λq=>by injection q) hd (λv' b=>⟨v',rfl,b⟩);rw[N9] at this;obtain⟨tk,k,d,_,i,v',rfl,j⟩:=this;exact⟨v',.good d i rfl,j⟩
def An:∀k,k<16->([48,49,50,51,52,53,54,55,56,57,65,66,67,68,69,70]:Ni Nu)[k]?=xV (eL k):=by decide
def Am(h:k<16):eL k<256:=by unfold eL;split<;>lia
def pM(h:c<256):∀x∈aS c,x<256:=by
 intro x a;simp only[aS,NH,SI,Wo] at a;refine ND (a) (λe=>?_) (λe=>?_)
 ·rw[e];exact Am (zL [_,_,_] [] [R0 (S1 V1) (zc 256),R2 (zp (zm 16 V0) V2) V1] (S1 V0) (zc 16) [16,1,1] rfl h (OF _ _))
 ·rw[e];exact Am (cZ [R0 (S1 V0) (zc 16)] (S1 V0) (zc 16) rfl (RM _ (QB _)))
def E5(h:c<256):∀x∈bg c,x<256:=by
 unfold bg;split
 ·intro x a
  refine ND (NH.mp a) (λe=>?_) (λe=>?_)
  ·exact cZ [R2 V0 (zc 35)] (S1 V0) (zc 256) rfl e
  ·exact pM h x e
 ·intro x a;rw[mem_singleton.mp a];exact h
def Ca(c):(bg c).length<=3:=by unfold bg;split<;>simp[aS]
def rO{H:ae}:js .append (.ref p) (H.set p (.list l))=Nk:=by refine(?_:yF _=Nk);rw[aj];rfl
def Io{H:ae}:js .extend (.ref p) (H.set p (.list l))=Nk:=rO
def Df{H:ae}{p c:Nu}(a:l.length<lim):cT .append (.ref p) [.int c] (H.set p (.list (bL l)))=xV (.none,H.set p (.list (bL (l++[c])))):=by rw[(sL (aj H p _) (by rw[aY];exact a)).2.1];rw[ax];rw[ee];rfl
def K5{H:ae}(a:l.length+l'.length<lim):cT .extend (.ref p) [.lst (bL l')] (H.set p (.list (bL l)))=xV (.none,H.set p (.list (bL (l++l')))):=by rw[(sL (aj H p _) (by rw[aY];exact Nx (NV _ _) a)).2.2.2.1 _ (by rw[aY];rw[aY];exact a)];rw[ax];rw[ee];rfl
section
variable {H:ae}{n a:Nu}{Q:av}{X:Prop}
def iM(h:∀c∈s,c<256)(f:s.length<=1000)(q:Q (.bytes s) H):call (n+1) 25 [.str s] H Q X:=by
 refine ag (ρ:=[xV (.str s),Nm]) rfl rfl rfl ⟨by rw[NR];exact Nj f (by decide),?_⟩;refine fe (λ_=>Nk) (λx=>match x with|.str [c]=>.int c| _=>.none) _ _ (λx _ k h=>h) (λx d K g=>?_) ?_
 ·refine ah (mem_map.mp d) λc i a=>?_;clear d;subst a
  exact g
 ·haveI e:((uT s).filter λ_=>Nk).map (λx=>match x with|.str [c]=>V.int c| _=>.none)=bL s:=by rw[QF.mpr (λ_ _=>rfl)];rw[Oo];rfl
  exact aa (oP e (Nj f (by decide)) h) (af q)
def mw(h:c<256)(q:Q (.lst (bL (aS c))) H):call (n+1) 26 [.int c] H Q X:=by refine ag (ρ:=[xV (.int c)]) rfl rfl rfl ?_;haveI a:=abe c 16;haveI d:=Af c 16;exact aa (by rw[a];exact aU (An (c / 16) (zL [_,_,_] [] [R0 (S1 V1) (zc 256),R2 (zp (zm 16 V0) V2) V1] (S1 V0) (zc 16) [16,1,1] rfl h (OF _ _))) H:gQ (vM 19) (.int (Xz c 16)) H=xV (.int (eL (c / 16)))) (aa (by rw[d];exact aU (An (c % 16) (cZ [R0 (S1 V0) (zc 16)] (S1 V0) (zc 16) rfl (RM _ (QB _)))) H:gQ (vM 19) (.int (Ww c 16)) H=xV (.int (eL (c % 16)))) (af q))
def iI(h:∀c∈s,0<c/\c<256)(D:s.length<=300)(q:Q (.bytes (eh s)) H):call (n+2) 27 [.str s] H Q X:=by
 refine ag (ρ:=[xV (.str s),Nm,Nm,Nm]) rfl rfl rfl λp G=>?_;refine ak λM A=>c0 (λK h=>h) rfl λB N F E=>?_;haveI key:∀(r acc:Ni Nu)(o2 j:Nt V),(∀c∈r,0<c/\c<256)->acc.length+3 * r.length<=1000->(∀c∈acc,c<256)->Q (.bytes (acc++r.flatMap bg)) H ->
   bc [2] B (uT r) [xV (.str s),xV (.ref p),o2,j] (H.set p (.list (bL acc))) N:=by
  intro r;induction r with
  |nil=>intro acc o2 j _ i u q;rw[SR,N9] at q;refine E (A ?_);exact aa (gI (aj H p _) (Nj (Rd i) (by decide)) u) ⟨H,dh G,q⟩
  |cons c r I=>
   intro acc o2 j hr i u q;replace i:=(Nn)▸i;haveI d:=hr c (Ny ..);haveI o:=Ca c;have f:acc.length<lim:=by unfold lim;exact Nx (Nj (NV _ _) i) (by decide)
   rw[Ni.flatMap_cons,<- NM] at q;have next:=λo2 j=>I (acc++bg c) o2 j (λx t=>hr x (NB _ t)) (by rw[Nv];exact cR [R0 (zp V0 (zm 3 (S1 V2))) (zc 1000),R0 V1 (zc 3)] (zp (zp V0 V1) (zm 3 V2)) (zc 1000) rfl i o) (λx t=>(Of.mp t).elim (u x) (E5 d.2 x)) q
   refine F (bp (λe=>Sm d.1 (Pg.mp e)) ?_);refine bp (λe=>Pt.mpr (Qa d.2) (OT.mp e)) ?_;have a:(c<33\/126<c\/c=35\/aI c=Nr)->eW (call (n+1)) (.seq (.exp (.aH .append (.loc 1) (.cons (.glob 18) .nil))) (.exp (.aH .extend (.loc 1) (.cons (.call 26 (.cons (.loc 3) .nil)) .nil))))
     [xV (.str s),xV (.ref p),xV (.str [c]),xV (.int c)] (H.set p (.list (bL acc))) (fun ρ H=>bc [2] B (uT r) ρ H N) (gk Q) (fun ρ H=>bc [2] B (uT r) ρ H N) X:=λg=>by
    haveI e:bg c=[35]++aS c:=Np g;rw[e,<- NM] at next
    refine⟨rO,?_⟩;refine aa (Df f) ⟨Io,?_⟩;refine mw d.2 (aa (K5 (by rw[Nv];unfold lim;simp only[aS,Nn,NL];exact cj [R0 (zp V0 (zm 3 (S1 V1))) (zc 1000)] (S1 (zp (zp V0 (S1 K0)) (S1 (S1 K0)))) (zc 16000000) rfl i)) ?_);exact next _ _
   by_cases l:c<33
   ·exact cD (OT.mpr l) (a (.inl l))
   refine bp (λe=>l (OT.mp e)) ?_;by_cases m:126<c
   ·exact cD (OT.mpr m) (a (.inr (.inl m)))
   refine bp (λe=>m (OT.mp e)) ?_;refine dJ (λw=>a (.inr (.inr (.inl w)))) λw=>?_;refine d8 ?_;induction y:aI c with
   |false=>exact a (.inr (.inr (.inr y)))
   |true=>
    haveI e:bg c=[c]:=Nl λz=>z.elim l λz=>z.elim m λz=>z.elim w λz=>by rw[y] at z;injection z
    replace next:=(e)▸next
    refine aa (v:=true) rfl ⟨rO,?_⟩;exact aa (Df f) (next _ _)
 exact key s [47] Nm Nm h (by refine(?_:1+3 * s.length<=1000);exact zL [_] [] [R0 V0 (zc 300)] (zp K1 (zm 3 V0)) (zc 1000) [1,3] rfl D) (λc C=>by rw[Oc.mp C];decide) q
def rI(h:∀c∈b,c<256)(l:b.length<=300)(q:Q (.bytes (yx b)) H):call (n+2) 32 [.bytes b] H Q X:=by
 refine ag (ρ:=[xV (.bytes b),Nm,Nm]) rfl rfl rfl λp s=>?_;refine ak λM k=>c0 (λK h=>h) rfl λB N o m=>?_;haveI key:∀(r acc:Ni Nu)(o2:Nt V),(∀c∈r,c<256)->acc.length+2 * r.length<=900->(∀c∈acc,c<256)->Q (.bytes (acc++(r.flatMap aS++[62]))) H ->
   bc [2] B (bL r) [xV (.bytes b),xV (.ref p),o2] (H.set p (.list (bL acc))) N:=by
  intro r;induction r with
  |nil=>intro acc o2 _ a j q;haveI a:=a;refine m (k ⟨rO,?_⟩);exact aa (Df (by unfold lim;exact Nx a (by decide))) (aa (gI (aj H p _) (by rw[Nv];unfold lim;refine(?_:acc.length+1<=_);exact Nx a (by decide)) (λc g=>(mem_append.mp g).elim (j c) λe=>by rw[mem_singleton.mp e];decide)) ⟨H,dh s,q⟩)
  |cons c r t=>intro acc o2 hr a j q;replace a:=(Nn)▸a;haveI f:=hr c (Ny ..);haveI d:(aS c).length=2:=rfl;refine o ⟨Io,?_⟩;refine mw f (aa (K5 (by unfold lim;exact cR [R0 (zp V0 (zm 2 (S1 V2))) (zc 900),R2 V1 (zc 2)] (S1 (zp V0 V1)) (zc 16000000) rfl a d)) ?_);exact t (acc++aS c) _ (λx i=>hr x (NB _ i)) (by rw[Nv];rw[d];exact cj [R0 (zp V0 (zm 2 (S1 V1))) (zc 900)] (zp (zp V0 (zc 2)) (zm 2 V1)) (zc 900) rfl a) (λx i=>(mem_append.mp i).elim (j x) (pM f x)) (by rw[NM];rewrite [<- NM (aS c)];exact q)
 exact key b [60] Nm h (by refine(?_:1+2 * b.length<=900);exact zL [_] [] [R0 V0 (zc 300)] (zp K1 (zm 2 V0)) (zc 900) [1,2] rfl l) (λc g=>by rw[Oc.mp g];decide) q
def acm(p:Nu)(h:p<=1000):m8 .pow (.int 10) (.int p)=xV (.int ((10 ^ p:Nu):N6)):=by
 show(if _ then _ else _)=_;rw[Np ⟨by exact C8,by exact Pk.mpr h,by decide⟩];rw[Q6]
 (rfl)
def Gk(i)(H)(h:i.natAbs<10 ^ 200):cp .str [.int i] H=xV (.str (au i)):=by show(if _ then _ else _)=_;rw[Np h];rfl
def eC(h:i.natAbs<10 ^ 40)(q:Q (.bytes (au i)) H):call (n+2) 28 [.int i] H Q X:=by refine ag (ρ:=[xV (.int i)]) rfl rfl rfl ?_;haveI a:i.natAbs<10 ^ 200:=NY h (PK (by decide) (by decide));refine bp (λz=>Pt.mpr (Pk.mp z) h) (aa (Gk i H a) ?_);exact iM (λc d=>(jH i c d).1) (Nj (gR (by decide) h) (by decide)) (af q)
end
def I6(n c):eS n [c]=Pc n c:=by
 unfold eS;induction n with
 |zero=>rfl
 |succ n a=>rw[Sj];rw[WZ];rw[a];rw[Sj];rfl
def ab6(b)(h:b.natAbs<1000):m8 .mul (.str [48]) (.int b)=xV (.str (Pc b.toNat 48)):=by show(if _ then _ else _)=_;rw[Np ⟨rfl,h⟩];rw[I6];rfl
def r7(a b)(h:a.length+b.length<=lim):m8 .add (.str a) (.str b)=xV (.str (a++b)):=by show(if _ then _ else _)=_;rw[Np h];rfl
def Ge{p:Nu}(a:b.length<=1000)(c:0<p)(hk:p<=b.length):jY (.str b) .none (.int (-(p:N6)))=xV (.str (b.take (b.length - p))):=
 MT (l:=0) rfl (aaT _ c hk a) a
def CI{p:Nu}(a:b.length<=1000)(c:0<p)(hk:p<=b.length):jY (.str b) (.int (-(p:N6))) .none=xV (.str (b.drop (b.length - p))):=
 (MT (aaT _ c hk a) rfl a).trans (NN (λl=>xV (V.str l)) (nL b _))
def CJ{k:Nu}(a:b.length<=1000)(hk:k<=b.length):jY (.str b) (.int k) .none=xV (.str (b.drop k)):=
 (MT (Bs _ hk a) rfl a).trans (NN (λl=>xV (V.str l)) (nL b k))
def yE(n:Nu):au (n:N6)=aA n:=by unfold au;rfl
def bt(t:N6)(p:Nu):Ni Nu:=Pc (p+1 - (aA t.natAbs).length) 48++aA t.natAbs
def xh(t:N6)(p:Nu):Ni Nu:=gu t++((bt t p).take ((bt t p).length - p)++46::(bt t p).drop ((bt t p).length - p))
def ql(t)(p):∀c∈bt t p,48<=c/\c<=57:=by
 intro c a;refine ND (mem_append.mp a) (λh=>?_) (λh=>?_)
 ·rw[(mem_replicate.mp h).2];exact adS
 ·exact bw _ c h
def qm(t)(p):p+1<=(bt t p).length/\(bt t p).length<=p+1+(aA t.natAbs).length:=by rw[Nv];rw[QK];exact⟨mV _ _,QV (QR _ _) _⟩
def uI(t):(gu t).length<=1:=by unfold gu;split<;>(decide)
def BP:∀l r k,c∉l->jm c (l++c::r) k=xV (k+l.length):=by
 intro b;induction b with
 |nil=>intro r k _;refine(?_:(if c=c then xV k else _)=_);rw[Np rfl];rfl
 |cons x l a=>
  intro r k h;rw[NH,Pl] at h;refine(?_:(if x=c then xV k else jm c (l++c::r) (k+1))=_);rw[Nl (λe=>h.1 e.symm)];rw[a r (k+1) h.2];rw[Nn]
  congr 1;exact L50
def Eg(H)(b:46∉l)(c:46∉r):cT .index (.str (l++46::r)) [.str [46]] H=xV (.int l.length,H):=by
 haveI e:((l++46::r).filter (·==46)).length=1:=by rw[U8];rw[PE (by rfl)];haveI f:∀m:Ni Nu,46∉m->m.filter (·==46)=[]:=λm hm=>QU.mpr λx d q=>hm (by refine bB (NU (Ob.mp q)) ?_;exact d);rw[f l b];rw[f r c];rfl
 haveI a:=BP l r 0 b;rw[Og] at a;refine(?_:(if((l++46::r).filter (·==46)).length=1 then _ else _)=_);rw[Np e];rw[a];rfl
section
variable {H:ae}{n a:Nu}{Q:av}{X:Prop}
def la(q:Q (.str (gu t)) H):call (n+1) 14 [.int t] H Q X:=by
 refine ag (ρ:=[xV (.int t)]) rfl rfl rfl ?_;unfold gu at q;by_cases h:t<0
 ·rw[Np h] at q;exact cD h (af q)
 ·rw[Nl h] at q;exact bp h (af q)
def JJ{p:Nu}(h:t.natAbs<10 ^ 20)(f:0<p)(c:p<=18)(q:Q (.str (xh t p)) H):call (n+2) 12 [pC t p] H Q X:=by
 haveI e:=(dW (by decide)).mpr h;haveI i:cp .str [.int (t.natAbs:N6)] H=xV (.str (aA t.natAbs)):=by rw[Gk _ _ (by exact NY h (PK (by decide) (by decide)))];rw[yE];rfl
 haveI hm:m8 .mul (.str [48]) (.int ((p:N6)+1 - ((aA t.natAbs).length:N6)))=xV (.str (Pc (p+1 - (aA t.natAbs).length) 48)):=by
  rw[ab6 _ (cZ [R0 V0 (zc 19)] (S1 V0) (zc 1000) rfl (iP ⟨zI [_,_] [] [R0 (S1 K0) V0,R0 V1 (zc 20)] (zn (zs (S1 (zu V0)) (zu V1))) (zu (zc 19)) [1,1,1] rfl f e,zI [_,_] [] [R0 V0 (zc 18)] (zs (S1 (zu V0)) (zu V1)) (zu (zc 19)) [1,1] rfl c⟩))]
  congr 3;exact adW
 haveI a:=qm t p;haveI g:=uI t;haveI d:=r7 ((bt t p).take ((bt t p).length - p)++[46]) ((bt t p).drop ((bt t p).length - p)) (by rw[Nv];rw[OR];rw[Ol];simp only[Nn,NL];unfold lim;exact adX c e a);replace d:=(by rw[NM];rfl:(bt t p).take ((bt t p).length - p)++[46]++(bt t p).drop ((bt t p).length - p)=(bt t p).take ((bt t p).length - p)++46::(bt t p).drop ((bt t p).length - p))▸d;refine ag (ρ:=[xV (pC t p),Nm]) rfl rfl rfl (aa i ?_);refine cD (OT.mpr f) (aa hm ?_);refine aa (r7 _ _ (by rw[QK];unfold lim;exact Nj (O6 (Nj (QR _ _) (Oi c)) e) (by decide)):m8 .add (.str (Pc (p+1 - (aA t.natAbs).length) 48)) (.str (aA t.natAbs))=xV (.str (bt t p))) (aa (Ge (cR [R0 V1 (zc 18),R0 V2 (zc 20),R0 V0 (zp (S1 V1) V2)] V0 (zc 1000) rfl c e a.2) f (cj [R0 (S1 V0) V1] V0 V1 rfl a.1)) ?_);refine aa (r7 ((bt t p).take ((bt t p).length - p)) [46] (by rw[OR];dsimp only[Nn,NL];unfold lim;exact adY e a)) (aa (CI (cR [R0 V1 (zc 18),R0 V2 (zc 20),R0 V0 (zp (S1 V1) V2)] V0 (zc 1000) rfl c e a.2) f (by exact cj [R0 (S1 V0) V1] V0 V1 rfl a.1)) ?_);refine aa d (la ?_);exact aa (r7 (gu t) ((bt t p).take ((bt t p).length - p)++46::(bt t p).drop ((bt t p).length - p)) (by rw[Nv];rw[OR];rw[Nn];rw[Ol];unfold lim;exact adZ f c e a g)) (af q)
def pU(t:N6)(p:Nu):Ni Nu:=gu t++((if 10 ^ p<=t.natAbs\/t=0 then(bt t p).take ((bt t p).length - p) else[])++46::(bt t p).drop ((bt t p).length - p))
def rN{p}(u:t.natAbs<10 ^ 20)(v:0<p)(a:p<=18)(q:Q (.str (pU t p)) H):call (n+3) 13 [pC t p] H Q X:=by
 refine ag (ρ:=[xV (pC t p),Nm]) rfl rfl rfl (ak λW o=>?_);refine JJ u v a (o (ak λW o=>?_));unfold pU at q;refine aa (acm p (Nj a (by decide))) ?_;refine(NG (10 ^ p<=t.natAbs)).elim (λg=>?_) (λg=>?_)
 ·rw[Np (.inl g)] at q
  exact cD (Pk.mpr g) (af q)
 refine bp (λz=>g (Pk.mp z)) ?_;refine(NG (t=0)).elim (λi=>?_) (λi=>?_)
 ·rw[Np (.inr i)] at q
  exact cD i (af q)
 rw[Nl (λz=>z.elim g i),OX] at q;refine bp i (o ?_);refine la ⟨rfl,?_⟩;haveI j:=qm t p;haveI s:=(dW (by decide)).mpr u;haveI f:=uI t;haveI d:∀l:Ni Nu,(∀c∈l,c∈bt t p)->46∉l:=λl x h=>NK (ql t p 46 (x 46 h)).1 (by decide);haveI e:xh t p=(gu t++(bt t p).take ((bt t p).length - p))++46::(bt t p).drop ((bt t p).length - p):=by unfold xh;rw[NM];rfl
 haveI y:46∉gu t++(bt t p).take ((bt t p).length - p):=by
  intro h;refine ND (mem_append.mp h) (λh=>?_) (λh=>?_)
  ·unfold gu at h;split at h
   ·exact NK (mem_singleton.mp h) (by decide)
   ·contradiction
  ·exact d _ (λc m=>Sb m) h
 haveI hi:=Eg (r:=(bt t p).drop ((bt t p).length - p)) H y (d _ λc m=>Sd m);replace hi:=NU (e)▸hi;haveI w:=CJ (b:=xh t p) (k:=(gu t++(bt t p).take ((bt t p).length - p)).length) (by rw[e];simp only[Nv,OR,Nn,Ol];exact adR v a j s f) (by simp only[e,Nv];exact NV _ _);rw[show(xh t p).drop (gu t++(bt t p).take ((bt t p).length - p)).length=46::(bt t p).drop ((bt t p).length - p) by rw[e];rw[Ni.drop_left];rfl] at w;refine aa hi (aa w ?_);exact aa (r7 (gu t) (46::(bt t p).drop ((bt t p).length - p)) (by rw[Nn];rw[Ol];unfold lim;exact Nj (O6 f (Oi (Nj (QR _ _) (Nj j.2 (O6 (Oi a) s))))) (by decide))) (af q)
def qB(a:0<p):cB t p=pU t p:=by unfold cB pU;rw[Nl (Sm a)];rfl
def CB(t)(p):∀c∈cB t p,c<256:=by
 intro c a;haveI d:∀c∈gu t,c<256:=by intro c a;unfold gu at a;split at a;rw[mem_singleton.mp a];exact O7 _ _;exact nomatch a
 refine(NG (0<p)).elim (λb=>?_) (λb=>?_)
 ·replace a:=(qB b)▸a
  refine ND (mem_append.mp a) (λh=>?_) (λh=>?_)
  ·exact d c h
  ·refine ND (mem_append.mp h) (λh=>?_) (λh=>?_)
   ·split at h
    ·haveI:=ql t p c (Sb h);exact cZ [R0 V0 (zc 57)] (S1 V0) (zc 256) rfl this.2
    ·exact nomatch h
   ·refine ND (NH.mp h) (λh=>?_) (λh=>?_)
    ·exact cZ [R2 V0 (zc 46)] (S1 V0) (zc 256) rfl h
    ·haveI:=ql t p c (Sd h);exact cZ [R0 V0 (zc 57)] (S1 V0) (zc 256) rfl this.2
 ·unfold cB at a
  rw[Np (by exact zE [_] [] [R1 (S1 K0) V0] V0 K0 [1,1] [1,0] rfl rfl b)] at a;refine ND (mem_append.mp a) (λh=>?_) (λh=>?_)
  ·exact(jH t c h).1
  ·rw[mem_singleton.mp h];exact O7 _ _
def CA(e:t.natAbs<10 ^ 20)(c:p<=18):(cB t p).length<=22:=by
 haveI a:=qm t p;haveI f:=(dW (by decide)).mpr e;haveI b:=uI t;refine(NG (0<p)).elim (λd=>?_) (λd=>?_)
 ·rw[qB d]
  haveI:(bt t p).length<=20:=by rw[Nv];rw[QK];exact adT c f
  unfold pU;simp only[Nv,Nn,Ol];split
  ·rw[OR];exact adU a b d this
  ·dsimp only[NL];exact adV c a b d
 ·unfold cB
  rw[Np (zE [_] [] [R1 (S1 K0) V0] V0 K0 [1,1] [1,0] rfl rfl d)];rw[Nv];haveI:=gR (by decide) e;dsimp only[Nn,NL];exact Pd this
end
def b8(ks:Ni Nu):dQ:=.dict (bL ks) (ks.map λ_=>V.bool Nk)
noncomputable def rK(k:Nu)(ks:Ni Nu):Ni Nu:=if k∈ks then ks else ks++[k]
set_option tactic.hygienic true in
def wq:x∈rK k ks↔x=k\/x∈ks:=by
 unfold rK;split
 ·next h=>exact⟨.inr,λq=>q.elim (λe=>e▸h) id⟩
 ·rw[Of];rw[Oc];exact or_comm
def vT(k)(ks):(rK k ks).length<=ks.length+1:=by unfold rK;split<;>simp
def Cu:∀ks us,(∀u∈us,u=V.bool Nk)->l8 k (.bool Nk) ks us=us:=by
 intro b;induction b with
 |nil=>intro us _;induction us<;>rfl
 |cons x ks a=>
  intro c;induction c with
  |nil=>intro _;exact rfl
  |cons u us=>
   intro h;refine(?_:(if bb x k then V.bool Nk::us else u::l8 k (.bool Nk) ks us)=_);split
   ·rw[h u (Ny)];rfl
   ·rw[a us λv d=>h v (by simp[d])];rfl
def zH{k:Nu}:∀ks,(bL ks).any (bb · (.int k))=decide (k∈ks):=by
 intro b;induction b with
 |nil=>exact rfl
 |cons x ks a=>
  refine(?_:(bb (.int x) (.int k)||(bL ks).any (bb · (.int k)))=_);rw[a];rw[Pz];refine(?_:((((x:N6)==(k:N6))||decide (k∈ks))=Nk)↔_);simp only[PV,Ob,N8,NH];haveI e:((x:N6)=(k:N6))↔k=x:=by exact aap
  rw[e];rfl
def zG(ks):(bL ks).all (iF (.int k))=Nk:=by rw[Xd];rw[RL];intro x _;rfl
def AW{p k:Nu}(h:H p=xV (b8 ks))(c:ks.length<1000):cX (.ref p) (.int k) (.bool Nk) H=xV (H.set p (b8 (rK k ks))):=by
 unfold b8 at h;refine(?_:CG (H p) _ _ _ _=_);rw[h];refine(?_:(if(iF (.int k) (.int k)&&(bL ks).all (iF (.int k))&&decide ((bL ks).length<1000))=Nk then xV (H.set p (if(bL ks).any (bb · (.int k))=Nk then _ else _)) else Nm)=_);rw[show iF (.int k) (.int k)=Nk from rfl];rw[zG];rw[zH];rw[Np (by rw[aY];rw[NP c];rfl)]
 congr 2
 unfold rK;by_cases e:k∈ks
 ·rw[Np (NP e)];rw[Np e];rewrite [Cu _ _ (λu b=>by refine ah (TA.mp b) ?_;intro _ _ a;clear b;subst a;rfl)];rfl
 ·rw[Nl (by simpa using e)];rw[Nl e]
  unfold b8;rw[ee];rw[N7];rfl
def Le{p k:Nu}(h:H p=xV (b8 ks)):jg .ud (.int k) (.ref p) H=xV (decide (k∈ks)):=by refine(?_:It _ (H p)=_);rw[h];refine(?_:(if(iF (.int k) (.int k)&&(bL ks).all (iF (.int k)))=Nk then xV ((bL ks).any (bb · (.int k))) else Nm)=_);rw[show iF (.int k) (.int k)=Nk from rfl];rw[zG];rw[zH];rfl
def Kp(n:Nu):f5 ((n:N6) - 0).toNat 0 (n:N6) 1=bL (Pr n):=by
 haveI e:((n:N6) - 0).toNat=n:=by exact rfl
 haveI:=uC 1 (by decide) n n 0 (NA _);rw[Uw,Og] at this;refine V8 this ?_;apply QE;intro i _;rw[Uw];rw[Og];rfl
def sV(n:Nu)(h:n<=1000)(H):cp .range [.int n] H=xV (.mN 0 n 1):=by show(if _ then _ else _)=_;rw[Np (show dG (n:N6)=Nk from NP (aav h))];rfl
def A1(h:H p=xV (.list l)):jZ (.ref p) H=xV (!l.isEmpty):=by refine(?_:hL (H p) _=_);rw[h];rfl
def CH{H:ae}(h:p≠a):(H.set a x).set p y=(H.set p y).set a x:=qF (OG h)
def ae8{H:ae}{p k:Nu}(b:ks.length<1000):cX (.ref p) (.int k) (.bool Nk) (H.set p (b8 ks))=xV (H.set p (b8 (rK k ks))):=by rw[AW (aj ..) b];rw[ax];rfl
structure LD(H:ae)(s p:Nu)(G:Ni Nu->Ni Nu->ae):Prop where
 gs:∀{st ks},G st ks s=xV (.list (bL st))
 ap:∀{st ks}{c:Nu},st.length<lim->cT .append (.ref s) [.int c] (G st ks)=xV (.none,G (st++[c]) ks)
 po:∀{st ks}{c:Nu},(st++[c]).length<=lim->cT .pop (.ref s) [] (G (st++[c]) ks)=xV (.int c,G st ks)
 mA:∀{st ks},js .append (.ref s) (G st ks)=Nk
 si:∀{st ks k},ks.length<1000->cX (.ref p) (.int (k:Nu)) (.bool Nk) (G st ks)=xV (G st (rK k ks))
 fz:∀{st ks},eJ (.ref s) (G st ks)=xV (.lst (bL st),H.set p (b8 ks))
def l_d{H:ae}(d:H s=Nm)(a:p≠s):∃G,LD H s p G/\(H.set s (.list [])).set p (.dict [] [])=G [] []:=by
 have gs:∀{st ks},((H.set s (.list (bL st))).set p (b8 ks)) s=xV (.list (bL st)):=λ{_ _}=>by rw[aP (OG a)];rw[aj];rfl
 haveI b:∀st ks l,((H.set s (.list (bL st))).set p (b8 ks)).set s (.list l)=(H.set s (.list l)).set p (b8 ks):=λ_ _ _=>by rw[qF a];rw[ax];rfl
 refine⟨λst ks=>(H.set s (.list (bL st))).set p (b8 ks),⟨gs,λ{st ks c} h=>?_,λ{st ks c} h=>?_,λ{_ _}=>by refine(?_:yF _=Nk);rw[gs];rfl,λh=>by rw[AW (aj ..) h];rw[ax];rfl,λ{st ks}=>?_⟩,rfl⟩
 ·rw[(sL gs (by rw[aY];exact h)).2.1];rw[b];rw[ee];rfl
 ·haveI g:((H.set s (.list (bL (st++[c])))).set p (b8 ks)) s=xV (.list (bL st++[.int c])):=by rw[gs];rw[ee];rfl
  rw[y4 g (by rw[Nv];rw[aY];rw[Nv] at h;exact h)];rw[b];rfl
 ·refine(?_:(match ((H.set s (.list (bL st))).set p (b8 ks)) s with|some (.list vs)=>xV (V.lst vs,_)|some (.dict ks vs)=>_| _=>Nm)=_)
  rw[gs];refine(?_:xV (_,((H.set s (.list (bL st))).set p (b8 ks)).erase s)=_);rw[CH a];rw[iW (by rw[aP (OG a)];exact d)];rfl
section
variable {H:ae}{n a:Nu}{Q:av}{X:Prop}
def kh(e:t.natAbs<10 ^ 20)(d:p<=18)(q:Q (.bytes (cB t p)) H):call (n+4) 29 [pC t p,.bool Nk] H Q X:=by
 refine ag (ρ:=[xV (pC t p),xV (.bool Nk),Nm,Nm]) rfl rfl rfl (ak λs o=>?_);refine bp (λz=>Pt.mpr (N6.ofNat_le.mp z) (NY e (PK (by decide) (by decide)))) ?_;refine bp (λz=>Pt.mpr (Nj d (by decide)) (OT.mp z)) (o (ak λW j=>?_));haveI fin:W [xV (pC t p),xV (.bool Nk),xV (.str (cB t p)),Nm] H:=by
  haveI a:=CA e d;refine j (ak λW j=>⟨by rw[NR];unfold lim;exact Nj a (by decide),?_⟩);refine fe (λx=>match x with|.str [c]=>!([45,46]:Ni Nu).contains c| _=>Nr) (λx=>x) _ _ (λx m K r=>?_) (λx _ k h=>h) ?_
  ·refine ah (TA.mp m) λc _ i=>?_;clear m;subst i
   exact r
  ·haveI l:=Ni.length_filter_le (λx=>match x with|.str [c]=>!([45,46]:Ni Nu).contains c| _=>Nr) (uT (cB t p))
   rw[tG] at l;rw[Ni.map_id'];refine bp (λz=>by haveI:=OT.mp z;exact zF [_,_] [] [R0 V0 (zc 22),R0 V1 V0,R4 (S1 (zu (zc 40))) (zu V1)] [1,1,1] rfl a l z) (j ?_);exact iM (CB t p) (Nj a (by decide)) (af q)
 by_cases f:p=0
 ·clear d q;subst f
  haveI g:=gR (by decide) e;exact aa (Gk t H (NY e (PK (by decide) (by decide)))) (aa (r7 (au t) [46] (by simp only[Nn,NL];unfold lim;exact Nx g (by decide))) fin)
 ·rw[qB (PD f)] at fin
  exact bp (λz=>f (Pg.mp z)) (rN e (PD f) d fin)
def Il{b:Ni Nu}(D:b.length<=300)(q:∀p ks,H p=Nm->(∀x,x∈ks↔x∈fk b)->Q (.ref p) (H.set p (b8 ks))):call (n+1) 30 [.bytes b] H Q X:=by
 refine ag (ρ:=[xV (.bytes b),Nm,Nm,Nm]) rfl rfl rfl λs U p F=>?_;haveI C:=cc (aj H s (.list [])) F;replace F:=(aP C)▸F;refine ah (l_d U C) λG g T=>?_;rw[T];refine ak λW E=>c0 (v:=.mN 0 b.length 1) (λK h=>?_) (by refine(?_:xV _=_);rw[Kp];rfl) λB N O M=>?_
 ·exact aa (sV b.length (Nj D (by decide)) _) h
 haveI m:∀ks st f,ks.length+st.length<=700->(∀a,(∀x,x∈a↔x∈ks\/x∈st)->Q (.ref p) (H.set p (b8 a)))->W [xV (.bytes b),xV (.ref s),xV (.ref p),f] (G st ks):=by
  intro ks st f d q;refine E (ak λW E=>aa rfl ?_);refine aa g.fz ?_;refine E (ak λY L=>c0 (λK h=>h) rfl λB N O M=>?_);clear E;haveI key:∀r ks f,ks.length+r.length<=700->(∀a,(∀x,x∈a↔x∈ks\/x∈r)->Q (.ref p) (H.set p (b8 a)))->bc [3] B (bL r) [xV (.bytes b),xV (.lst (bL st)),xV (.ref p),f] (H.set p (b8 ks)) N:=by
   intro r;induction r with
   |nil=>exact λks f _ q=>M (L (af (q ks λx=>⟨.inl,λz=>z.elim id λz=>(by contradiction)⟩)))
   |cons c r t=>intro ks f d q;replace d:=(Nn)▸d;haveI:=vT c ks;refine O (aa (ae8 (Nx (Nj (NV _ _) d) (by decide))) ?_);exact t (rK c ks) _ (cR [R0 (zp V2 (S1 V1)) (zc 700),R0 V0 (S1 V2)] (zp V0 V1) (zc 700) rfl d this) λa h=>q a λx=>by rw[h];rw[wq];rw[NH];rw[_root_.or_assoc];rw[Vq];rfl
  exact key st ks f d q
 haveI key:∀r k st ks j f,b.drop k=r->k+r.length=b.length->st.length+ks.length<=k->(∀x,x∈ks↔x∈j)->(∀a,(∀x,x∈a↔x∈(bI r k st j).2\/x∈(bI r k st j).1)->Q (.ref p) (H.set p (b8 a))) ->
   bc [3] B (bL (QY k r.length)) [xV (.bytes b),xV (.ref s),xV (.ref p),f] (G st ks) N:=by
  intro r;induction r with
  |nil=>intro k st ks j f J o e y q;exact M (m ks st f (by lia) λa h=>q a λx=>by rw[h];rw[y];rfl)
  |cons c r t=>
   intro k st ks j f J o e y q;replace o:=(Nn)▸o;haveI P:b[k]?=xV c:=by refine bB (NU (QP)) ?_;rw[J];rfl
   haveI I:b.drop (k+1)=r:=by refine bB (NU Q0) ?_;rw[J];rfl
   rw[fq] at q;haveI t:=λst ks j=>t (k+1) st ks j (xV (.int k)) I (zE [_,_,_] [] [R2 (zp V0 (S1 V1)) V2,R3 (zp V0 (S1 V1)) V2] (zp (S1 V0) V1) V2 [1,1,0] [1,0,1] rfl rfl o o);refine O (aa (aU P _) ?_);refine dJ (λw=>?_) λw=>?_
   ·replace q:=(Np w)▸q
    refine⟨g.mA,?_⟩;exact aa (g.ap (by unfold lim;exact jj [_,_,_,_,_] [R0 V1 (zc 300),R0 (zp V0 V2) V3,R2 (zp V3 (S1 V4)) V1] (S1 V0) (zc 16000000) rfl D e o)) (t (st++[k]) ks j (by rw[Nv];refine(?_:st.length+1+_<=_);exact cR [R0 (zp V0 V1) V2] (zp (S1 V0) V1) (S1 V2) rfl e) y q)
   replace q:=(Nl w)▸q;refine aa (aU P _) ?_;refine dJ (λu=>?_) λu=>?_
   ·replace q:=(Np u)▸q
    refine aa (A1 g.gs) ?_;refine(NG (st=[])).elim (λi=>?_) (λi=>?_)
    ·subst i
     haveI:=vT k ks;replace e:=(NL)▸e;exact aa (g.si (by exact gb [R0 V1 (zc 300),R2 (zp V2 (S1 V3)) V1,R0 (zp K0 V0) V2] (S1 V0) (zc 1000) rfl D o e)) (t [] (rK k ks) (j++[k]) (by rw[NL];exact cR [R0 V0 (S1 V2),R0 (zp K0 V2) V1] (zp K0 V0) (S1 V1) rfl this e) (λx=>by rw[wq];rw[Of];rw[Oc];rw[y];exact or_comm) q)
    ·replace q:=(Nl i)▸q
     obtain⟨l,x,rfl⟩ : ∃l x,st=l++[x]:=⟨st.dropLast,st.getLast i,(OM i).symm⟩;replace q:=(Uv)▸q;haveI A:(l++[x]).length=l.length+1:=Nv;replace e:=(A)▸e;refine fx (by unfold bL;simp) ⟨by refine(?_:yF _=Nk);rw[g.gs];rfl,?_⟩;exact aa (g.po (by unfold lim;exact jj [_,_,_,_,_,_] [R0 V1 (zc 300),R2 (zp V2 (S1 V3)) V1,R2 V0 (S1 V4),R0 (zp (S1 V4) V5) V2] V0 (zc 16000000) rfl D o A e)) (t l ks j (by exact cR [R0 (zp (S1 V0) V1) V2] (zp V0 V1) (S1 V2) rfl e) y q)
   ·replace q:=(Nl u)▸q
    exact t st ks j (by exact O9 e) y q
 haveI:=key b 0 [] [] [] Nm rfl (Og _) (NA _) (λx=>Iff.rfl) λa h=>q p a F λx=>by rw[h];unfold fk;rw[Of];rfl
 rw[Ux];exact this
end
def aba(h:H p=xV (.list l))(a:l.length+b.length<lim):cT .extend (.ref p) [.bytes b] H=xV (.none,H.set p (.list (l++bL b))):=by refine(?_:hL (H p) _=_);rw[h];exact Np (by rw[NR];exact a)
def aeq{H:ae}(a:l.length+b.length<lim):cT .extend (.ref p) [.bytes b] (H.set p (.list (bL l)))=xV (.none,H.set p (.list (bL (l++b)))):=by rw[aba (aj ..) (by rw[aY];exact a)];rw[ax];rw[ee];rfl
section
variable {H:ae}{n a:Nu}{Q:av}{X:Prop}
def kF(h:∀c∈b,c<256)(J:b.length<=300)(q:Q (.bytes (yN b)) H):call (n+2) 31 [.bytes b] H Q X:=by
 refine ag (ρ:=[xV (.bytes b),Nm,Nm,Nm,Nm]) rfl rfl rfl ?_;refine Il J λz ks Y t p M=>?_;haveI L:=cc (aj H z (b8 ks)) M;haveI u:ae.le H (H.set z (b8 ks)):=dh Y;haveI y:∀l,((H.set z (b8 ks)).set p (.list l)) z=xV (b8 ks):=λl=>by rw[aP (OG L)];rw[aj];rfl
 generalize H.set z (b8 ks)=D at M u y;refine ak λW Z=>c0 (v:=.mN 0 b.length 1) (λK h=>?_) (by refine(?_:xV _=_);rw[Kp];rfl) λB N U T=>?_
 ·exact aa (sV b.length (Nj J (by decide)) _) h
 haveI key:∀r k acc s m,b.drop k=r->k+r.length=b.length->acc.length+2 * r.length<=700->(∀c∈r,c<256)->(∀c∈acc,c<256)->Q (.bytes (acc++(fj (fk b) k r++[41]))) H ->
   bc [3] B (bL (QY k r.length)) [xV (.bytes b),xV (.ref z),xV (.ref p),s,m] (D.set p (.list (bL acc))) N:=by
  intro r;induction r with
  |nil=>intro k acc s m G C f E O q;have f:=f;refine T (Z ⟨rO,?_⟩);refine aa (Df (by unfold lim;lia)) ?_;refine aa (gI (aj ..) (by rw[Nv];refine(?_:acc.length+1<=lim);unfold lim;lia) (λc I=>(mem_append.mp I).elim (O c) λe=>by rw[mem_singleton.mp e];decide)) ?_;exact⟨H,λx o d=>dh M x o (u x o d),q⟩
  |cons c r P=>
   intro k acc s m G C f E O q;rw[Nn] at C f;haveI A:=E c (Ny ..);haveI hg:b[k]?=xV c:=by refine bB (NU (QP)) ?_;rw[G];rfl
   rw[gm] at q;have next:∀w,w.length<=2->(∀c∈w,c<256)->Q (.bytes (acc++(w++fj (fk b) (k+1) r++[41]))) H->∀s m,bc [3] B (bL (QY (k+1) r.length)) [xV (.bytes b),xV (.ref z),xV (.ref p),s,m] (D.set p (.list (bL (acc++w)))) N:=λw hw F q s m=>
    P (k+1) (acc++w) s m (by refine bB (NU Q0) ?_;rw[G];rfl) (zE [_,_,_] [] [R2 (zp V0 (S1 V1)) V2,R3 (zp V0 (S1 V1)) V2] (zp (S1 V0) V1) V2 [1,1,0] [1,0,1] rfl rfl C C) (by rw[Nv];exact cR [R0 (zp V0 (zm 2 (S1 V2))) (zc 700),R0 V1 (zc 2)] (zp (zp V0 V1) (zm 2 V2)) (zc 700) rfl f hw) (λx d=>E x (NB _ d)) (λx d=>(Of.mp d).elim (O x) (F x)) (by rw[NM];rewrite [<- NM w];exact q)
   clear P;refine U (aa (aU hg _) ?_);refine dJ (λi=>?_) λi=>?_
   ·replace q:=(Np i)▸q
    refine⟨Io,?_⟩;refine aa (aeq (by refine(?_:acc.length+2<lim);unfold lim;exact cj [R0 (zp V0 (zm 2 (S1 V1))) (zc 700)] (S1 (zp V0 (zc 2))) (zc 16000000) rfl f)) ?_;exact next [92,114] (by decide) (by decide) q _ _
   rw[Nl i] at q;have two:c=92\/k∈fk b->eW (call (n+1)) (.exp (.aH .extend (.loc 2) (.cons (.eN (.cons (.glob 14) (.cons (.loc 4) .nil))) .nil))) [xV (.bytes b),xV (.ref z),xV (.ref p),xV (.int k),xV (.int c)] (D.set p (.list (bL acc)))
     (fun ρ H=>bc [3] B (bL (QY (k+1) r.length)) ρ H N) (gk Q) (fun ρ H=>bc [3] B (bL (QY (k+1) r.length)) ρ H N) X:=λg=>by
    rw[Np g] at q;refine⟨Io,?_⟩;refine aa (K5 (l':=[92,c]) (by refine(?_:acc.length+2<lim);unfold lim;exact cj [R0 (zp V0 (zm 2 (S1 V1))) (zc 700)] (S1 (zp V0 (zc 2))) (zc 16000000) rfl f)) ?_;exact next [92,c] (NA _) (λx d=>by refine ND (NH.mp d) (λe=>?_) (λe=>?_);rw[e];decide;rw[Oc.mp e];exact A) q _ _
   refine dJ (λj=>two (.inl j)) λj=>?_;refine aa (Le (k:=k) (y _)) ?_;by_cases a:k∈fk b
   ·exact cD ((t k).mpr a) (two (.inr a))
   ·refine bp (λz=>a ((t k).mp z)) ⟨rO,?_⟩
    rw[Nl (λz=>z.elim j a)] at q;exact aa (Df (by unfold lim;exact Nx (Nj (NV _ _) f) (by decide))) (next [c] (Ql 1) (λx d=>by rw[Oc.mp d];exact A) q _ _)
 haveI:=key b 0 [40] Nm Nm rfl (Og _) (by refine(?_:1+2 * b.length<=700);exact zL [_] [] [R0 V0 (zc 300)] (zp K1 (zm 2 V0)) (zc 700) [1,2] rfl J) h (λc I=>by rw[Oc.mp I];decide) q;rw[Ux];exact this
def mh(h:∀c∈b,c<256)(d:b.length<=300)(q:Q (.bytes (fv b)) H):call (n+3) 33 [Gj b x,.bool Nk] H Q X:=by
 refine ag (ρ:=[xV (Gj b x),xV (.bool Nk),Nm,Nm]) rfl rfl rfl ?_;refine kF h d (rI h d ?_);unfold fv at q;by_cases e:(yN b).length<=(yx b).length
 ·rw[Np e] at q;exact cD (Pk.mpr e) (af q)
 ·rw[Nl e] at q;exact bp (λz=>e (Pk.mp z)) (af q)
def okA:Atom->Prop
 |.null=>Sl
 |.truth _=>Sl
 |.int i=>i.natAbs<10 ^ 40
 |.real t p=>t.natAbs<10 ^ 20/\p<=18
 |.name s=>(∀c∈s,0<c/\c<256)/\s.length<=300
 |.str b=>(∀c∈b,c<256)/\b.length<=300
 |.ref i j=>(0<=i/\i.natAbs<10 ^ 40)/\0<=j/\j.natAbs<10 ^ 40
def AE:Atom->Ni Nu
 |.null=>[110,117,108,108]
 |.truth b=>if b then[116,114,117,101] else[102,97,108,115,101]
 |.int i=>au i
 |.real t p=>cB t p
 |.name s=>eh s
 |.str b=>fv b
 |.ref _ _=>[]
def rQ{a}(h:Ta a v)(ok:okA a)(hr:∀i j,a≠.ref i j)(q:Q (.bytes (AE a)) H):call (n+5) 34 [.str a.kind,v,.bool Nk] H Q X:=by
 refine ag (ρ:=[xV (.str a.kind),xV v,xV (.bool Nk)]) rfl rfl rfl ?_;induction a with
 |null=>exact af q
 |truth b=>rw[show v=_ from h];clear h ok hr;induction b<;>exact af q
 |int i=>rw[show v=_ from h];exact eC ok (af q)
 |real t p=>rw[show v=_ from h];exact kh ok.1 ok.2 (af q)
 |name s=>rw[show v=_ from h];exact iI ok.1 ok.2 (af q)
 |str b=>refine X1 h ?_;clear h;intro x c;subst c;exact mh ok.1 ok.2 (af q)
 |ref i j=>exact NK rfl (hr i j)
def lX(hi:0<=i/\i.natAbs<10 ^ 40)(f:0<=j/\j.natAbs<10 ^ 40)(g:H p=xV (.list l))(e:l.length<=1000)(q:Q .none (H.set p (.list (l++[.bytes (au i),.bytes (au j),.bytes [82]])))):call (n+3) 35 [.ref p,k7 i j] H Q X:=by refine ag (ρ:=[xV (.ref p),xV (k7 i j)]) rfl rfl rfl (ak λW h=>?_);haveI c:=sL g (Nx e (by decide));haveI a:=sL (aj H p (.list (l++[.bytes (au i)]))) (by simp only[Nv,Nn,NL];unfold lim;exact cZ [R0 V0 (zc 1000)] (S1 (zp V0 (S1 K0))) (zc 16000000) rfl e);haveI d:=sL (aj H p (.list (l++[.bytes (au i)]++[.bytes (au j)]))) (by simp only[Nv,Nn,NL];unfold lim;exact cZ [R0 V0 (zc 1000)] (S1 (zp (zp V0 (S1 K0)) (S1 K0))) (zc 16000000) rfl e);refine bp (Ss.mpr hi.1) (bp (Ss.mpr f.1) (h ⟨c.1,?_⟩));refine eC hi.2 ?_;refine aa (c.2.1 _) ⟨a.1,?_⟩;refine eC f.2 (aa (a.2.1 _) ?_);rw[ax];refine⟨d.1,?_⟩;refine aa (d.2.1 _) ?_;rw[ax];rw[NM];rw[NM];exact af q
end
noncomputable def AD:Fo->Prop
 |.nil=>Sl
 |.atom a r=>okA a/\AD r
 |.arr l r=>AD l/\AD r
 |.dict l r=>AD l/\AD r
noncomputable def j7(l:Ni (Ni Nu)):Ni V:=l.map V.bytes
def zQ(l m):j7 (l++m)=j7 l++j7 m:=map_append
def nH(l):(j7 l).length=l.length:=NR _
def AD.split(h:AD f):AD (ed f)/\AD (f7 f):=by
 induction f with
 |nil=>exact⟨trivial,trivial⟩
 |atom a r=>exact⟨⟨h.1,trivial⟩,h.2⟩
 |arr l r=>exact⟨⟨h.1,trivial⟩,h.2⟩
 |dict l r=>exact⟨⟨h.1,trivial⟩,h.2⟩
def LP(N n:Nu):Prop:=∀(f:Fo) (v:V) (p:Nu) (l:Ni (Ni Nu)) (H:ae) (Q:av) (X:Prop),Tl f [v]->dp f<=N->AD f->H p=xV (.list (j7 l))->l.length+(cq f).length<=1000 ->
  Q .none (H.set p (.list (j7 (l++cq f))))->call (n+2 * N+6) 37 [.ref p,v,.bool Nk] H Q X
def uW(c:H p=xV (.list (j7 l)))(a:l.length<lim):cT .append (.ref p) [.bytes b] H=xV (.none,H.set p (.list (j7 (l++[b])))):=by rw[(sL c (by rw[nH];exact a)).2.1];rw[zQ];rfl
def G0{H:ae}(a:l.length<lim):cT .append (.ref p) [.bytes b] (H.set p (.list (j7 l)))=xV (.none,H.set p (.list (j7 (l++[b])))):=by rw[uW (aj ..) a];rw[ax];rfl
def Im(a:H p=xV (.list l)):js .append (.ref p) H=Nk:=by show yF _=Nk;rw[a];rfl
section
variable {H:ae}{n a:Nu}{Q:av}{X:Prop}
def wg{a}(h:Ta a v)(ok:okA a)(c:H p=xV (.list (j7 l)))(d:l.length<=1000)(q:Q .none (H.set p (.list (j7 (l++a.parts))))):
  call (n+6) 37 [.ref p,v,.bool Nk] H Q X:=by
 refine ag (ρ:=[xV (.ref p),xV v,xV (.bool Nk),Nm,Nm]) rfl rfl rfl (bu (i5 h) ?_);have k:(∀i j,a≠.ref i j)->a.parts=[AE a]->eW (call (n+5)) (.exp (.aH .append (.loc 0) (.cons (.call 34 (.cons (.loc 3) (.cons (.loc 1) (.cons (.loc 2) .nil)))) .nil))) [xV (.ref p),xV v,xV (.bool Nk),xV (.str a.kind),Nm] H (EN Q) (gk Q) noK X:=λg f=>by rw[f] at q;refine⟨Im c,?_⟩;exact rQ h ok g (aa (uW c (Nx d (by decide))) (af q))
 induction a with
 |ref i j=>rw[show v=_ from h];refine lX ok.1 ok.2 c (by rw[nH];exact d) ?_;rw[zQ] at q;exact af q
 | _=>exact k (λ_ _ e=>(by contradiction)) rfl
def EJ(r:LP N n)(m:∀{ρ H k},eW (call (n+2 * N+6)) (.exp (.call 37 (.cons (.loc 0) (.cons (.loc 4) (.cons (.loc 2) .nil))))) ρ H k R k X->B ρ H k):∀vs f l H a,Tl f vs->dp f<=N->AD f ->
   H p=xV (.list (j7 l))->l.length+(cq f).length<=1000->(∀a,N' [xV (.ref p),x1,xV (.bool Nk),x3,a] (H.set p (.list (j7 (l++cq f)))))->bc [4] B vs [xV (.ref p),x1,xV (.bool Nk),x3,a] H N':=by
 intro d;induction d with
 |nil=>intro f l H a h hd ok e c q;haveI:=q a;rw[show f=.nil from h.nil,show cq .nil=[] from rfl,N9,ey e] at this;exact this
 |cons v vs b=>intro f l H a h hd ok e c q;refine A6 h.iO λo j _ i s g=>?_;have k1:=(ok.split).1;have k2:=(ok.split).2;rw[g,Nv] at c;refine m (r _ v p l H _ X o (Nj i hd) k1 e (cR [R0 (zp V0 (zp V1 V2)) (zc 1000)] (zp V0 V1) (zc 1000) rfl c) ?_);refine b (f7 f) (l++cq (ed f)) _ _ j (Nj s hd) k2 (aj _ _ _) (by rw[Nv];exact cR [R0 (zp V0 (zp V1 V2)) (zc 1000)] (zp (zp V0 V1) V2) (zc 1000) rfl c) λa=>?_;rw[ax];rw[NM];exact bB (NU g) (q a)
def EI(E:LP N n)(A:∀{ρ H k},eW (call (n+2 * N+6)) (.ite (.cmp .vZ (.idx (.loc 1) (.loc 3)) (.lit .none)) (.seq (.exp (.aH .append (.loc 0) (.cons (.call 27 (.cons (.loc 3) .nil)) .nil)))
  (.exp (.call 37 (.cons (.loc 0) (.cons (.idx (.loc 1) (.loc 3)) (.cons (.loc 2) .nil)))))) .skip) ρ H k R k X->B ρ H k):∀K f l H b,(∀k∈K,∃v,b7 k ks ws=xV v)->Tl f (aX ks ws K)->dp f<=N->AD f ->
   H p=xV (.list (j7 l))->l.length+(cq f).length<=1000->(∀b,N' [xV (.ref p),xV (.ec ks ws),xV (.bool Nk),b] (H.set p (.list (j7 (l++cq f)))))->bc [3] B (K.map V.str) [xV (.ref p),xV (.ec ks ws),xV (.bool Nk),b] H N':=by
 intro m;induction m with
 |nil=>intro f l H b _ h hd ok g c q;haveI:=q b;rw[show f=.nil from h.nil,show cq .nil=[] from rfl,N9,ey g] at this;exact this
 |cons k K a=>
  intro f l H b hk h hd ok g c q;refine X1 (hk k (Ny ..)) λv t=>?_;have e:aX ks ws (k::K)=el k v++aX ks ws K:=by unfold aX;rw[OC];rw[t];rfl
  replace h:=(e)▸h;unfold el at h;haveI hi:∀H,gQ (.ec ks ws) (.str k) H=xV v:=λ_=>t;haveI d:∀x∈K,∃v,b7 x ks ws=xV v:=λx w=>hk x (NB _ w);refine A (aa (hi H) ?_);induction j:aJ v with
  |false=>rw[j,Nl (by decide),OX] at h;exact fQ j (a f l H _ d h hd ok g c q)
  |true=>
   refine fx j ?_;rw[j,Np rfl] at h;refine ah (Tl.name (h:Tl f (cV k::([v]++aX ks ws K)))) λr s y=>?_;clear h;subst s;refine A6 (Tl.iO (show Tl r (v::aX ks ws K) from y)) λD z _ u F C=>?_;have k1:=(ok.2.split).1;have k2:=(ok.2.split).2;haveI i:=hd;have o:cq (.atom (.name k) r)=[eh k]++(cq (ed r)++cq (f7 r)):=by refine(?_:[eh k]++cq r=_);rw[C];rfl
   rw[o] at c q;simp only[Nv,Nn,NL] at c;refine⟨Im g,?_⟩;refine iI ok.1.1 ok.1.2 (aa (uW g (by unfold lim;exact Nx (Nj (NV _ _) c) (by decide))) ?_);refine aa (hi _) (E _ v p (l++[eh k]) _ _ X D (Nj u i) k1 (aj _ _ _) (by simp only[Nv,Nn,NL];exact cR [R0 (zp V0 (zp (S1 K0) (zp V1 V2))) (zc 1000)] (zp (zp V0 (S1 K0)) V1) (zc 1000) rfl c) ?_);rw[ax];refine a (f7 r) (l++[eh k]++cq (ed r)) _ _ d z (Nj F i) k2 (aj _ _ _) (by simp only[Nv,Nn,NL];exact cR [R0 (zp V0 (zp (S1 K0) (zp V1 V2))) (zc 1000)] (zp (zp (zp V0 (S1 K0)) V1) V2) (zc 1000) rfl c) λb=>?_;rw[ax];rw[NM];rw[NM];exact q b
def LJ:∀(N n:Nu),LP N n:=by
 intro N;induction N with
 |zero=>
  intro n f v p l H Q X h hd ok o c q;cases f with
  |nil=>exact nomatch h
  |atom a r=>refine aO h ?_;clear h;intro v' us e j d;cases e;rw[show r=.nil from d.nil,show cq (.atom a .nil)=a.parts++[] from rfl,N9] at q;exact wg j ok.1 o (Rd c) q
  |arr l r=>exact NK (Nj (Ox _ _) hd) (RN _)
  |dict l r=>exact NK (Nj (Ox _ _) hd) (RN _)
 |succ N y=>
  intro n f v p l H Q X h hd ok o c q;cases f with
  |nil=>exact nomatch h
  |atom a r=>refine aO h ?_;clear h;intro v' us e j d;cases e;rw[show r=.nil from d.nil,show cq (.atom a .nil)=a.parts++[] from rfl,N9] at q;exact wg j ok.1 o (Rd c) q
  |arr g r=>
   refine e9 h ?_;clear h;intro ws us e D j d;injection e with e m;subst e m
   haveI i:=Rx (Nj (Ox _ _) hd);rw[show r=.nil from d.nil,show l++cq (.arr g .nil)=(l++[[91]]++cq g)++[[93]] by simp[jU,fY,g6,g7]] at q;rw[show r=.nil from d.nil,show cq (.arr g .nil)=[91]::(cq g++[[93]]) from rfl] at c;simp only[Nn,Nv,NL] at c;rw[show n+2 * (N+1)+6=n+1+2 * N+6+1 by exact ad0];refine ag (ρ:=[xV (.ref p),xV (.lst ws),xV (.bool Nk),Nm,Nm]) rfl rfl rfl ?_;refine bu rfl ⟨Im o,?_⟩;refine aa (uW o (by unfold lim;exact aaw c)) ?_;refine ak λW x=>c0 (λK h=>h) rfl λB z u t=>?_;refine EJ (y (n+1)) u ws g (l++[[91]]) _ _ j i ok.1 (aj _ _ _) (by simp only[Nn,Nv,NL];exact cj [R0 (zp V0 (S1 (zp V1 (S1 K0)))) (zc 1000)] (zp (zp V0 (S1 K0)) V1) (zc 1000) rfl c) λE=>t (x ⟨rO,?_⟩);rw[ax];exact aa (G0 (by simp only[Nn,Nv,NL];unfold lim;exact cj [R0 (zp V0 (S1 (zp V1 (S1 K0)))) (zc 1000)] (S1 (zp (zp V0 (S1 K0)) V1)) (zc 16000000) rfl c)) (af q)
  |dict g r=>
   refine Mine.bO h λks ws us e D C w=>?_;refine Mine.A3 w λA j d=>?_;injection e with e m;subst e m
   haveI i:=Rx (Nj (Ox _ _) hd);rw[show r=.nil from d.nil,show l++cq (.dict g .nil)=(l++[[60,60]]++cq g)++[[62,62]] by simp[jU,fY,g6,g7]] at q;rw[show r=.nil from d.nil,show cq (.dict g .nil)=[60,60]::(cq g++[[62,62]]) from rfl] at c;simp only[Nn,Nv,NL] at c;refine ag (ρ:=[xV (.ref p),xV (.ec ks ws),xV (.bool Nk),Nm,Nm]) rfl rfl rfl (bu (n:=n+2 * N+6) (s:=[100,105,99,116]) rfl ?_);refine ag (b:=oC) (ρ:=[xV (.ref p),xV (.ec ks ws),xV (.bool Nk),Nm]) rfl rfl rfl ⟨Im o,?_⟩;refine aa (uW (b:=[60,60]) o (by unfold lim;exact aaw c)) ?_;refine ak λW x=>c0 (v:=.lst ((bK ks).map V.str)) (xs:=(bK ks).map V.str) (λK h=>?_) rfl λB z u t=>?_
   ·exact aa (md ks ws _ A) h
   refine EI (y n) u (bK ks) g (l++[[60,60]]) _ _ (λk hk=>kn (dU.mp hk) C) j i ok.1 (aj _ _ _) (by simp only[Nn,Nv,NL];exact cj [R0 (zp V0 (S1 (zp V1 (S1 K0)))) (zc 1000)] (zp (zp V0 (S1 K0)) V1) (zc 1000) rfl c) λF=>t (x ⟨rO,?_⟩);rw[ax];exact aa (G0 (b:=[62,62]) (by simp only[Nn,Nv,NL];unfold lim;exact cj [R0 (zp V0 (S1 (zp V1 (S1 K0)))) (zc 1000)] (S1 (zp (zp V0 (S1 K0)) V1)) (zc 16000000) rfl c)) ⟨_,λ_ _ h=>h,af q⟩
end
def yA(b)(c:Nu)(H):gQ (.bytes (b++[c])) (.int (-1)) H=xV (.int c):=by
 refine(?_:(if ik (-1) (b++[c]).length then((b++[c])[ft (-1) (b++[c]).length]?).map _ else Nm)=_);unfold ik ft;rw[Np (by simp;exact⟨zI [_] [] [] K1 (S1 (zu V0)) [1] rfl,zI [_] [] [] (S1 (zn K1)) (S1 (zu V0)) [1] rfl⟩)];haveI:(-1+((b++[c]).length:N6)).toNat=b.length:=by simp only[Nv,Nn,NL];exact ad1
 rw[this];simp
def xM:∀l,dy (j7 l)=xV l:=by
 intro c;induction c with
 |nil=>exact rfl
 |cons b l a=>refine(?_:(dy (j7 l)).map _=_);rw[a];rfl
theorem sH:∀l,ef [] l=l.flatten
 |[]=>rfl
 |[x]=>by exact(N9 _).symm
 |x::y::r=>by rw[kz];rw[sH (y::r)];exact append_assoc ..
def CT(l):dj l=l.flatten.length:=by unfold dj;rw[Wf];rfl
def Lk(h:H p=xV (.list (j7 l)))(a:l.flatten.length<=lim):cT .join (.bytes []) [.ref p] H=xV (.bytes l.flatten,H):=by
 haveI hi:bj (.ref p) H=xV (j7 l):=by refine(?_:hL (H p) xV=_);rw[h];rfl
 refine(?_:(bj (.ref p) H).bind _=_);rw[hi];refine(?_:(dy (j7 l)).bind _=_);rw[xM];refine(Np (by rw[NL];rw[Vp];rw[TH];rw[CT];exact a)).trans (by rw[sH];rfl)
def tF{i:Nu}(h:l[i]?=xV x):(j7 l)[i]?=xV (.bytes x):=by rw[OB];rw[h];rfl
def mz:jn e (p::ps)=(if e&&sP p then[32] else[])++p++jn (eP p) ps:=rfl
def Cw(a n:Nu)(b:a<=1000)(h:n<=2000)(H):cp .range [.int a,.int n] H=xV (.mN a n 1):=by show(if _ then _ else _)=_;haveI d:dG (a:N6)=Nk:=NP (aav b);haveI c:dG (n:N6)=Nk:=NP (Nx h (by decide));rw[Np (by rw[d];rw[c];rfl)];rfl
def FX(a n:Nu)(h:a<=n):f5 ((n:N6) - (a:N6)).toNat (a:N6) (n:N6) 1=bL (QY a (n - a)):=by
 haveI e:((n:N6) - (a:N6)).toNat=n - a:=by exact ad2 h
 haveI:=uC 1 (by decide) (n - a) (n - a) a (NA _);rw[Uw,Se h] at this;rw[e];refine V8 this ?_;unfold bL;rw[Ni.range'_eq_map_range];rw[Oo];apply QE;intro i _;simp only[Q5,Uw]
section
variable {H:ae}{n a:Nu}{Q:av}{X:Prop}
def nA(f:b≠[])(h:c≠[])(q:Q (.bool (eP b&&sP c)) H):call (n+2) 38 [.bytes b,.bytes c] H Q X:=by
 refine ag (ρ:=[xV (.bytes b),xV (.bytes c)]) rfl rfl rfl ?_;obtain⟨a,x,rfl⟩ : ∃a x,b=a++[x]:=⟨b.dropLast,b.getLast f,(OM f).symm⟩;obtain⟨y,d,rfl⟩ : ∃y d,c=y::d:=by induction c using Nw with|nil=>exact NK rfl h|cons y c=>exact⟨y,c,rfl⟩
 have i:eP (a++[x])=(aI x||(a++[x])==[47]):=by unfold eP;rw[Uu];rfl
 rw[show sP (y::d)=aI y from rfl,i] at q;refine aa (aU rfl H) (d8 ?_);induction g:aI y with
 |false=>rw[g,Rk] at q;exact af q
 |true=>
  rw[g,US] at q;refine aa rfl (aa (yA a x H) ?_);refine d8 ?_;induction e:aI x with
  |true=>rw[e,Xj] at q;exact af q
  |false=>rw[e,UR] at q;exact af q
def B5{ps:Ni (Ni Nu)}(G:H p=xV (.list (j7 ps)))(F:ps≠[])(t:∀x∈ps,x≠[])(m:ps.length<=1000)(hj:(jn Nr ps).length<=900)(q:Q (.bytes (jn Nr ps)) H):
  call (n+3) 39 [.ref p,.bool Nk] H Q X:=by
 obtain⟨f,a,rfl⟩ : ∃f a,ps=f::a:=by induction ps using Nw with|nil=>exact NK rfl F|cons x y=>exact⟨x,y,rfl⟩
 refine ag (ρ:=[xV (.ref p),xV (.bool Nk),Nm,Nm]) rfl rfl rfl (aa (gj G rfl) ?_);intro z O;haveI w:=cc G O;haveI j:∀l,(H.set z (.list l)) p=xV (.list (j7 (f::a))):=λl=>by rw[aP (OG w)];exact G
 haveI u:=(sL (j (j7 [f])) (by rw[nH];unfold lim;exact Nx m (by decide))).2.2.2.2;rw[nH] at u;refine ak λW hW=>c0 (v:=.mN 1 ((a.length+1:Nu):N6) 1) (λK h=>?_) (NN xV (FX 1 (a.length+1) (QG _))) λB N Z Y=>?_
 ·refine aa u (aa (Cw 1 (a.length+1) (by decide) (by replace m:=(Nn)▸m;exact Nj m (by decide)) _) ?_)
  exact h
 haveI key:∀r k d acc J,(f::a)[k]?=xV d->(f::a).drop (k+1)=r->d≠[]->(∀x∈r,x≠[])->acc.length+2 * r.length<=3000->acc.flatten++jn (eP d) r=jn Nr (f::a) ->
   bc [3] B (bL (QY (k+1) r.length)) [xV (.ref p),xV (.bool Nk),xV (.ref z),J] (H.set z (.list (j7 acc))) N:=by
  intro r;induction r with
  |nil=>intro k d acc J L E T A o g;rw[show jn (eP d) []=[] from rfl,N9] at g;refine Y (hW ⟨rfl,?_⟩);refine aa (Lk (aj H z (.list (j7 acc))) (by rw[g];exact Nj hj (by decide))) ?_;rw[g];exact⟨H,dh O,q⟩
  |cons c r ih=>
   intro k d acc J L E T A o g;replace o:=(Nn)▸o;haveI I:(f::a)[k+ 1]?=xV c:=by refine bB (NU (QP)) ?_;rw[E];rfl
   haveI s:=A c (Ny ..);replace g:=(mz)▸g;refine Z (ak λU D=>?_);haveI fin:∀e,e.length<=acc.length+1->(e.flatten++c)++jn (eP c) r=jn Nr (f::a)->U [xV (.ref p),xV (.bool Nk),xV (.ref z),xV (.int ((k+1:Nu):N6))] (H.set z (.list (j7 e))):=by intro e M he;refine D ⟨rO,?_⟩;refine aa (gj (j _) (tF I)) (aa (G0 (by unfold lim;exact cR [R0 (zp V1 (zm 2 (S1 V2))) (zc 3000),R0 V0 (S1 V1)] (S1 V0) (zc 16000000) rfl o M)) ?_);refine ih (k+1) c (e++[c]) _ I (by refine bB (NU Q0) ?_;rw[E];rfl) s (λx C=>A x (NB _ C)) (by rw[Nv];rw[OA];exact cR [R0 (zp V2 (zm 2 (S1 V1))) (zc 3000),R0 V0 (S1 V2)] (zp (S1 V0) (zm 2 V1)) (zc 3000) rfl o M) ?_;rw[Ni.flatten_append];rw[TJ];exact he
   haveI j1:gQ (.ref p) (.int (((k+1:Nu):N6) - 1)) (H.set z (.list (j7 acc)))=xV (.bytes d):=by rw[show((k+1:Nu):N6) - 1=(k:N6) by exact aax];exact gj (j _) (tF L)
   refine aa j1 (aa (gj (j _) (tF I)) ?_);refine nA T s ?_;induction P:(eP d&&sP c) with
   |true=>rw[P,Np rfl] at g;refine aa rfl ⟨rO,?_⟩;exact aa (G0 (by unfold lim;exact Nx (Nj (NV _ _) o) (by decide))) (fin (acc++[[32]]) (by rw[Nv];exact NA _) (by simpa using g))
   |false=>rw[P,Nl (by decide)] at g;exact fin acc (Ql _) (by rw[NM];exact g)
 exact key a 0 f [f] Nm rfl rfl (t f (Ny ..)) (λx C=>t x (NB _ C)) (by rw[OA];replace m:=(Nn)▸m;exact zL [_] [] [R0 (S1 V0) (zc 1000)] (zp K1 (zm 2 V0)) (zc 3000) [1,2] rfl m) (by rw[mz];rw[TJ];rfl)
end
def uw(v:V):Prop:=∃s,mB v=xV s/\s≠[97,114,114,97,121]/\s≠[100,105,99,116]
noncomputable def bE:Nu->V->Prop
 | 0,v=>uw v
 |d+1,v=>uw v\/(∃ws,v=.lst ws/\ws.length<=60/\∀w∈ws,bE d w)\/(∃ks ws,v=.ec ks ws/\ks.length=ws.length/\ks.length<=60/\∀w∈ws,bE d w)
noncomputable def xm:Nu->Nu
 | 0=>1
 |d+1=>1+64 * xm d
def tI(d):1<=xm d:=by induction d<;>simp[xm]
def xo(D:Nu)(st:Ni (V×Nu)):Nu:=(st.map λx=>xm (D - x.2)).sum
def Bc(D)(a b):xo D (a++b)=xo D a+xo D b:=by unfold xo;rw[N7];rw[VV];rfl
def Bd(D):∀st,st.length<=xo D st:=by
 intro b;induction b with
 |nil=>exact NA _
 |cons x st a=>have d:=a;have c:=tI (D - x.2);refine(?_:st.length+1<=xm (D - x.2)+xo D st);exact cR [R0 V0 V2,R0 K1 V1] (S1 V0) (zp V1 V2) rfl a c
def GJ(D e):∀ws:Ni V,xo D (ws.map λw=>(w,e))=ws.length * xm (D - e):=by
 intro b;induction b with
 |nil=>simp[xo]
 |cons w ws a=>refine(?_:xm (D - e)+xo D (ws.map λw=>(w,e))=_);rw[a];rw[Nn];rw[XA];exact aaz
noncomputable def rW(x:V×Nu):V:=.tup [x.1,.int x.2]
def vR(s)(H):jg .ud (.str s) (.tup [.str [97,114,114,97,121],.str [100,105,99,116],.str [115,116,114,101,97,109]]) H=xV (decide (s=[97,114,114,97,121]\/s=[100,105,99,116]\/s=[115,116,114,101,97,109])):=by
 refine(?_:xV (([97,114,114,97,121]==s)||(([100,105,99,116]==s)||(([115,116,114,101,97,109]==s)||false)))=_)
 congr 1
 rw[Pz];simp only[PV,Ob,UU,N8];exact Us Sr (Us Sr Sr)
def mC(h:mB v=xV s):s≠[115,116,114,101,97,109]:=by
 induction v using Mine.V.casesOn with
 |obj c fs=>induction c<;>cases h<;>decide
 | _=>cases h<;>decide
def qt:V->Ni V
 |.lst ws=>ws
 |.ec ks ws=>(bK ks).map λk=>(b7 k ks ws).getD .none
 | _=>[]
def Ak:∀{ks}{us}{v},b7 k ks us=xV v->v∈us:=by
 intro b;induction b with
 |nil=>intro us v h;induction us<;>contradiction
 |cons x ks a=>
  intro c;induction c using Nw with
  |nil=>intro v h;contradiction
  |cons u us=>
   intro v h;rw[Aj] at h;split at h
   ·injection h with h;subst h;exact Ny
   ·exact NH.mpr (.inr (a h))
section
variable {H:ae}{n a:Nu}{Q:av}{X:Prop}
def wO(h:(∃ws,v=.lst ws/\ws.length<=60)\/(∃ks ws,v=.ec ks ws/\ks.length=ws.length/\ks.length<=60))(q:Q (.lst (qt v)) H):call (n+2) 22 [v] H Q X:=by
 refine ag (ρ:=[xV v,Nm,Nm]) rfl rfl rfl ?_;refine ND (h) (λd=>?_) (λe=>?_)
 ·refine ah d ?_;clear d;intro ws g f;clear h;subst g
  exact bu rfl (aa (Np (Nj f (by decide)):cp .list [.lst ws] H=xV (.lst ws)) (af q))
 ·refine aO e ?_;clear e;intro ks ws c he f;subst c
  refine bu rfl ?_;refine aa (md ks ws H (Nx f (by decide))) ⟨by rw[NR];rw[eZ];exact Nj f (by decide),?_⟩;refine fe (λ_=>Nk) (λx=>match x with|.str k=>(b7 k ks ws).getD .none| _=>.none) _ _ (λx _ k h=>h) (λx j K l=>?_) ?_
  ·refine ah (mem_map.mp j) λk hk c=>?_;clear j;subst c
   refine X1 (kn (dU.mp hk) he) λv i=>?_;simp only[i] at l;exact aa (i:gQ (.ec ks ws) (.str k) H=xV v) l
  ·rw[QF.mpr (λ_ _=>rfl)];rw[Oo]
   exact af q
def DK(d:Nu)(v:V):Prop:=∃s,mB v=xV s/\((s≠[97,114,114,97,121]/\s≠[100,105,99,116]/\s≠[115,116,114,101,97,109])\/((s=[97,114,114,97,121]\/s=[100,105,99,116])/\∃e,d=e+1 /\
  ((∃ws,v=.lst ws/\ws.length<=60)\/(∃ks ws,v=.ec ks ws/\ks.length=ws.length/\ks.length<=60))/\(qt v).length<=60/\∀w∈qt v,bE e w))
def yh(h:bE d v):DK d v:=by
 haveI f:uw v->DK d v:=λm=>Mine.a9 m λs l e2 n=>⟨s,l,Or.inl ⟨e2,n,mC l⟩⟩;induction d using Qn with
 |zero=>exact f h
 |succ e=>
  rcases h with h|⟨ws,rfl,a,b⟩|⟨ks,ws,rfl,a,b,h3⟩
  ·exact f h
  ·exact⟨_,rfl,.inr ⟨.inl rfl,e,rfl,.inl ⟨ws,rfl,a⟩,a,b⟩⟩
  ·refine⟨_,rfl,.inr ⟨.inr rfl,e,rfl,.inr ⟨ks,ws,rfl,a,b⟩,by refine(?_:((bK ks).map _).length<=60);rw[NR];rw[eZ];exact b,λw j=>?_⟩⟩
   refine ah (mem_map.mp j) λk hk c=>?_;clear j;subst c;refine X1 (kn (dU.mp hk) a) λu g=>?_;rw[g];exact h3 u (Ak g)
def ab4(t ab):∃a:Nu,(a=t\/a=ab+1)/\(if(t:N6)<(ab:N6)+1 then(ab:N6)+1 else(t:N6))=(a:N6):=by
 split
 ·exact⟨ab+1,.inr rfl,rfl⟩
 ·exact⟨t,.inl rfl,rfl⟩
def aei(a:l.length<lim):cT .append (.ref p) [.tup [w,.int (e:Nu)]] (H.set p (.list (l.map rW)))=xV (.none,H.set p (.list ((l++[(w,e)]).map rW))):=by rw[(sL (aj H p _) (by rw[NR];exact a)).2.1];rw[ax];rw[N7];rfl
def KX(a:D<=3):xm D<=270000:=by
 haveI:∀D,D<4->xm D<=270000:=by decide
 exact this D (Pd a)
def vD(hD:D<=3)(hv:bE D v)(q:∀t,t<=D->Q (.int t) H):call (n+3) 23 [v] H Q X:=by
 refine ag (ρ:=[xV v,Nm,Nm,Nm,Nm,Nm]) rfl rfl rfl λp hp=>?_;haveI E:=KX hD;refine ak λM hM=>eM λT B N hT hB hN=>⟨xm D+1,?_⟩;haveI key:∀m st t o3 o4 f,(∀x∈st,x.2<=D/\bE (D - x.2) x.1)->xo D st<m->xo D st<=xm D->t<=D ->
   gz T B m [xV v,xV (.int t),xV (.ref p),o3,o4,f] (H.set p (.list (st.map rW))) N:=by
  intro m;induction m with
  |zero=>intro st t o3 o4 f _ h;exact NK h (O1 _)
  |succ m ih=>
  intro st t o3 o4 f l hm J ht;refine hT (aa (A1 (aj ..)) ?_);refine(NG (st=[])).elim (λg=>?_) (λg=>?_)
  ·rw[g]
   exact hN (hM ⟨H,dh hp,q t ht⟩)
  ·obtain⟨a,x,rfl⟩ : ∃a x,st=a++[x]:=⟨st.dropLast,st.getLast g,(OM g).symm⟩
   haveI hx1:=(l x (mem_append_right _ (mem_singleton_self _))).1;haveI Lb:=(l x (mem_append_right _ (mem_singleton_self _))).2;haveI i:∀x∈a,x.2<=D/\bE (D - x.2) x.1:=λy u=>l y (mem_append_left _ u);rw[Bc,show xo D [x]=xm (D - x.2) from TH _] at hm J;haveI hl1:=Bd D a;haveI P:=tI (D - x.2);haveI A:(a++[x]).map rW=a.map rW++[rW x]:=map_append;haveI F:=y4 (aj H p (.list (a.map rW++[rW x]))) (by rw[Nv];rw[NR];rw[OA];unfold lim;exact gb [R0 V1 (zc 270000),R0 (zp V2 V3) V1,R0 V0 V2] (S1 V0) (zc 16000000) rfl E J hl1);rw[ax] at F;rw[A];refine fx (by simp) (hB (ak λW1 G=>⟨by refine(?_:yF _=Nk);rw[aj];rfl,?_⟩));refine aa F ?_;refine(?_:W1 [xV v,xV (.int t),xV (.ref p),xV x.1,xV (.int x.2),f] (H.set p (.list (a.map rW))));obtain⟨s,hs,⟨e1,e2,e3⟩|⟨hk,d,hd,c,W,O⟩⟩:=yh Lb
   ·refine G (bu hs ?_)
    exact fQ ((N1 (vR s H)).trans (N5 λz=>z.elim e1 λz=>z.elim e2 e3)) (ih a t _ _ f i (cR [R0 (S1 (zp V0 V2)) (S1 V1),R0 K1 V2] (S1 V0) V1 rfl hm P) (Nj (NV _ _) J) ht)
   ·refine G (bu hs ?_)
    refine fx ((N1 (vR s H)).trans (NP (hk.elim .inl λz=>.inr (.inl z)))) (ah (ab4 t x.2) ?_);intro Z j hmx;haveI j:Z<=D:=by rcases j with e|e<;>lia
    refine ak λW2 U=>?_;refine(?_:W2 [xV v,xV (.int (if(t:N6)<(x.2:N6)+1 then(x.2:N6)+1 else(t:N6))),xV (.ref p),xV x.1,xV (.int x.2),f] _);rw[hmx];refine U ?_;refine c0 (λK h=>wO c h) rfl λB' N' hB' hN'=>?_;haveI o:∀r acc f,(∀x∈acc,x.2<=D/\bE (D - x.2) x.1)->(∀w∈r,bE d w)->xo D (acc++r.map λw=>(w,x.2+1))<m->xo D (acc++r.map λw=>(w,x.2+1))<=xm D ->
      bc [5] B' r [xV v,xV (.int Z),xV (.ref p),xV x.1,xV (.int x.2),f] (H.set p (.list (acc.map rW))) N':=by
     intro r;induction r with
     |nil=>intro acc f h1 _ L I;rw[SQ,N9] at L I;exact hN' (ih acc Z _ _ f h1 L I j)
     |cons w r Y=>intro acc f h1 h2 L I;haveI k:=Bd D (acc++(w::r).map λw=>(w,x.2+1));replace k:=(Nv)▸k;refine hB' ⟨by refine(?_:yF _=Nk);rw[aj];rfl,?_⟩;refine aa (aei (by unfold lim;exact gb [R0 V1 (zc 270000),R0 V2 V1,R0 (zp V0 V3) V2] (S1 V0) (zc 16000000) rfl E I k)) ?_;refine Y (acc++[(w,x.2+1)]) _ (λy u=>(Of.mp u).elim (h1 y) λe=>?_) (λy u=>h2 y (NB _ u)) (by rw[NM];exact L) (by rw[NM];exact I);rw[Oc.mp e];refine⟨by lia,?_⟩;rw[show D - (w,x.2+1).2=d by show D - (x.2+1)=d;exact aay hd c];exact h2 w (Ny ..)
    haveI C:xo D (a++(qt x.1).map λw=>(w,x.2+1))<xo D a+xm (D - x.2):=by rw[Bc];rw[GJ];rw[hd];rw[show D - (x.2+1)=d by exact aay hd c];haveI:=Nu.mul_le_mul_right (xm d) W;haveI:=tI d;refine(?_:_<_+(1+64 * xm d));exact zL [_,_,_] [] [R0 V1 (zm 60 V2),R0 K1 V2] (S1 (zp V0 V1)) (zp V0 (zp K1 (zm 64 V2))) [1,1,4] rfl (by assumption) this
    exact o (qt x.1) a f i O (NY C (Qa hm)) (Pf (NY C J))
 exact key _ [(v,0)] 0 Nm Nm Nm (λx hx=>by rw[Oc.mp hx];exact⟨OL _,hv⟩) (Oe _) (NA _) (OL _)
end
def vm{T}(t)(f):∀xs Q,
  (∀x∈xs,∀k,k (t x) H->T x H k)->(∀x∈xs,t x=Nk->∀k,k (f x) H->B x H k)->Q ((xs.filter t).map f) H->fc T B xs H Q:=by
 intro c;induction c with
 |nil=>intro Q _ _ q;exact q
 |cons x xs a=>
  intro Q d e q;refine d x (Ny) _ ?_;induction h:t x with
  |true=>rw[PE h,N3] at q;exact fx rfl (e x (Ny) h _ (a _ (λy b=>d y (by simp[b])) (λy b=>e y (by simp[b])) q))
  |false=>rw[PN (by simp[h])] at q;exact fQ rfl (a _ (λy b=>d y (by simp[b])) (λy b=>e y (by simp[b])) q)
def Cf(n):aA n≠[]:=λh=>by have:=dY n;rw[h] at this;simp at this
def lU(i):au i≠[]:=by unfold au;split<;>simp[Cf]
def Fq{a:Atom}:∀x∈a.parts,x≠[]:=by
 intro x c;induction a with
 |null=>rw[mem_singleton.mp c];(decide)
 |truth b=>rw[mem_singleton.mp c];clear c;induction b<;>(decide)
 |int i=>rw[mem_singleton.mp c];exact lU i
 |real t p=>
  rw[mem_singleton.mp c];unfold cB;split
  ·exact append_ne_nil_of_right_ne_nil _ (Ri _ _)
  ·simp
 |name s=>rw[mem_singleton.mp c];exact Ri _ _
 |str b=>
  rw[mem_singleton.mp c];unfold fv;split
  ·exact Ri _ _
  ·exact Ri _ _
 |ref n g=>
  simp only[Atom.parts,NH,SI,Wo] at c;rcases c with e|e|e<;>rw[e]
  ·exact lU n
  ·exact lU g
  ·(decide)
def dO(f:Fo):Ni Nu:=jn Nr (cq f)
def Mh:∀f:Fo,∀x∈cq f,x≠[]:=by
 intro e;induction e with
 |nil=>exact λx d=>by contradiction
 |atom a r b=>
  exact λx d=>by
   refine ND (mem_append.mp d) (λh=>?_) (λh=>?_)
   ·exact Fq x h
   ·exact b x h
 |arr l r b c=>
  exact λx d=>by
   refine ND (NH.mp d) (λh=>?_) (λh=>?_)
   ·rw[h];(decide)
   refine ND (mem_append.mp h) (λh=>?_) (λh=>?_)
   ·exact b x h
   refine ND (NH.mp h) (λh=>?_) (λh=>?_)
   ·rw[h];(decide)
   ·exact c x h
 |dict l r b c=>
  exact λx d=>by
   refine ND (NH.mp d) (λh=>?_) (λh=>?_)
   ·rw[h];(decide)
   refine ND (mem_append.mp h) (λh=>?_) (λh=>?_)
   ·exact b x h
   refine ND (NH.mp h) (λh=>?_) (λh=>?_)
   ·rw[h];(decide)
   ·exact c x h
def Tl.kind(h:Tl f [v]):∃s,mB v=xV s/\s≠[115,116,114,101,97,109]/\cq f≠[]:=by
 have key:∀s,mB v=xV s->cq f≠[]->∃s,mB v=xV s/\s≠[115,116,114,101,97,109]/\cq f≠[]:=λs b c=>⟨s,b,mC b,c⟩;cases f with
 |nil=>contradiction
 |atom a r=>
  refine aO h ?_;clear h;intro v' us e b c;injection e with e;subst e
  refine key _ (i5 b) ?_;clear key b;induction a<;>simp[jU,fY,g6,g7,Atom.parts]
 |arr l r=>refine bo h ?_;clear h;intro ws us e _;injection e with e;subst e;exact key _ rfl (by intro h;injection h)
 |dict l r=>refine gC h ?_;clear h;intro ks ws us e _;injection e with e;subst e;exact key _ rfl (by intro h;injection h)
section
variable {H:ae}{n a:Nu}{Q:av}{X:Prop}
def aaW{x y:Ni Nu}{A B:Prop}(h:x≠y)(q:A):if(!(x==y))=Nk then A else B:=by rw[Sg.mpr h];exact q
def GI{f}{v}(h:Tl f [v])(ok:AD f)(hd:dp f<=3)(i:bE 3 v)(d:(cq f).length<=900)(k:(dO f).length<=900)(q:Q (.bytes (dO f)) H):call (n+13) 40 [v,.bool Nk] H Q X:=by refine ag (ρ:=[xV v,xV (.bool Nk),Nm,Nm]) rfl rfl rfl ?_;refine ak λo g=>vD (NA _) i λt a=>bp (ll [R0 V0 (zc 3)] (R4 (S1 (zc 40)) (zu V0)) rfl a) (g ?_);refine ak λx j=>?_;intro p l;refine j (a9 h.kind ?_);intro s hk m c;refine ak λr u=>bu hk ?_;refine aaW m ?_;refine ak λw e=>?_;refine LJ 3 n f v p [] _ _ _ h hd ok (aj H p _) (by simpa using by exact KA d) (e ?_);rw[ax];exact B5 (aj H p _) c (Mh f) (Nj d (by decide)) k ⟨H,dh l,q⟩
def qh(h:∀c∈b,c<256)(g:b.length<=1000)(q:Q (.str b) H):call (n+1) 43 [.bytes b] H Q X:=by
 refine ag (ρ:=[xV (.bytes b),Nm]) rfl rfl rfl ⟨rfl,by rw[NR];exact Nj g (by decide),?_⟩;refine fe (λ_=>Nk) (λx=>match x with|.int c=>.str [c.toNat]| _=>.none) _ _ (λx _ k h=>h) (λx f K i=>?_) ?_
 ·refine ah (mem_map.mp f) λc a d=>?_;clear f;subst d
  exact aa (xS (h c a) _) i
 ·haveI e:((bL b).filter λ_=>Nk).map (λx=>match x with|.int c=>V.str [c.toNat]| _=>.none)=uT b:=by rw[QF.mpr (λ_ _=>rfl)];rw[Oo];rfl
  exact e▸(aa (lW rfl (Nj g (by decide))) (af q))
def Iz:∀c,48<=c->c<=57->([48,49,50,51,52,53,54,55,56,57]:Ni Nu).contains c=Nk:=by
 haveI key:∀c,c<58->48<=c->([48,49,50,51,52,53,54,55,56,57]:Ni Nu).contains c=Nk:=by decide
 exact λc b a=>key c (Pd a) b
def HU(h:∀c∈s,48<=c/\c<=57)(d:s≠[])(b:s.length<=9):cp .int [.str s] H=xV (.int (cF s)):=by refine Np ⟨d,Nj b (by decide),all_eq_true.mpr λc a=>?_⟩;rw[NP (h c a).1];rw[NP (h c a).2];rfl
def CO(h:∀c∈s,48<=c/\c<=57):cT .split (.str s) [.str [32]] H=xV (.lst [.str s],H):=
 Np ⟨rfl,Pu.mpr λq=>NK (h 32 (contains_iff_mem.mp q)).1 (by decide)⟩
def xl(h:∀c∈s,48<=c/\c<=57)(g:s≠[])(e:s.length<=9)(q:Q (.int (cF s)) H):call (n+1) 44 [.str s] H Q X:=by
 refine ag (ρ:=[xV (.str s),Nm]) rfl rfl rfl ?_;refine ak λW j=>?_;refine cD (OT.mpr (Wx.mpr g)) (zP (Pk.mpr e) ?_);refine⟨by rw[NR];exact Nj e (by decide),?_⟩;refine vm (λ_=>Nr) (λx=>x) _ _ (λx f K i=>?_) (λx _ h=>by exact NK h (by decide)) ?_
 ·refine ah (mem_map.mp f) λc a d=>?_;clear f;subst d
  exact(NN (λb=>K (!b) H) (Iz c (h c a).1 (h c a).2)).mpr i
 ·rw[QU.mpr (λ_ _=>by(decide))]
  exact j (aa (HU h g e) (af q))
def wH{s}(h:∀c∈s,48<=c/\c<=57)(e:s≠[])(f:s.length<=9)(q:Q (.lst [.int (cF s)]) H):call (n+2) 45 [.str s,.int 1] H Q X:=by
 refine ag (ρ:=[xV (.str s),xV (.int 1),Nm,Nm]) rfl rfl rfl ?_;refine ak λW g=>⟨rfl,aa (CO h) ⟨SD rfl,?_⟩⟩;refine vm (λ_=>Nk) (λx=>.int (cF s)) _ _ (λx a K d=>?_) (λx a _ K d=>?_) (g (af q))
 ·rw[mem_singleton.mp a]
  exact(NN (λb=>K (!b) H) (OE e)).mpr d
 ·rw[mem_singleton.mp a]
  exact xl h e f d
def wG(q:Q (.lst []) H):call (n+2) 45 [.str [],.int 0] H Q X:=
 ag (ρ:=[xV (.str []),xV (.int 0),Nm,Nm]) rfl rfl rfl (ak λ_ a=>⟨rfl,by decide,a (af q)⟩)
end
noncomputable def tape(cells:Ni N6)(s:Nu):dQ:=.list [.lst (cells.map V.int),.int s]
def EH:Atom->Prop
 |.null=>Sl
 |.truth _=>Sl
 |.int i=>i.natAbs<=1000
 |.real t p=>t.natAbs<=2000/\p<=4/\(p≠0->t % 10≠0)
 |.name s=>s.length<=2/\∀c∈s,c∈[35,50,51,65,47,32,255,40]
 |.str b=>b.length<=3/\∀c∈b,c∈[40,41,92,13,10,114,49,0]
 |.ref n g=>0<=n/\n<30/\0<=g/\g<3
def uS(v:V):Prop:=∃a,Ta a v/\EH a
def yT:∀p t,(dq t p).2≠0->(dq t p).1 % 10≠0:=by
 intro b;induction b with
 |zero=>intro t h;exact NK rfl h
 |succ p a=>
  intro t h;rw[nX] at h ⊢;by_cases e:t % 10=0
  ·rw[Np e] at h ⊢;exact a _ h
  ·rw[Nl e] at h ⊢;exact e
def uD:∀k lo hi,(f5 k lo hi 1).length<=k:=by
 intro b;induction b with
 |zero=>intro _ _;exact NA _
 |succ k a=>
  intro lo hi;rw[i8];split
  ·rw[Nn];haveI:=a (lo+1) hi;exact L90 this
  ·exact OL _
section
variable {H:ae}{n a:Nu}{Q:av}{X:Prop}{cells:Ni N6}{s:Nu}
def HV(cells:Ni N6)(k)(h:k<(cells.map V.int).length):∃c:N6,(cells.map V.int)[k]?=xV (.int c):=by rw[NR] at h;exact⟨cells[k],by rw[OB];rw[OP h];rfl⟩
def Iv{k:Nu}(s:Nu)(h:0<k):m8 .mod (.int s) (.int k)=xV (.int ((s % k:Nu):N6)):=by show(if _ then _ else _)=_;rw[Nl (Sp (OT.mpr h))];rw[Rv _ (P9 _)];rfl
def Hv{k:Nu}(s:Nu)(h:0<k)(hk:k<1000000000):m8 .fdiv (.int s) (.int k)=xV (.int ((s / k:Nu):N6)):=by show(if _ then _ else _)=_;rw[Nl (λq=>q.elim (Sp (OT.mpr h)) (Nu.not_le.mpr hk):¬ ((k:N6)=0\/1000000000<=(k:N6).natAbs))];rw[Rw _ (P9 _)];rfl
def Iw{k:Nu}(h:k<=1000)(y):m8 .mul (.int k) (.int y)=xV (.int (k * y)):=by exact Np (OK.mpr (.inl (NP (Nx h (by decide)))))
def zK{k:Nu}(h:vs[k]?=xV v):uZ vs (k:N6)=xV v:=by haveI a:=(Ou.mp h).1;unfold uZ;rw[Np (show ik _ _=Nk from NP ⟨O5 (N6.neg_nonpos_of_nonneg (P9 _)) (P9 _),OT.mpr a⟩)];exact h
def b5{m:N6}(hm:0<m)(d:cells≠[])(e:cells.length<=40)(j:s<=1000)(q:∀i:N6,0<=i->i<m->Q (.int i) (H.set a (tape cells (s+1)))):call (n+1) 69 [.ref a,.int m] (H.set a (tape cells s)) Q X:=by
 haveI f:0<(cells.map V.int).length:=by rw[NR];exact Wx.mpr d
 haveI h:A8 (.ref a) (H.set a (tape cells s))=xV [.lst (cells.map V.int),.int s]:=by refine(?_:(match (H.set a (tape cells s)) a with|some (.list vs)=>xV vs| _=>Nm)=_);rw[aj];rfl
 haveI c:cX (.ref a) (.int 1) (.int ((s:N6)+1)) (H.set a (tape cells s))=xV (H.set a (tape cells (s+1))):=by refine(?_:CG ((H.set a (tape cells s)) a) _ _ _ _=_);rw[aj];refine bB (NU (ax H a (tape cells s) (tape cells (s+1)))) ?_;rfl
 refine X1 (HV cells _ (RM s f)) λv k=>?_;refine ag (ρ:=[xV (.ref a),xV (.int m),Nm,Nm]) rfl rfl rfl (ak λW g=>?_);refine aa h ?_;refine g (ak λW g=>?_);refine aa c (g ?_);refine aa (Iv s f) (aa (zK k) ?_);refine aa (Hv s f (by rw[NR];exact Nx e (by decide))) (aa (Iw (Nj (div_le_self _ _) j) _) ?_);exact aa (Nl (Sp hm)) (af (q _ (fmod_nonneg_of_pos _ hm) (fmod_lt_of_pos _ hm)))
def jE{T}(P:V->Prop)(k M)(n:∀x H (K:NF->ae->Prop),K Nk H->T x H K):∀xs s Q,
  (∀x∈xs,∀s q,s<=M->(∀v s',P v->s'<=s+k->q v (H.set a (tape cells s')))->B x (H.set a (tape cells s)) q)->s+k * xs.length<=M ->
  (∀vs s',vs.length=xs.length->(∀v∈vs,P v)->s'<=s+k * xs.length->Q vs (H.set a (tape cells s')))->fc T B xs (H.set a (tape cells s)) Q:=by
 intro c;induction c with
 |nil=>intro s Q _ _ q;exact q [] s rfl (λ_ h=>by cases h) (NV _ _)
 |cons x xs b=>
  intro s Q g d q;rw[Nn,Wm] at d;refine n _ _ _ (fx rfl ?_);refine g x (Ny) s _ (Nj (NV _ _) d) λv s' i f=>?_;refine b s' _ (λx j=>g x (by simp[j])) (jj [_,_,_,_,_] [R0 (zp V3 (zp V1 V4)) V2,R0 V0 (zp V3 V4)] (zp V0 V1) V2 rfl d f) λvs s2 p m l=>?_;refine q (v::vs) s2 (by rw[Nn];rw[Nn];rw[p];rfl) (λw o=>?_) (by rw[Nn];rw[Wm];exact jj [_,_,_,_,_] [R0 V4 (zp V1 V3),R0 V0 (zp V4 V2)] V0 (zp V1 (zp V2 V3)) rfl f l);rcases NH.mp o with e|e
  ·rw[e];exact i
  ·exact m w e
end
def KV{L:Ni Nu}:∀{vs},(∀v∈vs,∃c∈L,v=.str [c])->∃cs,vs=uT cs/\∀c∈cs,c∈L:=by
 intro b;induction b with
 |nil=>intro _;exact⟨[],rfl,λ_ h=>by cases h⟩
 |cons v vs a=>
  intro h;refine ah (h v (Ny)) λc f e=>?_;refine ah (a λw d=>h w (by simp[d])) λcs i j=>?_;refine⟨c::cs,by rw[e];rw[i];rfl,λx g=>?_⟩;refine ND (NH.mp g) (λe=>?_) (λe=>?_)
  ·rw[e];exact f
  ·exact j x e
def KU{L:Ni Nu}:∀{vs},(∀v∈vs,∃c∈L,v=.int (c:Nu))->∃cs,vs=bL cs/\∀c∈cs,c∈L:=by
 intro b;induction b with
 |nil=>intro _;exact⟨[],rfl,λ_ h=>by cases h⟩
 |cons v vs a=>
  intro h;refine ah (h v (Ny)) λc f e=>?_;refine ah (a λw d=>h w (by simp[d])) λcs i j=>?_;refine⟨c::cs,by rw[e];rw[i];rfl,λx g=>?_⟩;refine ND (NH.mp g) (λe=>?_) (λe=>?_)
  ·rw[e];exact f
  ·exact j x e
def yV:∀{b},(∀c∈b,c<256)->dD (bL b)=xV b:=by
 intro d;induction d with
 |nil=>intro _;exact rfl
 |cons c b a=>intro h;haveI e:=h c (Ny);show(if _ then(dD (bL b)).map _ else _)=_;rw[Np ⟨P9 _,OT.mpr e⟩];rw[a λx f=>h x (NB _ f)];rfl
def se(h:∀c∈b,c<256)(a:b.length<=1000)(H):cp .bytes [.lst (bL b)] H=xV (.bytes b):=by show(if _ then _ else _)=_;rw[Np (by unfold bL;rw[NR];unfold lim;exact GQ a)];rw[yV h];rfl
def G8(b):(bL b).length=b.length:=NR _
noncomputable def nmS:Ni Nu:=[35,50,51,65,47,32,255,40]
noncomputable def stS:Ni Nu:=[40,41,92,13,10,114,49,0]
def sD(L:Ni Nu)(hL:L.length=8)(i)(b:0<=i)(d:i<8)(H):∃c∈L,gQ (.tup (L.map λ(c:Nu)=>V.int c)) (.int i) H=xV (.int (c:Nu)):=by
 haveI a:i.toNat<L.length:=by exact cj [R3 V1 (zc 8),R0 V0 (zc 7)] (S1 V0) V1 rfl hL (OU.mpr (f9 [R4 (S1 V0) (zc 8)] V0 (zu (zc 7)) rfl d))
 refine⟨L[i.toNat],getElem_mem _,?_⟩;refine(?_:uZ _ _=_);unfold uZ ik ft;rw[NR];rw[Np (by simp only[N8];exact⟨zI [_] [_] [R3 V0 (zc 8),R4 K0 V0] (zn (zu V0)) V0 [1,1,1] rfl hL b,zI [_] [_] [R3 V0 (zc 8),R4 (S1 V0) (zc 8)] (S1 V0) (zu V0) [1,1,1] rfl hL d⟩)];rw[Np b];rw[OB];rw[OP a];rfl
def za(a:k.natAbs<100)(H):cp .range [.int k] H=xV (.mN 0 k 1):=Np (NP (To a (by decide)))
def acD:∀i:N6,0<=i->i<7->i=0\/i=1\/i=2\/i=3\/i=4\/i=5\/i=6:=by exact ad6
section
variable {H:ae}{n a:Nu}{Q:av}{X:Prop}{cells:Ni N6}{s:Nu}
def kC(C:cells≠[])(E:cells.length<=40)(F:s<=800)(q:∀v s',uS v->s'<=s+6->Q v (H.set a (tape cells s'))):call (n+2) 70 [.ref a] (H.set a (tape cells s)) Q X:=by
 have go:∀{v:V}{s':Nu}(M:Atom),Ta M v->EH M->s'<=s+6->less (Q v) (H.set a (tape cells s')):=λM O P T=>af (q _ _ ⟨M,O,P⟩ T);have D:∀{j}{m}{s'}{Q},0<m->s'<=s+9->(∀i,0<=i->i<m->Q (.int i) (H.set a (tape cells (s'+1))))->call (j+1) 69 [.ref a,.int m] (H.set a (tape cells s')) Q X:=λO P T=>b5 O C E (Nj P (Nj (QV F 9) (by decide))) T;refine ag (ρ:=[xV (.ref a),Nm,Nm,Nm]) rfl rfl rfl (ak λW U=>?_);refine D (by decide) (NV _ _) λi w y=>?_;refine U ?_;clear U W;rcases acD i w y with rfl|rfl|rfl|rfl|rfl|rfl|rfl
 ·exact go .null rfl trivial (ad3)
 ·refine D (by decide) (Bg) λi w y=>?_
  exact go (.truth _) rfl trivial (aaA)
 ·refine D (by decide) (Bg) λi w y=>?_
  exact go (.int _) rfl (by refine(?_:(i - 1000).natAbs<=1000);exact ad4 w y) (aaA)
 ·refine D (by decide) (Bg) λi w y=>?_
  refine D (by decide) (aaB) λp o B b A=>?_;refine X1 (Sh o) λp f=>?_;clear o;subst f;refine hP (aj _ b _) (dT A rfl rfl ?_);refine A4 (qd p (i - 2000)) λn1 n2 n3 n4=>?_;exact go (.real _ _) rfl ⟨by exact ad5 w y n2,by exact cj [R4 (S1 (zu V1)) (zc 5),R0 V0 V1] V0 (zc 4) rfl B n1,yT _ _⟩ (aaC)
 ·refine⟨rfl,?_⟩
  refine D (by decide) (Bg) λk z d=>?_;have e:=uD (k - 0).toNat 0 k;refine aa (za (cZ [R0 V0 (zc 2)] (S1 V0) (zc 100) rfl (iP ⟨f9 [R4 K0 V0] (zn V0) (zu (zc 2)) rfl z,f9 [R4 (S1 V0) (zc 3)] V0 (zu (zc 2)) rfl d⟩)) _) ?_;refine⟨Nj e (by unfold lim;exact cZ [R0 V0 (zc 2)] V0 (zc 16000000) rfl (OU.mpr (f9 [R4 (S1 V0) (zc 3)] (zs V0 K0) (zu (zc 2)) rfl d))),?_⟩;refine jE (λv=>∃c∈nmS,v=.str [c]) 1 900 (λx H K h=>h) _ _ _ (λx Z s2 q F N=>?_) (cR [R0 V0 (zc 800),R0 V1 V2,R0 V2 (zc 2)] (zp (S1 (S1 V0)) (zm 1 V1)) (zc 900) rfl F e (OU.mpr (f9 [R4 (S1 V0) (zc 3)] (zs V0 K0) (zu (zc 2)) rfl d))) λvs s' G J L=>?_
  ·refine b5 (by decide) C E (KA F) λj r t=>?_
   refine ah (sD nmS rfl j r t (H.set a (tape cells (s2+1)))) λc g I=>?_;refine aa I (aa (xS ((by decide:∀c∈nmS,c<256) c g) _) ?_);exact N _ _ ⟨c,g,rfl⟩ (NA _)
  ·refine ah (KV J) λcs f u=>?_;clear J;subst f
   rw[tG] at G;refine aa (lW rfl (by unfold lim;exact cR [R0 V1 V2,R2 V0 V1,R0 V2 (zc 2)] V0 (zc 16000000) rfl e G (OU.mpr (f9 [R4 (S1 V0) (zc 3)] (zs V0 K0) (zu (zc 2)) rfl d)))) λb A=>?_;refine gX (aj _ b _) (dT A rfl rfl ?_);exact go (.name cs) rfl ⟨by exact cR [R0 V1 V2,R2 V0 V1,R0 V2 (zc 2)] V0 (zc 2) rfl e G (OU.mpr (f9 [R4 (S1 V0) (zc 3)] (zs V0 K0) (zu (zc 2)) rfl d)),u⟩ (by exact Nj L (Nj (OQ (Nu.mul_le_mul_left 1 (Nj e (OU.mpr (by rw[Xk];exact Vf d)))) _) (Ql _)))
 ·refine D (by decide) (Bg) λk z d=>?_
  haveI e:=uD (k - 0).toNat 0 k;refine aa (za (cZ [R0 V0 (zc 3)] (S1 V0) (zc 100) rfl (iP ⟨f9 [R4 K0 V0] (zn V0) (zu (zc 3)) rfl z,f9 [R4 (S1 V0) (zc 4)] V0 (zu (zc 3)) rfl d⟩)) _) ?_;refine⟨Nj e (by unfold lim;exact cZ [R0 V0 (zc 3)] V0 (zc 16000000) rfl (OU.mpr (f9 [R4 (S1 V0) (zc 4)] (zs V0 K0) (zu (zc 3)) rfl d))),?_⟩;refine jE (λv=>∃c∈stS,v=.int (c:Nu)) 1 900 (λx H K h=>h) _ _ _ (λx Z s2 q F N=>?_) (cR [R0 V0 (zc 800),R0 V1 V2,R0 V2 (zc 3)] (zp (S1 (S1 V0)) (zm 1 V1)) (zc 900) rfl F e (OU.mpr (f9 [R4 (S1 V0) (zc 4)] (zs V0 K0) (zu (zc 3)) rfl d))) λvs s' G J L=>?_
  ·refine b5 (by decide) C E (KA F) λj r t=>?_
   refine ah (sD stS rfl j r t (H.set a (tape cells (s2+1)))) λc g I=>?_;exact aa I (N _ _ ⟨c,g,rfl⟩ (NA _))
  ·refine ah (KU J) λcs f u=>?_;clear J;subst f
   rw[G8] at G;refine aa (se (λc Y=>(by decide:∀c∈stS,c<256) c (u c Y)) (cR [R0 V1 V2,R2 V0 V1,R0 V2 (zc 3)] V0 (zc 1000) rfl e G (OU.mpr (f9 [R4 (S1 V0) (zc 4)] (zs V0 K0) (zu (zc 3)) rfl d))) _) ?_;refine D (by decide) (gb [R0 V2 V3,R0 V0 (zp (S1 (S1 V1)) (zm 1 V2)),R0 V3 (zc 3)] V0 (zp V1 (zc 9)) rfl e L (OU.mpr (f9 [R4 (S1 V0) (zc 4)] (zs V0 K0) (zu (zc 3)) rfl d))) λj r t b A=>?_;refine iL (aj _ b _) (dT A rfl rfl ?_);exact go (.str cs) ⟨_,rfl⟩ ⟨by exact cR [R0 V1 V2,R2 V0 V1,R0 V2 (zc 3)] V0 (zc 3) rfl e G (OU.mpr (f9 [R4 (S1 V0) (zc 4)] (zs V0 K0) (zu (zc 3)) rfl d)),u⟩ (gb [R0 V2 V3,R0 V0 (zp (S1 (S1 V1)) (zm 1 V2)),R0 V3 (zc 3)] (S1 V0) (zp V1 (zc 6)) rfl e L (OU.mpr (f9 [R4 (S1 V0) (zc 4)] (zs V0 K0) (zu (zc 3)) rfl d)))
 ·refine D (by decide) (Bg) λi w y=>?_
  refine D (by decide) (aaB) λp o B b A=>?_;refine dF (aj _ b _) (dT A rfl rfl ?_);exact go (.ref _ _) rfl ⟨w,y,o,B⟩ (aaC)
end
def Ib:Atom->Prop
 |.name s=>s.length<=4/\∀c∈s,0<c/\c<256
 |a=>EH a
noncomputable def jz:Fo->Prop
 |.nil=>Sl
 |.atom a r=>Ib a/\jz r
 |.arr l r=>jz l/\jz r
 |.dict l r=>jz l/\jz r
noncomputable def eo(l:Ni (Ni Nu)):Nu:=(l.map λp=>p.length+1).sum
def LF(f:Fo):Prop:=jz f/\dp f<=3/\eo (cq f)<=110
def GU(v:V):Prop:=(∃f,Tl f [v]/\LF f)/\bE 3 v
def er(a b):eo (a++b)=eo a+eo b:=by unfold eo;rw[N7];rw[VV];rfl
def d0(a)(b):eo (a::b)=a.length+1+eo b:=rfl
def uy:∀f g,cq (f.app g)=cq f++cq g:=by
 intro d;induction d with
 |nil=>intro g;exact rfl
 |atom a r b=>intro g;rw[oj];rw[fY];rw[fY];rw[b g];rw[NM];rfl
 |arr l r b c=>intro g;rw[om];rw[g6];rw[g6];rw[c g];simp
 |dict l r b c=>intro g;rw[oo];rw[g7];rw[g7];rw[c g];simp
def ou:∀f g,jz f->jz g->jz (f.app g):=by
 intro e;induction e with
 |nil=>intro g _ h;exact h
 |atom a r b=>intro g h d;exact⟨h.1,b g h.2 d⟩
 |arr l r b c=>intro g h d;exact⟨h.1,c g h.2 d⟩
 |dict l r b c=>intro g h d;exact⟨h.1,c g h.2 d⟩
def Ic(h:EH a):Ib a:=by
 induction a with
 |name s=>
  haveI d:∀c∈[35,50,51,65,47,32,255,40],0<c/\c<256:=by decide
  exact⟨by haveI:=h.1;exact Nj this (by decide),λc b=>d c (h.2 c b)⟩
 | _=>exact h
def Cc:∀s,(eh s).length<=1+3 * s.length:=by
 intro s;rw[Nn];haveI:∀s:Ni Nu,(s.flatMap bg).length<=3 * s.length:=by
  intro s;induction s with
  |nil=>exact NA _
  |cons c s a=>rw[OC];rw[Nv];rw[Nn];haveI:=mH c;exact cR [R0 V1 (zm 3 V2),R0 V0 (zc 3)] (zp V0 V1) (zm 3 (S1 V2)) rfl a this
 haveI:=this s;exact cj [R0 V0 (zm 3 V1)] (S1 V0) (zp K1 (zm 3 V1)) rfl this
def mx(hk:0<k)(a:0<=i)(h:i.natAbs<10 ^ k):(au i).length<=k:=by unfold au;rw[Nl (aao a)];exact dX h hk
def Ct(h:EH a):eo a.parts<=11:=by
 induction a with
 |null=>exact(by decide:eo [[110,117,108,108]]<=11)
 |truth b=>clear h;induction b<;>decide
 |int i=>haveI:=gR (k:=4) (by decide) (by haveI:i.natAbs<=1000:=h;exact Nx this (by decide));refine(?_:(au i).length+1+0<=11);exact Nx this (by decide)
 |real t p=>
  haveI h:=h;haveI:=qC (cZ [R0 V0 (zc 2000)] (S1 V0) (zc (10 ^ 4)) rfl h.1) (by decide) h.2.1 (λm e=>h.2.2 m (by rw[e];rfl));haveI c:(gu t).length<=1:=by unfold gu;split<;>decide
  refine(?_:(cB t p).length+1+0<=11);exact cj [R0 V0 (S1 (zp V1 (zc 4))),R0 V1 K1] (zp (S1 V0) K0) (zc 11) rfl this c
 |name s=>have:=Cc s;haveI:=h.1;refine(?_:(eh s).length+1+0<=11);exact zL [_,_] [] [R0 V0 (zp K1 (zm 3 V1)),R0 V1 (zc 2)] (zp (S1 V0) K0) (zc 11) [1,1,3] rfl (by assumption) this
 |str b=>haveI c:=(oa b).2;rw[vP] at c;haveI:=h.1;refine(?_:(fv b).length+1+0<=11);exact zL [_,_] [] [R0 V0 (zp (zm 2 V1) (zc 2)),R0 V1 (zc 3)] (zp (S1 V0) K0) (zc 11) [1,1,2] rfl c this
 |ref n g=>refine A4 h ?_;clear h;intro c j d f;haveI l:=mx (k:=2) (by decide) c (cZ [R0 V0 (zc 29)] (S1 V0) (zc (10 ^ 2)) rfl (iP ⟨f9 [R4 K0 V0] (zn V0) (zu (zc 29)) rfl c,f9 [R4 (S1 V0) (zc 30)] V0 (zu (zc 29)) rfl j⟩));haveI o:=mx (k:=1) (by decide) d (by exact cZ [R0 V0 (zc 2)] (S1 V0) (zc (10 ^ 1)) rfl (iP ⟨f9 [R4 K0 V0] (zn V0) (zu (zc 2)) rfl d,f9 [R4 (S1 V0) (zc 3)] V0 (zu (zc 2)) rfl f⟩));refine(?_:(au n).length+1+((au g).length+1+(1+1+0))<=11);exact cj [R0 V0 (zc 2),R0 V1 K1] (zp (S1 V0) (zp (S1 V1) (zp (S1 K1) K0))) (zc 11) rfl l o
def qu(h:uS v):∃f,Tl f [v]/\jz f/\dp f=0/\eo (cq f)<=11:=by refine ah h ?_;clear h;intro a c b;refine⟨.atom a .nil,⟨v,[],rfl,c,rfl⟩,⟨Ic b,trivial⟩,rfl,?_⟩;refine(?_:eo (a.parts++[])<=11);rw[N9];exact Ct b
def Cq:∀{ws},(∀w∈ws,uS w)->∃f,Tl f ws/\jz f/\dp f=0/\eo (cq f)<=11 * ws.length:=by
 intro b;induction b with
 |nil=>intro _;exact⟨.nil,rfl,trivial,rfl,OL _⟩
 |cons w ws a=>intro h;refine iu (qu (h w (Ny))) λf n e c i=>?_;refine iu (a λx m=>h x (by simp[m])) λg d l k j=>?_;exact⟨f.app g,lr n d,ou _ _ e l,by rw[lH];rw[c];rw[k];rfl,by rw[uy];rw[er];rw[Nn];exact cR [R0 V0 (zc 11),R0 V1 (zm 11 V2)] (zp V0 V1) (zm 11 (S1 V2)) rfl i j⟩
def nr(k:Ni Nu):Prop:=k∈[[65],[],[35,50],[66,32,67],[75],[82,111,111,116],[73,110,102,111]]
def Au(h:nr k):Ib (.name k)/\eo (cq (.atom (.name k) .nil))<=7:=by
 haveI:∀k∈[[65],[],[35,50],[66,32,67],[75],[82,111,111,116],[73,110,102,111]],(k.length<=4/\∀c∈k,0<c/\c<256)/\(eh k).length+1<=7:=by decide
 exact⟨(this k h).1,(this k h).2⟩
def HK:∀{K},(∀k∈K,nr k/\∀v,b7 k ks us=xV v->uS v)->∃f,Tl f (aX ks us K)/\jz f/\dp f=0/\eo (cq f)<=18 * K.length:=by
 intro b;induction b with
 |nil=>intro _;exact⟨.nil,rfl,trivial,rfl,OL _⟩
 |cons k K a=>
  intro h;refine iu (a λx q=>h x (by simp[q])) λg c j i d=>?_;refine A2 (h k (Ny)) λk1 k2=>?_;haveI skip:aX ks us (k::K)=qo k (b7 k ks us)++aX ks us K:=by unfold aX;rw[OC];rfl
  rw[skip];induction p:b7 k ks us with
  |none=>exact⟨g,c,j,i,by rw[Nn];exact aaD d⟩
  |some v=>
   refine iu (qu (k2 v p)) λf r o m l=>?_;refine(?_:∃f,Tl f (el k v++aX ks us K)/\_);unfold el;split
   ·refine A2 (Au k1) λl1 n=>?_
    refine⟨.atom (.name k) (f.app g),⟨cV k,_,rfl,rfl,lr r c⟩,⟨l1,ou _ _ o j⟩,?_,?_⟩
    ·refine(?_:dp (f.app g)=0)
     rw[lH];rw[m];rw[i];rfl
    ·haveI e:cq (.atom (.name k) (f.app g))=cq (.atom (.name k) .nil)++(cq f++cq g):=by rw[fY];rw[jU];rw[uy];(rfl)
     rw[e];rw[er];rw[er];rw[Nn];exact gb [R0 V2 (zm 18 V3),R0 V1 (zc 11),R0 V0 (zc 7)] (zp V0 (zp V1 V2)) (zm 18 (S1 V3)) rfl d l n
   ·exact⟨g,c,j,i,by rw[Nn];exact aaD d⟩
def mM(h:uS v):uw v:=by refine ah h ?_;clear h;intro a b _;refine⟨_,i5 b,?_,?_⟩<;>induction a<;>simp[Atom.kind]
def iz(h:uS v):∀d,bE d v:=by
 intro a;induction a with
 |zero=>exact mM h
 |succ d b=>exact .inl (mM h)
def wI(h:uS v):GU v:=by refine iu (qu h) λf d b a c=>?_;exact⟨⟨f,d,b,by exact cZ [R2 V0 K0] V0 (zc 3) rfl a,by exact Nj c (by decide)⟩,iz h 3⟩
def nW(h:∀w∈ws,uS w)(a:ws.length<=3):∃f,Tl f [.lst ws]/\jz f/\dp f=1/\eo (cq f)<=37:=by refine iu (Cq h) λf d b e c=>?_;refine⟨.arr f .nil,⟨ws,[],rfl,by exact Nj a (by decide),d,rfl⟩,⟨b,trivial⟩,by exact NN _ ‹_›,?_⟩;refine(?_:eo ([91]::(cq f++[[93]]))<=37);rw[d0];rw[er];refine(?_:1+1+(eo (cq f)+2)<=37);exact zL [_,_] [] [R0 V1 (zc 3),R0 V0 (zm 11 V1)] (zp (S1 K1) (zp V0 (zc 2))) (zc 37) [1,11,1] rfl a c
def gT(h:∀w∈ws,uS w)(b:ws.length<=3)(d):bE (d+1) (.lst ws):=.inr (.inl ⟨ws,rfl,by exact aaE b,λw a=>iz (h w a) d⟩)
def IB(h:∀w∈ws,uS w)(a:ws.length<=3):GU (.lst ws):=by refine iu (nW h a) λf e c b d=>?_;exact⟨⟨f,e,c,by exact cZ [R2 V0 K1] V0 (zc 3) rfl b,by exact Nj d (by decide)⟩,gT h a 2⟩
def E9(h:∀w∈ws,uS w)(c:ws.length<=3)(b:∀w∈us,uS w)(a:us.length<=3):GU (.lst [.lst ws,.lst us]):=by
 refine iu (nW h c) λf n j i d=>?_;refine iu (nW b a) λg k p m l=>?_;refine⟨⟨.arr (f.app g) .nil,⟨_,[],rfl,by simp,lr n k,rfl⟩,⟨ou _ _ j p,trivial⟩,by simp[iA,gf,gh,gi,lH,i,m],?_⟩,.inr (.inl ⟨_,rfl,by simp,λw o=>?_⟩)⟩
 ·refine(?_:eo ([91]::(cq (f.app g)++[[93]]))<=110)
  rw[d0];rw[er];rw[uy];rw[er];refine(?_:1+1+(eo (cq f)+eo (cq g)+2)<=110);exact cj [R0 V0 (zc 37),R0 V1 (zc 37)] (zp (S1 K1) (zp (zp V0 V1) (zc 2))) (zc 110) rfl d l
 ·refine ND (NH.mp o) (λe=>?_) (λe=>?_)
  ·rw[e];exact gT h c 1
  ·rw[mem_singleton.mp e];exact gT b a 1
def ae0(h:∀w∈ws,uS w)(a:ws.length<=3):GU (.ec [[75]] [.lst ws]):=by
 refine iu (nW h a) λf g d b e=>?_;refine A2 (Au (k:=[75]) (by unfold nr;decide)) λl1 i=>?_;refine⟨⟨.dict (.atom (.name [75]) f) .nil,⟨[[75]],[.lst ws],[],rfl,by(decide),rfl,by(decide),⟨cV [75],[.lst ws],rfl,rfl,g⟩,rfl⟩,⟨⟨l1,d⟩,trivial⟩,by simp[iA,gf,gh,gi,b],?_⟩,.inr (.inr ⟨_,_,rfl,rfl,by(decide),λw c=>?_⟩)⟩
 ·refine(?_:eo ([60,60]::((eh [75]::cq f)++[[62,62]]))<=110)
  rw[d0];rw[er];rw[d0];refine(?_:2+1+(2+1+eo (cq f)+3)<=110);exact cZ [R0 V0 (zc 37)] (zp (S1 (zc 2)) (zp (zp (S1 (zc 2)) V0) (zc 3))) (zc 110) rfl e
 ·rw[mem_singleton.mp c];exact gT h a 1
def AB(i:ks.Nodup)(he:ks.length=us.length)(b:ks.length<=3)(hk:∀k∈ks,nr k)(d:∀u∈us,uS u):GU (.ec ks us):=by refine iu (HK (ks:=ks) λk a=>⟨hk k (dU.mp a),λv h=>d v (Ak h)⟩) λf j g e c=>?_;rw[eZ] at c;refine⟨⟨.dict f .nil,⟨ks,us,[],rfl,i,he,by exact Nx b (by decide),j,rfl⟩,⟨g,trivial⟩,by simp[iA,gf,gh,gi,e],?_⟩,.inr (.inr ⟨_,_,rfl,he,by exact aaE b,λw l=>iz (d w l) 2⟩)⟩;refine(?_:eo ([60,60]::(cq f++[[62,62]]))<=110);rw[d0];rw[er];refine(?_:2+1+(eo (cq f)+3)<=110);exact zL [_,_] [] [R0 V1 (zc 3),R0 V0 (zm 18 V1)] (zp (S1 (zc 2)) (zp V0 (zc 3))) (zc 110) [1,18,1] rfl b c
def fu{H:ae}(h:a≠p)(x y):(H.set a x).set p y=(H.set p y).set a x:=by
 funext b;unfold ae.set;by_cases c:b=p
 ·rw[Np c];rw[Nl (λe=>h (e.symm.trans c))];rw[Np c];rfl
 ·rw[Nl c]
  by_cases d:b=a
  ·rw[Np d];rw[Np d];rfl
  ·rw[Nl d];rw[Nl d];rw[Nl c];rfl
noncomputable def cv(ks:Ni (Ni Nu)):Ni V:=ks.map V.str
def CR:∀ks,bX (cv ks)=xV ks:=by
 intro b;induction b with
 |nil=>exact rfl
 |cons k ks a=>refine(?_:(bX (cv ks)).map _=_);rw[a];rfl
def H9:∀k ks,(cv ks).all (iF (.str k))=Nk:=by
 intro k b;induction b generalizing k with
 |nil=>exact rfl
 |cons x ks a=>refine(?_:(Nk&&(cv ks).all (iF (.str k)))=Nk);rw[a k];rfl
def sJ(k):∀ks,(cv ks).any (bb · (.str k))=Nk↔k∈ks:=by
 intro b;induction b with
 |nil=>simp[cv]
 |cons x ks a=>refine(?_:((x==k)||(cv ks).any (bb · (.str k)))=Nk↔_);rw[PV];rw[a];rw[Ob];rw[NH];exact Us Sr Iff.rfl
def IX(x v):∀ks us,ks.length=us.length->(l8 x v ks us).length=us.length/\∀w∈l8 x v ks us,w=v\/w∈us:=by
 intro f;induction f with
 |nil=>
  intro a;induction a with
  |nil=>intro _;exact⟨rfl,λw h=>by cases h⟩
  |cons _ _=>
   intro b
   first|(contradiction;done)|(exact nomatch b)|contradiction
 |cons k ks c=>
  intro a;induction a using Nw with
  |cons u us=>
   intro h;rw[y5];split
   ·refine⟨rfl,λw d=>?_⟩
    refine ND (NH.mp d) (λe=>?_) (λe=>?_)
    ·exact .inl e
    ·exact .inr (by simp[e])
   ·refine A2 (c us (by simpa using h)) λi g=>?_
    refine⟨by rw[Nn];rw[i];rfl,λw d=>?_⟩;rcases NH.mp d with e|e
    ·exact .inr (by simp[e])
    ·refine ND (g w e) (λe=>?_) (λe=>?_)
     ·exact .inl e
     ·exact .inr (by simp[e])
  |nil=>
   intro b
   first|(contradiction;done)|(exact nomatch b)|contradiction
def F9(v)(n:H p=xV (.dict (cv ks) us))(h:ks.Nodup)(he:ks.length=us.length)(m:ks.length<=100):
  ∃c d,cX (.ref p) (.str k) v H=xV (H.set p (.dict (cv c) d))/\c.Nodup/\c.length=d.length/\c.length<=ks.length+1/\(∀x∈c,x=k\/x∈ks)/\∀w∈d,w=v\/w∈us:=by
 have i:cX (.ref p) (.str k) v H=xV (H.set p (if(cv ks).any (bb · (.str k)) then .dict (cv ks) (l8 (.str k) v (cv ks) us) else .dict (cv ks++[.str k]) (us++[v]))):=by refine(?_:CG (H p) _ _ _ _=_);rw[n];refine Np ?_;rw[H9];exact NP (by unfold cv;rw[NR];exact Nx m (by decide))
 rw[i];by_cases hk:k∈ks
 ·rw[Np ((sJ k ks).mpr hk)]
  refine A2 (IX (.str k) v (cv ks) us (by unfold cv;rw[NR];exact he)) λo j=>?_;exact⟨ks,_,rfl,h,by rw[o];exact he,Ql _,λx f=>.inr f,j⟩
 ·rw[Nl (λq=>hk ((sJ k ks).mp q))]
  refine⟨ks++[k],us++[v],by unfold cv;rw[N7];rfl,?_,by simp[he],by simp,λx f=>?_,λw r=>?_⟩
  ·rw[So]
   exact⟨h,by simp,λa l b g e=>by rw[Oc] at g;subst g;subst e;exact hk l⟩
  ·refine ND (mem_append.mp f) (λe=>?_) (λe=>?_)
   ·exact .inr e
   ·exact .inl (mem_singleton.mp e)
  ·refine ND (mem_append.mp r) (λe=>?_) (λe=>?_)
   ·exact .inr e
   ·exact .inl (Oc.mp e)
def Ef(i)(b:0<=i)(a:i<4)(H):∃k,nr k/\gQ (.tup [.str [65],.str [],.str [35,50],.str [66,32,67]]) (.int i) H=xV (.str k):=by
 haveI:i=0\/i=1\/i=2\/i=3:=by exact ad8 b a
 rcases this with rfl|rfl|rfl|rfl
 ·exact⟨[65],by unfold nr;decide,rfl⟩
 ·exact⟨[],by unfold nr;decide,rfl⟩
 ·exact⟨[35,50],by unfold nr;decide,rfl⟩
 ·exact⟨[66,32,67],by unfold nr;decide,rfl⟩
def MU(vs)(a:vs.length<=3):jY (.lst vs) .none (.int 1)=xV (.lst (dS vs 0 (min 1 vs.length))):=acF rfl rfl (Nj a (by decide))
def MV(vs)(a:vs.length<=3):jY (.lst vs) (.int 1) .none=xV (.lst (dS vs (min 1 vs.length) vs.length)):=acF rfl rfl (Nj a (by decide))
def nM:(∀w∈dS vs a b,w∈vs)/\(dS vs a b).length<=vs.length:=by refine⟨λw c=>Sb (Sd c),?_⟩;rw[Ol];rw[OR];exact Nj (QR _ _) (RG _ _)
def z0(hi:d9 v=xV xs)(h:∀a b,(∀{ρ H k},W ρ H k R k X->a ρ H k)->(∀{ρ H},N ρ H->b ρ H)->bc is a xs ρ H b):J9 is W ρ N R X v H:=aa hi (h _ _ (λq=>q) (λq=>q))
def aes:∀i:N6,0<=i->i<5->i=0\/i=1\/i=2\/i=3\/i=4:=by exact ad7
section
variable {H:ae}{n a:Nu}{Q:av}{X:Prop}{cells:Ni N6}{s:Nu}
def rM(g:cells≠[])(l:cells.length<=40)(o:s<=700)(q:∀v s',GU v->s'<=s+30->Q v (H.set a (tape cells s'))):call (n+3) 71 [.ref a] (H.set a (tape cells s)) Q X:=by
 refine ag (ρ:=[xV (.ref a),Nm,Nm,Nm,Nm,Nm]) rfl rfl rfl (ak λW D=>?_);refine b5 (by decide) g l (Nj o (by decide)) λi h0 z=>?_;refine D (ak λW D=>?_);refine b5 (by decide) g l (Nx o (by decide)) λk F f=>?_;haveI L:=uD (k - 0).toNat 0 k;refine aa (za (cZ [R0 V0 (zc 3)] (S1 V0) (zc 100) rfl (iP ⟨f9 [R4 K0 V0] (zn V0) (zu (zc 3)) rfl F,f9 [R4 (S1 V0) (zc 4)] V0 (zu (zc 3)) rfl f⟩)) _) ?_;refine⟨Nj L (by unfold lim;exact cZ [R0 V0 (zc 3)] V0 (zc 16000000) rfl (OU.mpr (f9 [R4 (S1 V0) (zc 4)] (zs V0 K0) (zu (zc 3)) rfl f))),?_⟩;refine jE uS 6 800 (λx H K h=>h) _ _ _ (λx C s q o q'=>kC g l o q') (zL [_,_,_] [] [R0 V0 (zc 700),R0 V1 V2,R0 V2 (zc 3)] (zp (S1 (S1 V0)) (zm 6 V1)) (zc 800) [1,1,6,6] rfl o L (OU.mpr (f9 [R4 (S1 V0) (zc 4)] (zs V0 K0) (zu (zc 3)) rfl f))) λvs s' E m e3=>?_;have c:vs.length<=3:=by exact cR [R0 V1 V2,R2 V0 V1,R0 V2 (zc 3)] V0 (zc 3) rfl L E (OU.mpr (f9 [R4 (S1 V0) (zc 4)] (zs V0 K0) (zu (zc 3)) rfl f))
 refine D ?_;have go:∀{v:V}{s2:Nu},GU v->s2<=s'+4->less (Q v) (H.set a (tape cells s2)):=λB y=>af (q _ _ B (zL [_,_,_,_,_] [] [R3 V2 V3,R0 V4 (zp (S1 (S1 V1)) (zm 6 V3)),R0 V2 (zc 3),R0 V0 (zp V4 (zc 4))] V0 (zp V1 (zc 30)) [1,6,1,6,1] rfl E e3 c y));clear D W;rcases aes i h0 z with rfl|rfl|rfl|rfl|rfl
 ·exact go (IB m c) (NV _ _)
 ·refine aa (MU vs c) (aa (MV vs c) ?_)
  exact go (E9 (λw U=>m w (nM.1 w U)) (Nj nM.2 c) (λw U=>m w (nM.1 w U)) (Nj nM.2 c)) (NV _ _)
 ·exact go (ae0 m c) (NV _ _)
 ·intro p hp
  have d:a≠p:=λe=>by rw[<- e,aj] at hp;contradiction
  haveI O:H p=Nm:=by refine bB (NU hp) ?_;rw[aP (OG d)];rfl
  refine z0 (v:=.lst vs) rfl λB' N' hB hN=>?_;haveI loop:∀r s2 ks us T,(∀w∈r,uS w)->(∀u∈us,uS u)->ks.Nodup->ks.length=us.length->(∀k∈ks,nr k)->ks.length+r.length<=3->s2+r.length<=s'+3 ->
    bc [4] B' r [xV (.ref a),xV (.int 3),xV (.lst vs),xV (.ref p),T,Nm] ((H.set p (.dict (cv ks) us)).set a (tape cells s2)) N':=by
   intro r;induction r with
   |nil=>
    intro s2 ks us T _ y Y I z A t;have Z:eJ (.ref p) ((H.set p (.dict (cv ks) us)).set a (tape cells s2))=xV (.ec ks us,H.set a (tape cells s2)):=by rewrite [<- fu d];haveI he:((H.set a (tape cells s2)).set p (.dict (cv ks) us)).erase p=H.set a (tape cells s2):=iW (by rw[aP (OG d)];exact O);refine(?_:BU (((H.set a (tape cells s2)).set p (.dict (cv ks) us)) p) p _=_);rw[aj];refine(?_:(bX (cv ks)).map _=_);rw[CR];rw[he];rfl
    refine hN (aa Z ?_);exact go (AB Y I A z y) (O9 t)
   |cons w r ih=>
    intro s2 ks us T B y Y I z A t;rw[Nn] at A t;refine hB ?_;refine b5 (by decide) g l (zL [_,_,_,_,_,_] [] [R0 V1 (zc 700),R3 V2 V3,R0 V4 (zp (S1 (S1 V1)) (zm 6 V3)),R0 V2 (zc 3),R0 (zp V0 (S1 V5)) (zp V4 (zc 3))] V0 (zc 1000) [1,1,6,1,6,1] rfl o E e3 c t) λj M J=>?_;refine ah (Ef j M J ((H.set p (.dict (cv ks) us)).set a (tape cells (s2+1)))) λk hk1 N=>?_;obtain⟨P,G,t1,t2,t3,t4,t5,t6⟩:=F9 (H:=(H.set p (.dict (cv ks) us)).set a (tape cells (s2+1))) (k:=k) w (by rewrite [<- fu d];rw[aj];rfl) Y I (by exact Nj (Nj (NV _ _) A) (by decide));rw[fu d,ax] at t1;refine aa N (aa t1 ?_);refine ih (s2+1) P G _ (λx C=>B x (NB _ C)) (λu hu=>?_) t2 t3 (λx C=>?_) (by exact cR [R0 (zp V2 (S1 V1)) (zc 3),R0 V0 (S1 V2)] (zp V0 V1) (zc 3) rfl A t4) (by exact cR [R0 (zp V0 (S1 V1)) (zp V2 (zc 3))] (zp (S1 V0) V1) (zp V2 (zc 3)) rfl t)
    ·refine ND (t6 u hu) (λe=>?_) (λe=>?_)
     ·rw[e];exact B w (Ny ..)
     ·exact y u e
    ·refine ND (t5 x C) (λe=>?_) (λe=>?_)
     ·rw[e];exact hk1
     ·exact z x e
  rw[fu d];exact loop vs s' [] [] _ m (λ_ h=>by cases h) Ry rfl (λ_ h=>by cases h) (by rw[NL];rw[Og];exact c) (OQ c s')
 ·clear E c;induction vs using Nw with
  |nil=>exact go (wI ⟨.null,rfl,trivial⟩) (NV _ _)
  |cons v vs=>exact aa (zK (k:=0) rfl) (go (wI (m v (Ny ..))) (NV _ _))
end
structure JO(f:Fo)(t:Ni Nu):Prop where
 rt:∃v',RV t (xV v')/\Tl f [v']
 del:∀k,k<t.length->∀v',RV (t.take k++t.drop (k+1)) (xV v')->∃f',Tl f' [v']/\dp f'<=40/\f'≠f
 DV:ir t
 len:t.length<=110
def uQ(h:Tl f [v]):∃x xs,oi f=.tup (x::xs):=by
 induction f with
 |nil=>contradiction
 |atom a r=>refine X1 (jb a) λxs e=>?_;exact⟨_,xs,e⟩
 |arr l r=>exact⟨_,_,rfl⟩
 |dict l r=>exact⟨_,_,rfl⟩
def JX(h:Tl f [v])(a:Tl f' [v'])(hd:dp f'<=3)(H):jg .eq (oi f) (oi f') H=xV (decide (f=f'))/\jg .ne (oi f) (oi f') H=xV (!decide (f=f')):=by
 haveI e:=HC h a hd;refine X2 (uQ h) λx xs b=>?_;refine X2 (uQ a) λy ys c=>?_;rw[b,c] at e ⊢;constructor
 ·exact e
 ·refine(?_:(eD 64 (.tup (x::xs)) (.tup (y::ys))).map (!·)=_)
  rw[e];rfl
def CK{k:Nu}(hk:k<=t.length)(a:t.length<=1000):jY (.bytes t) .none (.int k)=xV (.bytes (t.take k)):=JB (l:=0) rfl (Bs _ hk a) a
def Gb{k:Nu}(hk:k<=t.length)(a:t.length<=1000):jY (.bytes t) (.int k) .none=xV (.bytes (t.drop k)):=(JB (Bs _ hk a) rfl a).trans (NN (λl=>xV (V.bytes l)) (nL t k))
def add_bytes(h:a.length+b.length<=1000):m8 .add (.bytes a) (.bytes b)=xV (.bytes (a++b)):=by show(if _ then _ else _)=_;rw[Np (by unfold lim;exact Nj h (by decide))];rfl
def FO{k:Nu}(hk:k<=1000)(H):cp .range [.int k] H=xV (.mN 0 k 1):=by show(if _ then _ else _)=_;rw[Np];rfl;unfold dG;lia
section
variable {H:ae}{n a:Nu}{Q:av}{X:Prop}
def nu{v:V}(h:Tl f [v])(hd:dp f<=3)(L:JO f t)(q:Q (.bool Nk) H):call (n+60) 72 [.bytes t,v] H Q X:=by
 refine ah L.rt λF r1 z=>?_;haveI d:=L.len;refine ag (ρ:=[xV (.bytes t),xV v,Nm,Nm,Nm]) rfl rfl rfl (ak λW m=>?_);refine uO 3 f v (n+54) _ _ _ h hd ?_;refine m (ak λW m=>?_);refine jv L.DV (Nj d (by decide)) r1 (uO 3 f F (n+54) _ _ _ z hd ?_);refine aa (JX z h hd H).2 ?_;refine zP rfl (m (ak λW m=>?_));refine aa (FO (KC d) H) ?_;refine z0 (by refine(?_:xV (f5 (((t.length:Nu):N6) - 0).toNat 0 t.length 1)=_);rw[Xk];rw[Q6];rfl) λI A E C=>?_;haveI loop:∀j k s r,k+j=t.length->bc [3] I (f5 j k t.length 1) [xV (.bytes t),xV v,xV (oi f),s,r] H A:=by
  intro j;induction j with
  |zero=>exact λk s r hk=>C (m (af q))
  |succ j y=>
   intro k s r hk;rw[i8];rw[Np (zI [_,_,_] [] [R2 (zp V0 (S1 V2)) V1] (S1 (zu V0)) (zu V1) [1,1] rfl hk)];refine E (ak λK i=>?_);haveI l:ir (t.take k++t.drop (k+1)):=λc p=>(mem_append.mp p).elim (λe=>L.DV c (Sb e)) (λe=>L.DV c (Sd e));refine X1 (RV.total (t.take k++t.drop (k+1)) (λc p=>(l c p).2.1)) λo g=>?_;refine aa (CK (cR [R2 (zp V0 (S1 V2)) V1] V0 V1 rfl hk) (KC d)) (aa (Gb (cR [R2 (zp V0 (S1 V2)) V1] (S1 V0) V1 rfl hk) (KC d)) ?_);refine aa (add_bytes (by rw[OR];rw[Ol];exact Nj (O6 (RG _ _) (QR _ _)) (Nj (O6 d d) (by decide)))) (jv l (by rw[Nv];rw[OR];rw[Ol];exact gb [R0 V2 (zc 110),R0 V0 V3,R2 (zp V1 (S1 V3)) V2] (zp V0 V1) (zc 900) rfl d (QO _ _) (NT (cR [R2 (zp V0 (S1 V2)) V1] (S1 V0) V1 rfl hk))) g ?_);induction o with
   |none=>refine X2 (uQ h) λx xs G=>?_;refine i (aa (by rw[G];rfl) ?_);exact y (k+1) _ _ (zE [_,_,_] [] [R2 (zp V0 (S1 V1)) V2,R3 (zp V0 (S1 V1)) V2] (zp (S1 V0) V1) V2 [1,1,0] [1,0,1] rfl rfl hk hk)
   |some u=>refine a9 (L.del k (cR [R2 (zp V0 (S1 V2)) V1] (S1 V0) V1 rfl hk) u g) λB w J D=>?_;refine uO 40 B u (n+17) _ _ _ w J (i ?_);refine aa (JX w h hd H).1 (bp D ?_);exact y (k+1) _ _ (zE [_,_,_] [] [R2 (zp V0 (S1 V1)) V2,R3 (zp V0 (S1 V1)) V2] (zp (S1 V0) V1) V2 [1,1,0] [1,0,1] rfl rfl hk hk)
 exact loop t.length 0 Nm Nm (Og _)
end
def GY:∀{f},jz f->AD f:=by
 intro j;induction j with
 |nil=>exact λ_=>trivial
 |atom a r d=>
  exact λh=>by
   refine⟨?_,d h.2⟩;have h:=h.1;induction a with
   |null=>trivial
   |truth b=>trivial
   |int i=>have h:=h;refine(?_:i.natAbs<10 ^ 40);exact Nx h (by decide)
   |real t p=>have h:=h;exact⟨by exact cZ [R0 V0 (zc 2000)] (S1 V0) (zc (10 ^ 20)) rfl h.1,by exact cZ [R0 V0 (zc 4)] V0 (zc 18) rfl h.2.1⟩
   |name s=>have h:=h;exact⟨h.2,by exact cZ [R0 V0 (zc 4)] V0 (zc 300) rfl h.1⟩
   |str b=>
    haveI h:=h;haveI k:∀c∈[40,41,92,13,10,114,49,0],c<256:=by decide
    exact⟨λc m=>k c (h.2 c m),by exact cZ [R0 V0 (zc 3)] V0 (zc 300) rfl h.1⟩
   |ref n g=>have h:=h;exact⟨⟨h.1,by exact cZ [R0 V0 (zc 29)] (S1 V0) (zc (10 ^ 40)) rfl (iP ⟨f9 [R4 K0 V0] (zn V0) (zu (zc 29)) rfl h.1,f9 [R4 (S1 V0) (zc 30)] V0 (zu (zc 29)) rfl h.2.1⟩)⟩,h.2.2.1,by exact cZ [R0 V0 (zc 2)] (S1 V0) (zc (10 ^ 40)) rfl (iP ⟨f9 [R4 K0 V0] (zn V0) (zu (zc 2)) rfl h.2.2.1,f9 [R4 (S1 V0) (zc 3)] V0 (zu (zc 2)) rfl h.2.2.2⟩)⟩
 |arr l r d e=>exact λh=>⟨d h.1,e h.2⟩
 |dict l r d e=>exact λh=>⟨d h.1,e h.2⟩
def Fv:∀l,l.length<=eo l:=by
 intro b;induction b with
 |nil=>exact NA _
 |cons x l a=>rw[d0];rw[Nn];have:=a;exact cR [R0 V0 V2] (S1 V0) (zp (S1 V1) V2) rfl a
def yJ:∀l e,(jn e l).length<=eo l:=by
 intro b;induction b with
 |nil=>intro _;exact NA _
 |cons x l a=>
  intro e;rw[d0];rw[abr];rw[Nv];rw[Nv];haveI:=a (eP x);haveI c:(if e&&sP x then[32] else([]:Ni Nu)).length<=1:=by split<;>(decide)
  exact gb [R0 V2 V3,R0 V0 K1] (zp (zp V0 V1) V2) (zp (S1 V1) V3) rfl this c
def td:Prop:=∀(f:Fo)(v:V),Tl f [v]->LF f->JO f (dO f)
noncomputable def jA(T:Nu)(tr:V):V:=.obj .bench [.bytes [],.none,.obj .shelf [.ref T,tr]]
section
variable {H:ae}{n a:Nu}{Q:av}{X:Prop}
def mq(h:Tl f [v])(a:LF f)(hd:bE 3 v)(q:Q (.bytes (dO f)) H):call (n+13) 40 [v,.bool Nk] H Q X:=by haveI c:=Fv (cq f);haveI d:=yJ (cq f) Nr;haveI b:=a.2.2;exact GI h (GY a.1) a.2.1 hd (aaF c b) (by refine(?_:(jn Nr (cq f)).length<=900);exact aaF d b) q
def ur{T}(hi:i≠1)(a:H T=xV (.dict [.int 1,.int i] [x,.tup [g,v]]))(q:Q v H):call (n+1) 42 [jA T tr,.int i] H Q X:=by
 haveI hm:jg .C4 (.int i) (.ref T) H=xV Nr:=by refine(?_:(match H T with|some (.dict ks _)=>if iF (.int i) (.int i)&&ks.all (iF (.int i)) then xV (ks.any (bb · (.int i))) else Nm| _=>Nm).map (!·)=_);rw[a];refine(?_:xV (!((1==i)||((i==i)||false)))=_);rw[OJ];rw[Xj];rw[Rt];rfl
 haveI c:gQ (.ref T) (.int i) H=xV (.tup [g,v]):=by refine(?_:Ee (H T) _=_);rw[a];refine(?_:(if((1:N6)==i)=Nk then xV x else(if(i==i)=Nk then xV _ else Nm))=_);rw[Nl (by rw[Ob];exact λe=>hi e.symm)];rw[Np (OJ i)];rfl
 refine ag (ρ:=[xV (jA T tr),xV (.int i)]) rfl rfl rfl (ak λW d=>?_);refine aa hm (d ?_);exact aa c (af q)
def wk(d:LF f)(b:ir (dO f))(q:Q (.str (dO f)) H):call (n+1) 43 [.bytes (dO f)] H Q X:=
 qh (λc a=>(b c a).1) (Nj (yJ (cq f) Nr) (Nj d.2.2 (by decide))) q
def Bm{T}{i:Nu}(hi:i≠1)(j:H T=xV (.dict [.int 1,.int i] [x,.tup [g,v]]))(d:∀c∈s,48<=c/\c<=57)(m:s≠[])(l:s.length<=9)(k:cF s=i)(h:Tl f [v])(a:LF f)(hd:bE 3 v)(o:ir (dO f))(q:Q (.str (dO f)) H):call (n+14) 46 [jA T tr,.str [103,101,116],.str s] H Q X:=by refine ag (ρ:=[xV (jA T tr),xV (.str [103,101,116]),xV (.str s)]) rfl rfl rfl (wH d m l ?_);refine k▸ur (λe=>hi (Pg.mp e)) j (mq h a hd ?_);exact wk a o (af q)
def qX{T}(h:Tl f [tr])(a:LF f)(hd:bE 3 tr)(c:ir (dO f))(q:Q (.str (dO f)) H):call (n+14) 46 [jA T tr,.str [116,114,97,105,108,101,114],.str []] H Q X:=by refine ag (ρ:=[xV (jA T tr),xV (.str [116,114,97,105,108,101,114]),xV (.str [])]) rfl rfl rfl (wG ?_);exact mq h a hd (wk a c (af q))
end
noncomputable def gN(k:Nu)(t:Ni Nu):Ni Nu:=t.take k++t.drop (k+1)
def su(h:k<a.length):gN k (a++b)=gN k a++b:=by unfold gN;rw[take_append_of_le_length (by(exact Pf ‹_›))];rw[drop_append_of_le_length (by assumption)];rw[NM];rfl
def pD(h:a.length<=k):gN k (a++b)=a++gN (k - a.length) b:=by unfold gN;rw[take_append];rw[P1 h];rw[drop_append];rw[drop_eq_nil_of_le (by(exact O9 ‹_›))];rw[OX];rw[NM];rw[show k+1 - a.length=k - a.length+1 by exact zE [_,_,_,_] [] [R2 (zp V0 V2) (S1 V3),R0 V3 (zp V1 V2),R0 (S1 V3) (zp V0 V2),R2 (zp V1 V2) V3] V0 (S1 V1) [1,1,1,0,0] [1,0,0,1,1] rfl rfl (NT (cj [R0 V0 V1] V0 (S1 V1) rfl h)) (mV _ _) (mV _ _) (NT (h))];rfl
def vC(h:k<t.length):(gN k t).length+1=t.length:=by rw[Nv];rw[OR];rw[Ol];exact zE [_,_,_,_] [] [R0 V0 V3,R2 (zp V1 (S1 V3)) V2,R3 V0 V3,R0 V2 (zp V1 (S1 V3))] (S1 (zp V0 V1)) V2 [1,1,1,0,0] [1,0,0,1,1] rfl rfl (QO _ _) (NT (cj [R0 (S1 V0) V1] (S1 V0) V1 rfl h)) (Qh (cj [R0 (S1 V0) V1] V0 V1 rfl h)) (mV _ _)
def ki(k)(t):∀c∈gN k t,c∈t:=λc b=>(mem_append.mp b).elim (λh=>(Vn _ _).subset h) λh=>(drop_sublist _ _).subset h
def xv(c:Nu):Prop:=c≠35/\c≠37/\c≠13/\(nq c=Nk\/(33<=c/\c<=126))
def iU:∀{t},(∀c∈t,xv c)->Clean t:=by
 intro d;induction d with
 |nil=>intro _;exact trivial
 |cons c r a=>intro h;have b:=h c (by(exact Ny));exact⟨⟨b.2.1,b.2.2.1,b.2.2.2⟩,λq=>NK q b.1,a λx e=>h x (by(exact NB _ ‹_›))⟩
def bS:∀{a b},Clean a->Clean b->Clean (a++b):=by
 intro e;induction e with
 |nil=>intro b _ h;exact h
 |cons c a d=>
  intro b h f;refine⟨h.1,λq=>?_,d h.2.2 f⟩;haveI:=h.2.1 q
  match a,this with
  |x::y::a,hh=>exact hh
def ko:∀k,k<16->xv (eL k)/\0<=bT (eL k):=by unfold xv;decide
def wu(h:c<256):Clean (bg c):=by
 unfold bg;split
 ·refine A2 (ko (c / 16) (zL [_,_,_] [] [R0 (S1 V1) (zc 256),R2 (zp (zm 16 V0) V2) V1] (S1 V0) (zc 16) [16,1,1] rfl h (OF _ _))) λj g=>?_
  refine A2 (ko (c % 16) (cZ [R0 (S1 V0) (zc 16)] (S1 V0) (zc 16) rfl (RM _ (QB _)))) λi f=>?_;refine⟨by decide,λ_=>⟨g,f⟩,?_⟩;exact iU λx b=>by
   haveI:x=eL (c / 16)\/x=eL (c % 16):=by simpa [aS] using b
   rcases this with e|e<;>rw[e]<;>assumption
 ·next q=>
  refine iU λx b=>?_;rw[mem_singleton.mp b];haveI hr:aI c=Nk:=by
   induction hr:aI c with
   |true=>rfl
   |false=>exact NK (.inr (.inr (.inr hr))) q
  haveI d:c≠37:=λe=>by rw[e] at hr;injection hr
  exact⟨by exact((Oq (Pl.mp (Pl.mp (Pl.mp q).2).2).1).elim (λa=>ll [R0 (S1 V0) (zc 35)] (R3 V0 (zc 35)) rfl a) λa=>ll [R0 (S1 (zc 35)) V0] (R2 V0 (zc 35)) rfl a),d,by exact ll [R1 (S1 V0) (zc 33)] (R2 V0 (zc 13)) rfl (Pl.mp q).1,.inr (L26 q)⟩
def mI:∀{s:Ni Nu},(∀c∈s,c<256)->Clean (s.flatMap bg):=by
 intro b;induction b with
 |nil=>intro _;exact trivial
 |cons c s a=>intro h;exact bS (wu (h c (by(exact Ny)))) (a λx d=>h x (by(exact NB _ ‹_›)))
def sQ:∀m b s,b.length<m->cU b=xV s->s.length % 2=b.length % 2:=by
 intro f;induction f with
 |zero=>intro _ _ h _;lia
 |succ m d=>
  intro g;induction g using Nw with
  |nil=>intro s h e;rw[cU] at e;injection e with e;subst e;rfl
  |cons c r=>
   intro s h e;rw[cU] at e;split at e
   ·contradiction
   ·rw[N2] at e
    refine ah e ?_;clear e;intro s' k i;subst i;replace h:=(Nn)▸h;have j:(aT c r).2=r\/(aT c r).2.length+2=r.length:=gU (M:=λp=>p.2=r\/p.2.length+2=r.length) (.inl rfl) λ_ _ _ e _ _ _=>e▸.inr rfl;haveI:=d _ s' (by rcases j with q|q<;>(try skip)<;>lia) k;rw[Nn];rw[Nn];refine ND (j) (λq=>?_) (λq=>?_)
    ·lia
    ·lia
def fP(t:Tok):Prop:=j0 t/\((∃s,t=.name s)\/∀c∈tp t,xv c)
def jw(ts:Ni Tok):Prop:=∀t∈ts,fP t
def jw.ok(h:jw ts):cM ts:=λt a=>(h t a).1
def fP.clean(h:fP t):Clean (tp t):=by
 rcases h.2 with⟨s,rfl⟩|k
 ·exact⟨by decide,λq=>(by contradiction),mI λc a=>(h.1 c a).2⟩
 ·exact iU k
def sW(b:NF):Clean (if b then[32] else[]):=by induction b<;>simp[Clean]<;>decide
def pR:∀{ts:Ni Tok}(e:NF),jw ts->Clean (jt e ts):=by
 intro b;induction b with
 |nil=>intro e _;exact trivial
 |cons t ts a=>intro e h;rw[i4];exact bS (sW _) (bS (h t (by(exact Ny))).clean (a _ λx c=>h x (by(exact NB _ ‹_›))))
noncomputable def cN(s:Ni Nu):Ni Tok->Nu
 |[]=>0
 |t::ts=>(if t=.name s then 1 else 0)+cN s ts
def afp(s):cN s ([])=(0):=by intros;rfl
def zR(s):∀t ts,cN s (t::ts)=((if t=.name s then 1 else 0)+cN s ts):=by intros;rfl
def Hj(s):∀ts e,bZ (λt=>if t=.name s then 1 else 0) 0 e ts=cN s ts:=by
 intro b;induction b with
 |nil=>intro e;exact rfl
 |cons t ts a=>intro e;rw[oX];rw[zR];rw[a];rw[Wr];rw[Og];rfl
def DA:∀ts e,bZ (λt=>(tp t).length) 1 e ts=(jt e ts).length:=by
 intro b;induction b with
 |nil=>intro e;exact rfl
 |cons t ts a=>
  intro e;rw[oX];rw[i4];rw[a];rw[Nv];rw[Nv];rw[Qx]
  congr 1
  split<;>rfl
def Clean.no(h:Clean r):tc r:=λc a=>(h.mem c a).1
def KW(s):∀{ts} e,jw ts->tH s (jt e ts)=cN s ts:=by
 intro c;induction c with
 |nil=>intro e _;exact rfl
 |cons t ts a=>
  intro e h;refine ah (jM e h.ok) λf d g=>?_;have i:f≠.fin:=λq=>by subst q;cases d;exact(h.ok .fin (by(exact Ny)))
  rw[ka (pR e h).no g i];rw[zR];rw[a _ λx j=>h x (by(exact NB _ ‹_›))]
  congr 1
  induction d with
  |same=>rfl
  |hex b=>rfl
def Jj(h:a.head?=b.head?):sP a=sP b:=by
 induction a with
 |nil=>induction b with
  |nil=>rfl
  |cons y b=>contradiction
 |cons x a=>clear tail_ih;induction b with
  |nil=>contradiction
  |cons y b=>injection h with h;clear tail_ih;subst h;rfl
def KY:∀{ts:Ni Tok}(e:NF)(k:Nu),jw ts->k<(jt e ts).length->Clean (gN k (jt e ts))\/((gN k (jt e ts)).head?=(jt e ts).head?/\∃s,tH s (gN k (jt e ts))<cN s ts):=by
 intro ii_
 induction ii_ with
 |nil=>intro e k _ hk;exact NK hk (O1 _)
 |cons t ts ih0_=>
  intro e k h hk;have m:=h t (by(exact Ny));have o:jw ts:=λx hx=>h x (by(exact NB _ ‹_›));have hR:=pR (eP (tp t)) o;have r:eP (tp t)=Nk->sP (jt (eP (tp t)) ts)=Nr:=λq=>by rw[q];exact uj o.ok
  rw[i4] at hk ⊢;haveI ih:=ih0_ (eP (tp t));haveI p:∀s,tH s (jt (eP (tp t)) ts)=cN s ts:=λs=>KW s _ o;generalize jt (eP (tp t)) ts=R at hk hR r ih p ⊢;generalize hsep:(if e&&sP (tp t) then[32] else([]:Ni Nu))=a at hk ⊢;have d:(a=[]\/a=[32])/\Clean a:=by refine(hsep)▸?_;exact⟨by split<;>(decide),sW _⟩
  have hlx:∀X,bG (a++X)=bG X:=λX=>by rcases d.1 with q|q<;>rw[q]<;>rfl
  by_cases k1:k<a.length
  ·refine(su k1)▸?_
   refine .inl (bS ?_ (bS m.clean hR));rcases d.1 with q|q
   ·rw[q] at k1;exact NK k1 (O1 _)
   ·rw[q] at k1 ⊢;rw[show k=0 by simpa using k1];exact trivial
  rw[pD (by(exact Pt.mp ‹_›))];replace hk:=(Nv)▸hk;haveI hj:k - a.length<(tp t++R).length:=by exact gb [R0 (S1 V2) (zp V3 V1),R2 (zp V0 V3) V2] (S1 V0) V1 rfl hk (NT (cj [R1 (S1 V1) V0] V0 V1 rfl k1))
  generalize k - a.length=j at hj ⊢;refine(NG (j<(tp t).length)).elim (λj1=>?_) (λj1=>?_)
  ·refine(su j1)▸?_
   rcases m.2 with⟨s,rfl⟩|hp
   ·have hB:=gV λc g=>(m.1 c g).2
    clear hj;induction j using Qn with
    |zero=>exact .inl (bS d.2 (bS (mI λc g=>(m.1 c g).2) hR))
    |succ j=>
     haveI j2:=QL j1;refine(?_:Clean (a++(47::(gN j (s.flatMap bg)++R)))\/(a++(47::(gN j (s.flatMap bg)++R))).head?=(a++(47::(s.flatMap bg++R))).head?/\∃s',tH s' (a++(47::(gN j (s.flatMap bg)++R)))<cN s' (.name s::ts));refine .inr ⟨?_,s,?_⟩
     ·rcases d.1 with q|q<;>rw[q]<;>rfl
     haveI hnp:=qb s m.1;haveI hl:=vC j2;haveI hB':∀c∈gN j (s.flatMap bg),aI c=Nk:=λc g=>hB c (ki _ _ c g);generalize gN j (s.flatMap bg)=B' at hl hB' ⊢;refine A2 (dt hB' (r (nR s))) λt1 t2=>?_;haveI n:tc (a++(47::(B'++R))):=by
      intro c g;rcases mem_append.mp g with q|q
      ·exact(d.2.mem c q).1
      refine ND (NH.mp q) (λq=>?_) (λq=>?_)
      ·rw[q];decide
      refine ND (Of.mp q) (λq=>?_) (λq=>?_)
      ·intro e;haveI:=hB' c q;replace this:=(e)▸this;injection this
      ·exact(hR.mem c q).1
     have f:bG (a++(47::(B'++R)))=(cU B').map λs=>(.name s,R):=by rw[hlx];unfold bG;rw[lg (by decide)];rw[l0];rw[Np rfl];rw[t1];rw[t2];rfl
     haveI g:cN s (.name s::ts)=1+cN s ts:=by rw[zR];rw[Np rfl];rfl
     refine(g)▸?_;induction hn:cU B' with
     |none=>replace f:=(hn)▸f;unfold tH;refine(?_:(bG _).elim 0 (Dw s (C0 s _))<_);rw[f];refine(?_:0<_);exact NV _ _
     |some s2=>
      rw[hn] at f;rw[ka n f (by intro h;injection h)];rw[Nl];rw[p s]
      ·exact L17
      ·intro e
       cases e;haveI:=sQ _ _ _ (Oe _) hn;haveI:=sQ _ _ _ (Oe _) hnp;grind
   ·exact .inl (bS d.2 (bS (iU λc g=>hp c (ki _ _ c g)) hR))
  ·rw[pD (RD j1)]
   replace hj:=(Nv)▸hj;rcases ih (j - (tp t).length) o (gb [R0 (S1 V2) (zp V3 V1),R2 (zp V0 V3) V2] (S1 V0) V1 rfl hj (NT (cj [R1 (S1 V1) V0] V0 V1 rfl j1))) with q|⟨q1,s,q2⟩
   ·exact .inl (bS d.2 (bS m.clean q))
   ·have n:tc (a++(tp t++gN (j - (tp t).length) R)):=by
     intro c g;rcases Of.mp g with q|q
     ·exact(d.2.mem c q).1
     refine ND (Of.mp q) (λq=>?_) (λq=>?_)
     ·exact(m.clean.mem c q).1
     ·exact(hR.mem c (ki _ _ c q)).1
    haveI hhd:=Jj q1;generalize gN (j - (tp t).length) R=R' at q1 q2 n hhd ⊢;have hne:=m.1.ne;refine .inr ⟨?_,s,?_⟩
    ·rcases d.1 with q|q<;>rw[q]
     ·induction e:tp t using Nw with
      |nil=>exact NK e hne
      |cons c l=>rfl
     ·rfl
    ·refine ah (Aw m.1 (λq=>by rw[hhd];exact r q)) λt' l1 l2=>?_
     rw[<- hlx] at l2;have hf:t'≠.fin:=λq=>by subst q;cases l1;exact m.1
     rw[ka n l2 hf];rw[zR];haveI:(if t'=.name s then 1 else 0)=(if t=.name s then 1 else 0):=by
      induction l1 with
      |same=>rfl
      |hex b=>rfl
     exact gb [R0 (S1 V1) V3,R2 V0 V2] (S1 (zp V0 V1)) (zp V2 V3) rfl q2 this
def IA(i)(h:0<=i)(b:i<9):∃k:Nu,2+i=(k:N6)/\k≠1/\(∀c∈aA k,48<=c/\c<=57)/\aA k≠[]/\(aA k).length<=9/\cF (aA k)=k/\(∀H,cp .str [.int (2+i)] H=xV (.str (aA k))):=by
 refine⟨(2+i).toNat,by exact zJ [_] [_] [R4 (zp (zc 2) V0) (zu V0),R6 (zu V0) (zp (zc 2) V0)] (zp (zc 2) V0) (zu V0) [1,1,0] [1,0,1] rfl rfl (QQ _) (QD (f9 [R4 K0 V0] K0 (zp (zc 2) V0) rfl h)),by exact zN [_] [_] [R4 K0 V0,R4 (zp (zc 2) V0) (zu V0)] (R2 V0 K1) [1,1,1] rfl h (QQ _),bw _,λe=>by haveI:=dY (2+i).toNat;replace this:=(e)▸this;contradiction,dX (cZ [R0 V0 (zc 10)] (S1 V0) (zc (10 ^ 9)) rfl (OU.mpr (f9 [R4 (S1 V0) (zc 9)] (zp (zc 2) V0) (zu (zc 10)) rfl b))) (by decide),?_,λH=>?_⟩
 ·refine X1 (Sh h) λm d=>?_;subst d
  haveI:∀m:Nu,m<9->cF (aA (2+(m:N6)).toNat)=(2+(m:N6)).toNat:=by decide
  exact this m (OT.mp b)
 ·refine(?_:(if(2+i).natAbs<10 ^ 200 then xV (V.str (au (2+i))) else Nm)=_)
  rw[Np (NY (cZ [R0 V0 (zc 10)] (S1 V0) (zc (10 ^ 2)) rfl (iP ⟨f9 [R4 K0 V0] (zn (zp (zc 2) V0)) (zu (zc 10)) rfl h,f9 [R4 (S1 V0) (zc 9)] (zp (zc 2) V0) (zu (zc 10)) rfl b⟩):(2+i).natAbs<10 ^ 2) (PK (by decide) (by decide)))];unfold au;rw[Nl (zN [] [_] [R4 K0 V0] (R4 (S1 (zp (zc 2) V0)) K0) [1,1] rfl h)];rw[show(2+i).natAbs=(2+i).toNat by exact zE [_,_] [_] [R6 (zu V0) (zp (zc 2) V0),R4 (zp (zc 2) V0) (zu V1),R4 (zp (zc 2) V0) (zu V0),R6 (zu V1) (zp (zc 2) V0)] V0 V1 [1,1,1,0,0] [1,0,0,1,1] rfl rfl (VG (f9 [R4 K0 V0] K0 (zp (zc 2) V0) rfl h)) (QQ _) N6.le_natAbs (QD (f9 [R4 K0 V0] K0 (zp (zc 2) V0) rfl h))];rfl
def yU(h:uS v):GU (.ec [[82,111,111,116],[73,110,102,111]] [k7 1 0,v]):=by
 refine AB (by decide) rfl (by decide) (λk hk=>?_) (λu a=>?_)
 ·rcases NH.mp hk with e|e
  ·rw[e];unfold nr;decide
  ·rw[mem_singleton.mp e];unfold nr;decide
 ·rcases NH.mp a with e|e
  ·rw[e];exact⟨.ref 1 0,rfl,by decide,by decide,by decide,by decide⟩
  ·rw[mem_singleton.mp e];exact h
noncomputable def Dl:aq:=.seq (.asg 10 (.ao .bytes (.cons (.comp 11 (.call 46 (.cons (.loc 6) (.cons (.loc 7) (.cons (.loc 8) .nil)))) .always (.ao .ord (.cons (.loc 11) .nil))) .nil)))
  (.ite (.or (.cons (.cmp .ne (.loc 10) (.call 40 (.cons (.loc 9) (.cons (.lit (.bool Nk)) .nil)))) (.cons (.not (.tv (.call 72 (.cons (.loc 10) (.cons (.loc 9) .nil))))) .nil))) (.ret (.lit (.bool Nr))) .skip)
section
variable {H:ae}{n a:Nu}{Q:av}{X:Prop}
def mu(P:td){p l o2 t r s a o11}(m:GU v)(i:∀f,Tl f [v]->LF f->bE 3 v->ir (dO f)->∀Q,Q (.str (dO f)) H->call (n+60) 46 [bn,verb,rest] H Q X)(q:∀a,N [p,l,o2,t,r,s,xV bn,xV verb,xV rest,xV v,a,o11] H):eW (call (n+60)) Dl [p,l,o2,t,r,s,xV bn,xV verb,xV rest,xV v,a,o11] H N R K X:=by
 refine A2 m ?_;clear m;intro b hd;refine ah b ?_;clear b;intro f g d;haveI L:=P f v g d;refine ak λW y=>?_;refine i f g d hd L.DV _ ?_;refine⟨by rw[NR];exact Nj L.len (by decide),?_⟩;refine fe (λ_=>Nk) (λx=>match x with|.str [c]=>.int c| _=>.none) _ _ (λx _ k h=>h) (λx o K z=>?_) ?_
 ·refine ah (mem_map.mp o) λc u j=>?_;clear o;subst j
  exact z
 ·haveI e:((uT (dO f)).filter λ_=>Nk).map (λx=>match x with|.str [c]=>V.int c| _=>.none)=bL (dO f):=by rw[QF.mpr (λ_ _=>rfl)];rw[Oo];rfl
  refine e▸(aa (se (λc w=>(L.DV c w).1) (Nj L.len (by decide)) H) ?_);refine y (mq g d hd ?_);refine fQ (by rw[OJ];rfl) (nu g d.2.1 L ?_);exact q _
def Dr(ns:Ni N6)(d:ns.length<=63):∃cells:Ni N6,cells≠[]/\cells.length<=40/\∀ρ K,K (.lst (cells.map V.int)) H ->
  cL (call n) (.or (.cons (.ao .list (.cons (.xn (.loc 0) .absent (.lit (.int 40))) .nil)) (.cons (.eN (.cons (.lit (.int 4)) .nil)) .nil))) (xV (.lst (ns.map V.int))::ρ) H K X:=by
 have a:jY (.lst (ns.map V.int)) .none (.int 40)=xV (.lst ((ns.take 40).map V.int)):=by
  show(if _ then _ else _)=_;rw[Np (by rw[NR];exact Nj d (by decide))];refine(?_:xV (V.lst (((ns.map V.int).take (min 40 (ns.map V.int).length)).drop 0))=_);rw[drop_zero];rw[map_take];rw[Nu.min_def];split
  ·rfl
  ·rw[P1 (NA _)];rw[P1 (cZ [R1 (zc 40) V0] V0 (zc 40) rfl (by assumption))];rfl
 haveI b:cp .list [.lst ((ns.take 40).map V.int)] H=xV (.lst ((ns.take 40).map V.int)):=Np (by rw[NR];rw[OR];unfold lim;exact cZ [R0 V0 (zc 40)] V0 (zc 16000000) rfl (QO _ _));induction h:ns.take 40 using Nw with
 |nil=>replace a:=(h)▸a;exact⟨[4],by(decide),by(decide),fun ρ K e=>aa a (e)⟩
 |cons c cs=>refine⟨c::cs,by intro h;injection h,by refine bB (NU h) ?_;rw[OR];exact QO _ _,fun ρ K e=>?_⟩;rw[h] at a b;refine aa a (aa b ?_);exact e
def LI(P:td)(ns:Ni N6)(w:ns.length<=63)(q:∀H,Q (.bool Nk) H):call 80 73 [.lst (ns.map V.int)] H Q X:=by
 refine a9 (Dr (H:=H) (n:=79) (X:=X) ns w) λcells h l j=>?_;refine ag (ρ:=[xV (.lst (ns.map V.int)),Nm,Nm,Nm,Nm,Nm,Nm,Nm,Nm,Nm,Nm,Nm]) rfl rfl rfl (ak λW c=>?_);refine j _ _ λa ha=>c (ak λW c=>?_);refine rM h l (by decide) λv D O o=>c (ak λW c=>?_);refine b5 (by decide) h l (Nj o (by decide)) λi r E=>c ?_;obtain⟨k,k1,k2,k3,M,k5,k6,J⟩:=IA i r E;refine ak λW c b m=>?_;refine gX (aj _ b _) ?_;refine dT m rfl rfl λT Y=>c (ak λW c=>?_);haveI d:a≠T:=λe=>by rw[<- e,aj] at Y;contradiction
 rw[fu d];refine b5 (by decide) h l (Nx o (by decide)) λg L N=>?_;rewrite [<- fu d];haveI t:∀x,cX (.ref T) (.int (2+i)) (.tup [.int g,v]) ((H.set a (tape cells (D+1+1))).set T (.dict [.int 1] [x]))=xV ((H.set a (tape cells (D+1+1))).set T (.dict [.int 1,.int k] [x,.tup [.int g,v]])):=λx=>by refine(?_:CG (((H.set a (tape cells (D+1+1))).set T (.dict [.int 1] [x])) T) _ _ _ _=_);rw[aj];rw[k1];refine bB (NU (ax _ _ (.dict [.int 1] [x]) (.dict [.int 1,.int k] [x,.tup [.int g,v]]))) ?_;refine(?_:xV (ae.set _ T (if((((1:N6)==(k:N6))||false)=Nk) then _ else _))=_);rw[OE (zN [_] [_] [R4 K0 V0,R6 (zp (zc 2) V0) (zu V0)] (R7 K1 (zu V0)) [1,1,1] rfl r k1:(1:N6)≠k)];rfl
 refine aa (t _) (c ?_);generalize hx:V.ec _ _=x;rw[fu d];refine ak λW c b m=>?_;refine dF (aj _ b _) (dT m rfl rfl ?_);refine kC (n:=77) h l (by exact cZ [R0 V0 (zp K0 (zc 30))] (S1 (S1 V0)) (zc 800) rfl o) λu s2 U hs2=>c ?_;haveI s:((H.set T (.dict [.int 1,.int k] [.tup [.int 0,x],.tup [.int g,v]])).set a (tape cells s2)) T=xV (.dict [.int 1,.int k] [.tup [.int 0,x],.tup [.int g,v]]):=by rw[aP (OG d)];rw[aj];rfl
 generalize(H.set T (.dict [.int 1,.int k] [.tup [.int 0,x],.tup [.int g,v]])).set a (tape cells s2)=F at s ⊢;refine ak λW c b m=>?_;refine rS (n:=78) rfl rfl (aj _ b _) ?_;refine dT m rfl rfl λb m=>?_;refine rn (n:=78) (aj _ b _) ?_;refine dT m rfl rfl (c ?_);haveI p:=yU U;refine(?_:eW (call 79) _ [xV (.lst (ns.map V.int)),xV (.ref a),xV v,xV (.int (2+i)),xV (.ref T),xV (.ec [[82,111,111,116],[73,110,102,111]] [k7 1 0,u]),xV (jA T (.ec [[82,111,111,116],[73,110,102,111]] [k7 1 0,u])),Nm,Nm,Nm,Nm,Nm] F _ _ _ _);generalize V.ec [[82,111,111,116],[73,110,102,111]] [k7 1 0,u]=G at p ⊢;refine ak λW c=>?_;refine c0 (v:=.tup [.tup [.str [103,101,116],.str (aA k),v],.tup [.str [116,114,97,105,108,101,114],.str [],G]]) (xs:=[.tup [.str [103,101,116],.str (aA k),v],.tup [.str [116,114,97,105,108,101,114],.str [],G]]) (λK hK=>?_) rfl λB' N' I Z=>?_
 ·exact aa (J F) hK
 refine I ?_;refine mu (n:=19) P O (λf B A z y Q q=>Bm (n:=65) k2 s k3 M k5 k6 B A z y q) λC=>?_;refine I ?_;refine mu (n:=19) P p (λf B A z y Q q=>qX (n:=65) B A z y q) λC=>?_;exact Z (c (af (q _)))
end
def ux(h:48<=c/\c<=57):xv c:=⟨by exact ll [R0 (zc 48) V0] (R2 V0 (zc 35)) rfl h.1,by exact ll [R0 (zc 48) V0] (R2 V0 (zc 37)) rfl h.1,by exact ll [R0 (zc 48) V0] (R2 V0 (zc 13)) rfl h.1,.inr (⟨cZ [R0 (zc 48) V0] (zc 33) V0 rfl h.1,cZ [R0 V0 (zc 57)] V0 (zc 126) rfl h.2⟩)⟩
def c7{l:Ni Nu}(h:l.all (λc=>decide (c≠35/\c≠37/\c≠13/\(nq c=Nk\/(33<=c/\c<=126))))=Nk):∀c∈l,xv c:=λc a=>by haveI:=all_eq_true.mp h c a;rw[N8] at this;exact this
def AH(t:N6):∀c∈gu t,xv c:=by
 unfold gu;split
 ·exact c7 rfl
 ·intro c a;cases a
def IQ(i):∀c∈au i,xv c:=by
 rw[fg];intro c a;refine ND (mem_append.mp a) (λq=>?_) (λq=>?_)
 ·exact AH i c q
 ·exact ux (bw _ c q)
def IS{L}:∀{b} k,(∀c∈b,c=13\/xv c)->∀c∈fj L k b,xv c:=by
 intro f;induction f with
 |nil=>intro k _;exact λc d=>by cases d
 |cons x b a=>
  intro k h;intro c d;haveI m:=c7 (l:=[92]) rfl 92 (by(exact .head _));haveI j:=c7 (l:=[114]) rfl 114 (by(exact .head _));refine ND (mem_append.mp d) (λq=>?_) (λq=>?_)
  ·haveI i:=h x (by(exact .head _))
   split at q
   ·haveI:c=92\/c=114:=by simpa using q
    rcases this with e|e<;>refine(e)▸?_<;>assumption
   ·next g=>
    haveI i:=i.resolve_left g;split at q
    ·haveI:c=92\/c=x:=by simpa using q
     rcases this with e|e<;>refine(e)▸?_<;>assumption
    ·exact(mem_singleton.mp q)▸i
  ·exact a (k+1) (λc d=>h c (by(exact NB _ ‹_›))) c q
def IT{b:Ni Nu}(h:∀c∈b,c<256/\(c=13\/xv c)):∀c∈fv b,xv c:=by
 haveI d:∀x∈[40,41,60,62],xv x:=c7 rfl;unfold fv;split
 ·intro c a
  refine ND (NH.mp a) (λq=>?_) (λq=>?_)
  ·exact(q)▸(d 40 (by(exact Ny)))
  refine ND (mem_append.mp q) (λq=>?_) (λq=>?_)
  ·exact IS 0 (λc a=>(h c a).2) c q
  ·exact(mem_singleton.mp q)▸(d 41 (by(exact .tail _ (.head _))))
 ·intro c a
  rcases NH.mp a with q|q
  ·exact(q)▸(d 60 (by(decide)))
  refine ND (mem_append.mp q) (λq=>?_) (λq=>?_)
  ·refine ah (mem_flatMap.mp q) λx f q=>?_
   haveI:=(h x f).1;haveI:c=eL (x / 16)\/c=eL (x % 16):=by simpa [aS] using q
   rcases this with e|e<;>refine(e)▸?_
   ·exact(ko _ (zL [_,_,_] [] [R0 (S1 V1) (zc 256),R2 (zp (zm 16 V0) V2) V1] (S1 V0) (zc 16) [16,1,1] rfl this (OF _ _))).1
   ·exact(ko _ (cZ [R0 (S1 V0) (zc 16)] (S1 V0) (zc 16) rfl (RM _ (QB _)))).1
  ·exact(mem_singleton.mp q)▸(d 62 (by(decide)))
def Ck:∀{p},(p≠0->t % 10≠0)->dq t p=(t,p):=by
 intro a;induction a with
 |zero=>intro _;exact rfl
 |succ p b=>intro h;rw[nX];rw[Nl (h (by intro h;injection h))];rfl
def qQ(h:dg b=.word b)(f:b.all aI=Nk)(d:b≠[])(a:∀c∈b,xv c):fP (.word b):=⟨⟨h,λc e=>all_eq_true.mp f c e,d⟩,.inr a⟩
def uf(h:i.natAbs<10 ^ 40):fP (.int i):=⟨h,.inr (IQ i)⟩
def Ie{a}(h:Ib a):∀t∈a.bJ,fP t:=by
 haveI one:∀{t},fP t->∀x∈[t],fP x:=λh x r=>by rw[mem_singleton.mp r];exact h
 induction a with
 |null=>exact one (qQ rfl rfl (by(decide)) (c7 rfl))
 |truth b=>clear h;induction b<;>exact one (qQ rfl rfl (by(decide)) (c7 rfl))
 |int i=>have h:=h;exact one (uf (Nx h (by decide)))
 |real t p=>
  haveI h:=h;haveI m:=Ck h.2.2;haveI f:t.natAbs<10 ^ 40:=Nx h.1 (by decide);refine one ⟨⟨f,by exact cZ [R0 V0 (zc 4)] (S1 V0) (zc 40) rfl h.2.1,m⟩,.inr ?_⟩;refine e9 (l9 (cZ [R0 V0 (zc 4)] (S1 V0) (zc 40) rfl h.2.1) m f) λA B e o v _=>?_;refine(?_:∀c∈cB t p,xv c);rw[e];intro c d;refine ND (mem_append.mp d) (λq=>?_) (λq=>?_)
  ·exact AH t c q
  refine ND (mem_append.mp q) (λq=>?_) (λq=>?_)
  ·exact ux (o c q)
  refine ND (NH.mp q) (λq=>?_) (λq=>?_)
  ·rw[q];exact c7 (l:=[46]) rfl 46 (by(exact Ny))
  ·exact ux (v c q)
 |name s=>have h:=h;exact one ⟨h.2,.inl ⟨s,rfl⟩⟩
 |str b=>
  haveI h:=h;haveI j:∀c∈[40,41,92,13,10,114,49,0],c<256/\(c=13\/(c≠35/\c≠37/\c≠13/\(nq c=Nk\/(33<=c/\c<=126)))):=by decide
  exact one ⟨λc d=>(j c (h.2 c d)).1,.inr (IT λc d=>j c (h.2 c d))⟩
 |ref n g=>
  haveI h:=h;have j:=uf (Nx (by exact cZ [R0 V0 (zc 29)] V0 (zc 30) rfl (iP ⟨f9 [R4 K0 V0] (zn V0) (zu (zc 29)) rfl h.1,f9 [R4 (S1 V0) (zc 30)] V0 (zu (zc 29)) rfl h.2.1⟩):n.natAbs<=30) (by decide));have u:=uf (Nx (by exact cZ [R0 V0 (zc 2)] V0 (zc 30) rfl (iP ⟨f9 [R4 K0 V0] (zn V0) (zu (zc 2)) rfl h.2.2.1,f9 [R4 (S1 V0) (zc 3)] V0 (zu (zc 2)) rfl h.2.2.2⟩):g.natAbs<=30) (by decide));intro t k;haveI:t=.int n\/t=.int g\/t=.word [82]:=by rcases k with _|⟨_,_|⟨_,_|⟨_,k⟩⟩⟩<;>first|exact .inl rfl|exact .inr (.inl rfl)|exact .inr (.inr rfl)|exact NK k SI
  rcases this with e|e|e<;>rw[e]
  ·exact j
  ·exact u
  ·exact qQ rfl rfl (by intro h;injection h) (c7 rfl)
theorem fR:∀{f:Fo},jz f->jy f/\jw (bJ f)
 |.nil=>λ_=>⟨trivial,λt b=>by cases b⟩
 |.atom a r=>λh=>by refine A2 (fR (f:=r) h.2) ?_;intro i c;haveI j:=Ie h.1;refine⟨⟨⟨λt b=>(j t b).1,λn g e=>?_⟩,i⟩,λt b=>(mem_append.mp b).elim (j t) (c t)⟩;clear j;subst e;haveI h:=h.1;exact⟨h.1,h.2.2.1⟩
 |.arr l r=>λh=>by
  have i:=(fR h.1).1;have c:=(fR h.1).2;have m:=(fR h.2).1;have k:=(fR h.2).2;refine⟨⟨i,m⟩,λt b=>?_⟩;haveI d:∀t∈[jS Nr,cls Nr],fP t:=λt b=>by
   haveI:t=jS Nr\/t=cls Nr:=by simpa using b
   rcases this with e|e<;>refine(e)▸?_
   ·exact⟨qk _,.inr (c7 rfl)⟩
   ·exact⟨jD _,.inr (c7 rfl)⟩
  refine ND (NH.mp b) (λq=>?_) (λq=>?_)
  ·exact(q)▸(d _ (by(exact .head _)))
  refine ND (mem_append.mp q) (λq=>?_) (λq=>?_)
  ·exact c t q
  refine ND (NH.mp q) (λq=>?_) (λq=>?_)
  ·exact(q)▸(d _ (by(exact .tail _ (.head _))))
  ·exact k t q
 |.dict l r=>λh=>by
  have i:=(fR h.1).1;have c:=(fR h.1).2;have m:=(fR h.2).1;have k:=(fR h.2).2;refine⟨⟨i,m⟩,λt b=>?_⟩;haveI d:∀t∈[jS Nk,cls Nk],fP t:=λt b=>by
   haveI:t=jS Nk\/t=cls Nk:=by simpa using b
   rcases this with e|e<;>refine(e)▸?_
   ·exact⟨qk _,.inr (c7 rfl)⟩
   ·exact⟨jD _,.inr (c7 rfl)⟩
  refine ND (NH.mp b) (λq=>?_) (λq=>?_)
  ·exact(q)▸(d _ (by(exact .head _)))
  refine ND (mem_append.mp q) (λq=>?_) (λq=>?_)
  ·exact c t q
  refine ND (NH.mp q) (λq=>?_) (λq=>?_)
  ·exact(q)▸(d _ (by(exact .tail _ (.head _))))
  ·exact k t q
def Fw:td:=by
 intro f v h u;refine A2 (fR u.1) λz w=>?_;have B:dO f=jt Nr (bJ f):=by unfold dO jt;rw[IW];rfl
 have a:(dO f).length<=110:=Nj (yJ _ _) u.2.2;haveI g:=pR Nr w;rw[B] at a ⊢;refine⟨Cz h z (by haveI:=u.2.1;(exact Nj ‹_› (O7 _ _))),λk hk v' b=>?_,λc d=>?_,a⟩
 ·haveI i:=vC hk
  haveI l:=KY Nr k w hk;haveI b:=b;haveI m:tc (gN k (jt Nr (bJ f))):=λc d=>(g.mem c (ki _ _ c d)).1;rcases l with q|⟨_,s,q⟩
  ·refine a9 (zC D7 (λr hr c d=>(hr.mem c d).1) b q (cj [R0 V1 (zc 110),R2 (S1 V0) V1] V0 (zc 120) rfl a i)) λn p o j=>?_
   refine⟨n,p,o,λe=>?_⟩;rw[e,DA] at j;exact zF [_,_] [] [R2 (S1 V0) V1,R0 V1 V0] [1,1] rfl i j
  ·refine a9 (zC (D6 s) (λr hr=>hr) b m (cj [R0 V1 (zc 110),R2 (S1 V0) V1] V0 (zc 120) rfl a i)) λn p o j=>?_
   refine⟨n,p,o,λe=>?_⟩;rw[e,Hj] at j;exact NK q (Pt.mpr j)
 ·haveI:=g.mem c d
  refine⟨?_,this.1,this.2⟩;haveI A:∀t,Clean t->∀c∈t,c<256:=by
   intro t;induction t with
   |nil=>intro _ c d;contradiction
   |cons x t C=>
    intro h c d;refine ND (NH.mp d) (λe=>?_) (λe=>?_)
    ·rw[e]
     refine ND (h.1.2.2) (λq=>?_) (λq=>?_)
     ·haveI hm:∀y∈xk,y<256:=by decide
      exact hm x (by simpa [nq] using q)
     ·exact cZ [R0 V0 (zc 126)] (S1 V0) (zc 256) rfl q.2
    ·exact C h.2.2 c e
  exact A _ g c d
end
set_option tactic.hygienic true
section
open T
open PySem PySem.W PySem.Calls PyProof.Rows
abbrev rw0:OpenLaw:=RW
theorem Ar{w:Px}{cA:eX->OO}{fz:Fz}:∀{vs:Ni Nz}{ns:Ni N6},IntsAre vs ns->aB w cA fz (ns.map V.int) vs
 |[],[],_=>aB.nil
 | _::_,[],h=>by cases h
 |[],_::_,h=>by cases h
 | _::_,_::_,h=>by
  cases h with
  |cons n t r=>exact aB.cons (VR.bV _ _) (Ar r)
def G4:∀x v,(x,v)∈Di->x≠("__name__" : NX)/\Xl x=xV v:=by
 have:Di.all (λp=>decide (p.1≠("__name__" : NX))&&decide (Xl p.1=xV p.2))=Nk:=by decide +kernel
 intro x v h;have:=RL.mp this (x,v) h;simp only[Od,N8] at this;exact this
def GG{N:Nu}(hN:N<=140)(core:∀ns:Ni N6,ns.length<=63->call N 73 [.lst (ns.map V.int)] Cj (λv _=>v=.bool Nk) OH){w:Px}{s₀ s₁:NJ}{mg mb:NX->Nt Nz}(G:Ground qv loose [] (λ_ _=>Sl) w s₀ mg mb s₁.heap)(Y:YT w s₁.heap){a l:OO}(hg:s₁.gens=#[])(hmg:mg "law" = xV (.ref a)){vs:Ni Nz}{ns:Ni N6}(hl:s₁.heap.get? l=xV { cls:=.type "list",data:=.seq vs.toArray })(hi:IntsAre vs ns)(h63:ns.length<=63):
  ON (PJ pw w) callerA (Ot (.ref a) [.ref l]) (λv s'=>v=.bool Nk/\(∀b o,s₁.heap.get? b=xV o->s'.heap.get? b=xV o)/\s'.os=s₁.os/\s'.gens=#[]) (λ_ _=>OH) s₁:=by
 obtain⟨K,hk,t1,t2,bd⟩:=Y;have T:=G.T;have eg:=abi hk t2 T.g;subst eg;obtain⟨tie,fns⟩:=MZ (w:=w) (B:=s₁.heap) (os:=s₁.os) (gens:=s₁.gens) hk t1 t2 bd T.nolimit T.g T.b λx v hx=>by obtain⟨h1,h2⟩:=G4 x v hx;rw[T.builtins x h1];exact h2
 have ok:=KL tie fns N s₁.heap 73;have ha:=(tie.fn 73 "law" rfl).1;rw[hmg] at ha;cases ha;have hv:=hi.length;refine N4 (RJ (ok callerA ⟨s₁.heap.get?,λ_=>0⟩ Cj s₁ [.lst (ns.map V.int)] [.ref l] (λv _=>v=.bool Nk) OH ?_ ?_ ?_ (core ns h63))) (λv s' z=>?_) λe s' z=>z.1
 ·exact⟨λ_ _ e=>e,λ_ _ e=>e,λ_ _ e=>e,λb y e=>(by cases e),λb hb=>NK hb fU,λb hb=>NK hb fU,λb c fs e=>(by cases e),λb c fs b' c' fs' e=>(by cases e)⟩
 ·exact⟨rfl,by show 1+claimMargin+4 * N<=900;unfold claimMargin;exact zL [_] [] [R0 V0 (zc 140)] (zp (zp K1 (zc 300)) (zm 4 V0)) (zc 900) [1,4] rfl hN,by show 4+16 * N<=5000;exact zL [_] [] [R0 V0 (zc 140)] (zp (zc 4) (zm 16 V0)) (zc 5000) [1,16] rfl hN,⟨[],rfl,trivial,λe he=>nomatch he⟩,λl' hl' e he=>by cases hl';exact nomatch he⟩
 ·refine aB.cons ?_ aB.nil
  exact⟨l,vs.toArray,0,rfl,hl,by simp only[Pp,aL];exact cj [R0 V1 (zc 63),R2 V0 V1] V0 (zc 1073741824) rfl h63 hv,by simpa using Ar hi⟩
 ·obtain⟨W',H',t,v',hv',rfl⟩:=z
  exact⟨hv'.bool_inv,λb o e=>t.hr.fz _ _ (t.mono _ _ e),t.os,t.gens.trans hg⟩
def row_holds{N:Nu}(hN:N<=140)(core:∀ns:Ni N6,ns.length<=63->call N 73 [.lst (ns.map V.int)] Cj (λv _=>v=.bool Nk) OH)(said:rw0.row.wellSaid=Nk):rw0.row.Holds:=by
 refine holds_open (q:=qv) (loose:=loose) (Xt:=xtB) (XP:=λ_ _=>Sl) (Yf:=yf) (Ya:=ya) (YP:=YT) (N:=20000) left acQ YT.keeps (λ_ _=>trivial) (λ_ _ _ _ _=>trivial) (by rfl) (by rfl) (by rfl) (λs e=>recFacts_of e) (by rfl) said (by decide +kernel) ⟨rfl,rfl,rfl,rfl,rfl,by decide +kernel⟩ ?hw ?hc
 case hw=>w_witness2
 intro w s₀ s₁ mg mb G Y a o pm cd doc dV kV ho hd hcd hD hmg hg args vals as hpre hlay hrd hwl hlo;clear hd hcd hD;replace hmg:mg "law" = xV (.ref a):=hmg
 wrow_args hpre hlay hrd hwl hlo
 rename_i ns h1 h2 h3 h4 h5 a4 a3 l vs as hL ra w1 r0 hI hr hc hc2;have hl:s₁.heap.get? l=xV { cls:=.type "list",data:=.seq vs.toArray }:=by
  obtain⟨ol,e1,e2,n,e3⟩:=hL;have w1':Well w.params s₁.heap (.ref l) (.list ((ns.map PyData.int).map ofPy)):=by rw[<- ofPys_eq];exact w1
  cases w1' with
  |list g _=>rw[e1] at g;cases g;cases e3;exact e1
 refine N4 (GG hN core G Y hg hmg hl hI (by exact cZ [R5 (S1 (zu (zc 63))) (zu V0)] V0 (zc 63) rfl hc)) (λv s' z=>?_) λ_ _ z=>z.elim;obtain⟨rfl,k1,k2,k3⟩:=z;exact GoodW.toG ⟨.inl ⟨.bool Nk,.bool Nk,[],rfl,λ_=>rfl,.bool _,by kernel_rfl,λ_=>⟨Ry,λ_ h=>nomatch h⟩⟩,k1,k2,k3⟩
end
section
def core(ns:Ni N6)(h:ns.length<=63):call 80 73 [.lst (ns.map V.int)] Cj (λv _=>v=.bool Nk) OH:=LI Fw ns h λ_=>rfl
end
end
end
end Mine
theorem PySem.Challenge.cw_pq0819_01_holds : PySem.Challenge.rw_pq0819_01.Holds := by
  refine PySem.W.holds_law Mine.said1 fun said => ?_; exact Mine.row_holds (N := 80) (by decide) Mine.core said
