import PyProof.Rows.All
import OpenK.KLine
import PyProof.SliceMore
import PyProof.DictRoads
import PyProof.DictKinds
import KE.IntBitsLaws
import KE.KxBytes
import KE.BytesMulAny
import KE.BytesMake
import KE.KBytesCut
import KE.KBytesMore
import KE.BitLaws
import OpenK.KOwn
import OpenK.KCall
import KE.KTryMore
import PyProof.ExcBaseAll.Exception
import PyProof.PureCalls
import PyProof.ListOps
import PyProof.TupleOfSeq
import PyProof.CallStr
import PyProof.WalkInts
import PyProof.Rows.SortShell
import PyProof.Rows.SortWalk
import PyProof.ConsumeWalk
import PyProof.FString
import PyProof.DictTable
import PyProof.TupleIter
import PyProof.Ends
import PyProof.CompMap
import PyProof.RangeFor
import PyProof.RulesTry
import PyProof.Rows.Catch
import PyProof.Cells
import Wide.All
import OpenK.AllK
import Wide.FinOn
import Lean
import PySem.Challenge.RW_xm0842_01
set_option autoImplicit false
set_option linter.all false
set_option genSizeOf false
set_option genInjectivity false
set_option genCtorIdx false
set_option bootstrap.genMatcherCode false
set_option Elab.async false
set_option maxRecDepth 100000
set_option maxHeartbeats 8000000
namespace Mine
open PySem.W.Fast renaming te10110043849684766642->aer,te14364793385576792824->aeq
open Nat renaming and_two_pow_sub_one_eq_mod->ZU,shiftRight_eq_div_pow->DU,le_of_add_le_add_left->DS,lt_of_add_lt_add_left->X7,add_sub_cancel_left->pX,lt_add_of_pos_right->NB,le_of_ble_eq_true->aT,eq_of_beq_eq_true->NA,sub_eq_zero_of_le->Nz,le_of_sub_eq_zero->XK,sub_le_sub_right->wg,add_sub_add_left->Nt,add_le_add_right->Sn,add_min_add_left->XF,sub_le_of_le_add->Ub,add_le_add_left->dW,add_sub_cancel'->gZ,mul_le_mul_left->md,add_left_cancel->Gz,add_lt_add_left->Gy,lt_of_le_of_lt->cE,add_right_comm->iE,lt_of_lt_of_le->ma,lt_of_le_of_ne->xv,pos_of_ne_zero->Gu,add_sub_cancel->L6,lt_succ_of_le->uQ,le_of_lt_succ->xq,sub_pos_of_lt->BO,lt_succ_of_lt->Gs,le_of_succ_le->LY,le_succ_of_le->TL,succ_le_succ->eG,le_add_right->ft,not_lt_of_le->gP,le_of_not_lt->iD,min_le_right->je,lt_succ_self->nS,min_eq_right->qz,le_of_not_le->xm,max_eq_right->BN,lt_of_not_le->Gp,not_le_of_lt->Gm,succ_ne_self->TH,shiftLeft_eq->TG,succ_lt_succ->Tu,min_eq_left->dM,le_add_left->j_,max_eq_left->xl,le_antisymm->BL,div_add_mod->Gl,min_le_left->Gf,not_lt_zero->LS,le_max_left->Tp,div_le_self->To,add_le_add->fS,add_assoc->dT,lt_irrefl->sD,le_trans->aK,lt_trans->fq,le_of_lt->fH,le_of_eq->gY,zero_add->jF,add_comm->nP,ne_of_lt->sy,succ_pos->sx,add_zero->sr,le_total->BH,ne_of_gt->BF,sub_self->BE,beq_refl->SM,mul_succ->SK,mul_comm->SG,le_refl->bD,zero_le->bX,mul_add->uN,min_def->BC,le_succ->F5,sub_sub->Sz,mod_lt->dE,sub_le->jc,not_lt->FZ,sub_lt->FY,le_min->Sw
open List renaming take_append_of_le_length->SR,getLast?_eq_some_getLast->Wf,getD_eq_getElem?_getD->O',getElem?_append_right->ZR,getLast?_eq_getElem?->DT,getElem?_append_left->I_,getElem?_eq_some_iff->X_,rel_of_pairwise_cons->X9,getElem?_eq_getElem->lK,getElem?_take_of_lt->pY,filterMap_cons_some->NC,filterMap_cons_none->Ta,length_eq_zero_iff->qO,getElem?_cons_succ->Sr,filter_cons_of_pos->X0,filter_cons_of_neg->XZ,pairwise_singleton->XY,take_of_length_le->mu,filter_eq_nil_iff->I8,range_succ_eq_map->XW,length_replicate->nN,mem_append_right->t4,length_filter_le->tZ,length_singleton->Bz,getElem?_eq_none->By,concat_eq_append->I7,take_append_drop->I6,lookup_cons_self->Sq,contains_iff_mem->XQ,eq_nil_or_concat->XM,mem_of_mem_take->yk,mem_of_getElem?->Bx,mem_of_getLast?->Bw,mem_of_mem_drop->I5,pairwise_append->Nv,mem_append_left->Nu,getLast?_concat->So,drop_eq_nil_iff->XH,getElem?_of_mem->XG,length_pos_iff->qB,flatten_append->xA,filterMap_cons->GA,filter_eq_self->L9,append_toArray->T_,filter_sublist->T7,map_eq_nil_iff->T6,length_append->bN,mem_singleton->eR,mem_cons_self->uS,getElem?_drop->BS,mem_replicate->BR,filter_append->Gv,findIdx?_cons->TZ,zip_cons_cons->TU,getLast?_cons->TS,filter_filter->TR,append_assoc->dF,flatten_cons->qA,size_toArray->uR,getElem?_map->BP,pairwise_map->Gq,any_eq_false->TQ,ext_getElem?->TK,getLast?_map->TJ,length_take->eW,length_drop->fJ,length_cons->jf,all_eq_true->l_,take_length->sE,not_mem_nil->uP,isEmpty_iff->xp,flatten_nil->xo,take_append->Gn,lookup_cons->LW,mem_reverse->Tw,drop_length->Tv,length_map->cF,append_nil->fT,map_append->f7,mem_append->iS,mem_filter->nR,nodup_cons->qy,length_nil->xj,forIn_cons->Gj,find?_cons->LV,nil_append->LU,take_take->qx,drop_drop->xh,take_zero->LP,forIn_nil->Tf,drop_left->Te,take_left->Td,drop_take->Tb,mem_cons->dS,map_cons->gv,map_take->sC,take_nil->xg,drop_nil->BJ,map_drop->F_,all_cons->LO,any_cons->LN,sum_cons->LK,mem_map->l9,map_nil->BG,all_map->LF,map_map->LB
open PySem renaming leftWithCleanup_false_of_bare->acr,markedBehindIn_of_false->X1,wpAny_pyNext_list_item->XS,wpAny_noteFrame_againW->XR,builtinLookup_eq_fast->nO,ofString_length->XO,wpAny_pyNext_list_end->XN,wpAny_letTemporaryGo->XJ,builtinType_eq_fast->T8,wpAny_Constant_str->Gx,int_text_length_le->TY,wpAny_truthy_bool->xu,wpAny_pyIter_list->LZ,slot_list_getitem->TP,list_append->TO,getMethod_builtin->TM,wpAny_isInstance->BM,entryFor_of_tree->LX,wpAny_getItem_of->TB,wpAny_askSetting->TA,wpAny_lookBehind->Tz,arm_eval_UnaryOp->Tx,typeLookup_type->jG,wpAny_specialOf->kU,arm_exec_Assign->Tr,pushCells_keeps->Tq,isSubtype_type->BK,wpAny_bindName->Tn,wpAny_loadPart->Tj,arm_eval_Tuple->Ti,wpAny_newTuple->Tg,wpAny_standAt->BI,wpAny_holding->Ga,wpAny_newList->S5,plainId_quiet->SY,wpAny_mkBytes->SX,callType_new->LD,sizeLine_eq->l8,wpAny_alloc->Lz,wpAny_of_eq->Ly,wpAny_field->Lw,wpAny_bind->bf,wpAny_pure->bW,wpAny_mono->pj,wpAny_rule->sm,wpAny_load->xc,wpAny_Name->Lr,Addr->ax,Value->av,Data->iu,FuncData->f6,Operator->ig,Const->d8,Expr->ay,Scope->b9,Stmt->aZ,NameKind->d7,World->dy,OsState->gH,Program->dx,Shared->aF,Flow->iR,Code->fi,Heap->bB,DictEntry->cI,Model->eD,Around->bF,Result->fp,wpAny->aO,Builtin->si
open Int renaming fdiv_eq_ediv_of_nonneg->acp,eq_ofNat_of_zero_le->X3,neg_mul_eq_neg_mul->XX,negSucc_lt_zero->Ua,natCast_nonneg->gw,sub_eq_add_neg->L8,add_left_comm->BQ,natCast_pos->Gi,natCast_add->Tt,max_eq_left->Ts,add_assoc->nQ,mul_assoc->Gb,ofNat_inj->LJ,ofNat_sub->LI,ofNat_lt->sA,ofNat_le->uO,le_of_lt->xf,add_comm->F9,zero_mul->LH,zero_add->SQ,mul_comm->SO,add_zero->SN,ne_of_gt->SH,le_refl->F8,mul_sub->LA,mul_add->SF,neg_mul->SD,not_lt->F4,not_le->Sy
open PySem.F renaming args_list_append_2->acn,entry_list_append->Yc,excBase_Exception->Yb,slot_list_append->X5,args_object_init_2->Sp,bm_typeCall->LM,bm_newCall->LC,bm_called->Lx,bm_entry->Ls,bm_bind->Lq,bm_sub->Lo
open Classical renaming byContradiction->Yd,byCases->ZW,em->ZS
open Decidable renaming byContradiction->X8
open PyProof.Rows renaming floordiv_int->acC,irshift_int->acz,lshift_int->acx,rshift_int->acw,truthy_int->acu,mod_int'->aco,and_int->Z1,neg_int->Z0,ior_int->ZZ,markedEach_of_false->T9,or_int->ZY
open PySem.SeqAt.RcNeAt renaming tuples->acB,lists->acA
open Lean.Omega.Int renaming ofNat_min->Tc,ofNat_max->X4
open Option renaming isSome_iff_exists->X6,bind_eq_some_iff->Su,map_eq_some_iff->yl,bind_some->pk,map_some->Gg,none->au,some->aa
open List.Perm renaming eq_of_pairwise->acy
open PySem.W.FB renaming args_bytes_getitem_2->X2,entry_bytes_getitem->XU,slot_bytes_getitem->Ny
open PySem.SeqAt.RcAt renaming tuples->acv,lists->acq
open PySem.Heap.UpToSlots renaming of_keeps->acs
open PySem.Heap renaming get?_push_of_some->jN,get?_update_other->I9,get?_update_self->Nw,get?_push_size->jg,size_push->LQ,lt_size->qw
open Array renaming getElem?_eq_none->XT,getElem?_toList->BA,mem_toList_iff->XI,toList_push->TN,any_toList->TC
open Bool renaming and_eq_true_iff->eU,or_eq_true_iff->nT,false_ne_true->cj,false_eq_true->T5,not_eq_true'->Gr,eq_iff_iff->Gk,and_false->LR,or_false->Ge,not_true->S_,and_true->S9,and_comm->SU,false->ao,true->ag
open _root_ renaming ne_true_of_eq_false->uT,of_decide_eq_false->Gw,decide_eq_true_iff->L7,of_decide_eq_true->ij,decide_eq_true_eq->L4,decide_eq_decide->kW,beq_self_eq_true->TF,decide_eq_false->dU,decide_eq_true->c9,bne_iff_ne->l7,beq_iff_eq->uM,congrArg->aW,dif_neg->da,if_pos->a8,if_neg->bb,List->ah,Bool->aj,Option->aC,UInt8->aA,String->b_,Array->bS,Decidable->cN,Unit->cR
open PySem.Code renaming quiet_builtin->T4
open PySem.Obj renaming data_mapFields->TX
open PySem.Calls renaming spliced_cons->TV
open PySem.Heap.IsSliceOf renaming new->ZX
open PySem.Str renaming length_append->L5
open Option.some renaming injEq->ZV,inj->eH
open PySem.W.KBmo renaming pre_take->SW
open List.cons renaming inj->SV
open PySem.W renaming typeIs_bytes->kT,hideAll_get->Lv,looks_nsIn->Lu,Frag->cW
open Nat.succ renaming inj->xd
open PySem.Sem renaming wp_bind'->SI,wp_mono->BD
open Prod.mk renaming inj->BB
open PySem.W.Looks renaming ld->Lp
open Ne renaming symm->l6
noncomputable def bJ:Nat:=0x11011020
noncomputable def dP:Nat:=0x10000
noncomputable def eI:Nat:=0x11011011030
noncomputable def hM:Nat:=0x11010
noncomputable def mD:Nat:=0x110110030001
noncomputable def oa:Nat:=0x10000000053001
noncomputable def oZ:Nat:=0x110011030011
noncomputable def pO:Nat:=0x20000
noncomputable def rG:Nat:=0x10001
noncomputable def rF:Nat:=0x8013001
noncomputable def lJ:Nat:=0x10200
noncomputable def lI:Nat:=0x100215324000
noncomputable def mn:Nat:=0x110020001
noncomputable def mm:Nat:=0x20104001
noncomputable def nB:Nat:=0x10023001
noncomputable def nA:Nat:=0xa2100
noncomputable def oI:Nat:=0x801003101
noncomputable def oH:Nat:=0x20104000
noncomputable def pT:Nat:=0x100000043000
noncomputable def pS:Nat:=0x10002
noncomputable def pR:Nat:=0x12104000
noncomputable def pQ:Nat:=0x1023
noncomputable def pP:Nat:=0x1000000000000000093001
noncomputable def qJ:Nat:=0xf424033000
noncomputable def qI:Nat:=0x20720
noncomputable def rL:Nat:=0x1100200110020001
noncomputable def rK:Nat:=0x100000043001
noncomputable def rJ:Nat:=0x22000
noncomputable def rI:Nat:=0x30000
noncomputable def rH:Nat:=0x121040215324000
noncomputable def tM:Nat:=0x20300
noncomputable def vO:Nat:=0x80130016
noncomputable def vN:Nat:=0x1101100040011001
noncomputable def vM:Nat:=0x10000102
noncomputable def vL:Nat:=0xc35023000
noncomputable def ya:Nat:=0x3e823000
noncomputable def x9:Nat:=0x11001103002
noncomputable def x8:Nat:=0x20100040
noncomputable def x7:Nat:=0x10200040
noncomputable def x6:Nat:=0x11011011011040
noncomputable def AV:Nat:=0xff130013
noncomputable def AU:Nat:=0x80130014
noncomputable def AS:Nat:=0x11001100050011001900050031011001
noncomputable def AR:Nat:=0x110110030
noncomputable def AQ:Nat:=0x10000103
noncomputable def AP:Nat:=0x11021011030
noncomputable def DB:Nat:=0x1101100300110190030001
noncomputable def DA:Nat:=0x11001103012
noncomputable def Iq:Nat:=0x40000000000000008300300400000000000000083837
noncomputable def Ip:Nat:=0x40000000000000000093001
noncomputable def Io:Nat:=0x140000000000000008383
noncomputable def Im:Nat:=0x4000000000000000830014
noncomputable def Il:Nat:=0x200215324000
noncomputable def Nb:Nat:=0x11000300110011004002011000300190011004002001
noncomputable def Na:Nat:=0x11011011030011001101104002
noncomputable def M':Nat:=0x1101101100050011001100050020190011011005001900110005002001
noncomputable def M_:Nat:=0x1101101100110500110011001105002011
noncomputable def RO:Nat:=0x4000000000000000830013001400000000000000083837
noncomputable def RN:Nat:=0x1101100040011001100050020110011004001900110005002001
theorem no {α:Type}{b:α}{P:Prop} (h:au=aa b):P:=nomatch h
theorem no' {α:Type}{b:α}{P:Prop} (h:aa b=au):P:=nomatch h
theorem nb {P:Prop} (h:ao=ag):P:=nomatch h
theorem nb' {P:Prop} (h:ag=ao):P:=nomatch h
noncomputable def Ak {α:Type}:ah α->Nat->α->α
 |[],_,d=>d
 |x::_,0,_=>x
 |_::r,n+1,d=>Ak r n d
inductive NT |v (i:Nat) |k (c:Nat) |add (a b:NT) |ml (c:Nat) (a:NT) |mr (a:NT) (c:Nat)
inductive ZT |v (i:Nat) |k (c:Nat) |add (a b:ZT) |sub (a b:ZT) |ml (c:Nat) (a:ZT) |mr (a:ZT) (c:Nat) |neg (a:ZT) |cast (a:NT)
inductive Pr |le (a b:NT) |lt (a b:NT) |eq (a b:NT) |W6 (a b:ZT) |UA (a b:ZT) |Xr (a b:ZT) |no (p:Pr) |an (p q:Pr) |or (p q:Pr) |im (p q:Pr) |iff (p q:Pr) |ff
inductive Df |sub (a b:NT) |dm (a:NT) (c:Nat) |min (a b:NT) |max (a b:NT) |nat (a:ZT)
inductive Ct |leaf (ms:ah Int) |cs (i:Nat) (l r:Ct) |df (j:Nat) (l r:Ct)
noncomputable def NT.den (n:Nat->Nat):NT->Nat
 |.v i=>n i |.k c=>c |.add a b=>a.den n+b.den n |.ml c a=>c*a.den n |.mr a c=>a.den n*c
noncomputable def ZT.den (n:Nat->Nat) (z:Nat->Int):ZT->Int
 |.v i=>z i |.k c=>Int.ofNat c |.add a b=>a.den n z+b.den n z |.sub a b=>a.den n z-b.den n z |.ml c a=>Int.ofNat c*a.den n z |.mr a c=>a.den n z*Int.ofNat c |.neg a=>-a.den n z |.cast a=>((a.den n:Nat):Int)
def Pr.den (n:Nat->Nat) (z:Nat->Int):Pr->Prop
 |.le a b=>a.den n<=b.den n |.lt a b=>a.den n < b.den n |.eq a b=>a.den n=b.den n
 |.W6 a b=>a.den n z<=b.den n z |.UA a b=>a.den n z < b.den n z |.Xr a b=>a.den n z=b.den n z
 |.no p=>¬ p.den n z |.an p q=>p.den n z/\q.den n z |.or p q=>p.den n z∨q.den n z |.im p q=>p.den n z->q.den n z |.iff p q=>(p.den n z↔q.den n z) |.ff=>False
noncomputable def Df.d1 (n:Nat->Nat) (z:Nat->Int):Df->Nat
 |.sub a b=>a.den n-b.den n |.dm a c=>a.den n / c |.min a b=>Min.min (a.den n) (b.den n) |.max a b=>Max.max (a.den n) (b.den n) |.nat a=>(a.den n z).toNat
noncomputable def Df.d2 (n:Nat->Nat):Df->Nat
 |.dm a c=>a.den n % c |_=>0
noncomputable def upd (n:Nat->Nat) (b x y:Nat) (i:Nat):Nat:=cond (Nat.beq i b) x (cond (Nat.beq i (b+1)) y (n i))
noncomputable def ext (z:Nat->Int):ah Df->(Nat->Nat)->Nat->Nat->Nat
 |[],n,_=>n
 |d::r,n,b=>ext z r (upd n b (d.d1 n z) (d.d2 n)) (b+2)
noncomputable def NT.lt (b:Nat):NT->aj
 |.v i=>Nat.blt i b |.k _=>ag |.add x y=>x.lt b&&y.lt b |.ml _ a=>a.lt b |.mr a _=>a.lt b
noncomputable def ZT.lt (b:Nat):ZT->aj
 |.v _=>ag |.k _=>ag |.add x y=>x.lt b&&y.lt b |.sub x y=>x.lt b&&y.lt b |.ml _ a=>a.lt b |.mr a _=>a.lt b |.neg a=>a.lt b |.cast a=>a.lt b
noncomputable def Df.ok (b:Nat):Df->aj
 |.sub x y=>x.lt b&&y.lt b |.dm a c=>a.lt b&&Nat.blt 0 c |.min x y=>x.lt b&&y.lt b |.max x y=>x.lt b&&y.lt b |.nat a=>a.lt b
noncomputable def RC:ah Df->Nat->aj
 |[],_=>ag
 |d::r,b=>d.ok b&&RC r (b+2)
structure PL where
 c:Int
 n:ah Int
 z:ah Int
noncomputable def wh:ah Int->Nat->Int->ah Int
 |[],0,m=>[m] |[],i+1,m=>0::wh [] i m |x::r,0,m=>(x+m)::r |x::r,i+1,m=>x::wh r i m
noncomputable def NT.acc:NT->Int->PL->PL
 |.v i,m,p=>⟨p.c,wh p.n i m,p.z⟩ |.k c,m,p=>⟨p.c+m*Int.ofNat c,p.n,p.z⟩ |.add a b,m,p=>a.acc m (b.acc m p) |.ml c a,m,p=>a.acc (m*Int.ofNat c) p |.mr a c,m,p=>a.acc (m*Int.ofNat c) p
noncomputable def ZT.acc:ZT->Int->PL->PL
 |.v i,m,p=>⟨p.c,p.n,wh p.z i m⟩ |.k c,m,p=>⟨p.c+m*Int.ofNat c,p.n,p.z⟩ |.add a b,m,p=>a.acc m (b.acc m p) |.sub a b,m,p=>a.acc m (b.acc (-m) p) |.ml c a,m,p=>a.acc (m*Int.ofNat c) p |.mr a c,m,p=>a.acc (m*Int.ofNat c) p
 |.neg a,m,p=>a.acc (-m) p |.cast a,m,p=>a.acc m p
noncomputable def dot (f:Nat->Int):Nat->ah Int->Int
 |_,[]=>0 |s,c::r=>c*f s+dot f (s+1) r
noncomputable def PL.den (n:Nat->Nat) (z:Nat->Int) (p:PL):Int:=p.c+(dot (fun i=>(n i:Int)) 0 p.n+dot z 0 p.z)
noncomputable def PL.con (p:PL) (m:Int):PL:=⟨p.c+m,p.n,p.z⟩
noncomputable def clip:Int->Int
 |.ofNat m=>.ofNat m |.negSucc _=>0
noncomputable def Pk:aj->Pr->Int->PL->PL
 |true,.le x y,m,q=>y.acc (clip m) (x.acc (-clip m) q)
 |true,.lt x y,m,q=>(y.acc (clip m) (x.acc (-clip m) q)).con (-clip m)
 |true,.eq x y,m,q=>y.acc m (x.acc (-m) q)
 |true,.W6 x y,m,q=>y.acc (clip m) (x.acc (-clip m) q)
 |true,.UA x y,m,q=>(y.acc (clip m) (x.acc (-clip m) q)).con (-clip m)
 |true,.Xr x y,m,q=>y.acc m (x.acc (-m) q)
 |false,.le x y,m,q=>(x.acc (clip m) (y.acc (-clip m) q)).con (-clip m)
 |false,.lt x y,m,q=>x.acc (clip m) (y.acc (-clip m) q)
 |false,.W6 x y,m,q=>(x.acc (clip m) (y.acc (-clip m) q)).con (-clip m)
 |false,.UA x y,m,q=>x.acc (clip m) (y.acc (-clip m) q)
 |_,_,_,q=>q
abbrev Fs:=ah (aj×Pr)
noncomputable def Q4:ah Int->Fs->PL->PL
 |m::ms,f::fs,q=>Q4 ms fs (Pk f.1 f.2 m q)
 |_,_,q=>q
noncomputable def isNeg:Int->aj
 |.negSucc _=>ag |.ofNat _=>ao
noncomputable def YZ:Int->aj
 |.negSucc _=>ag |.ofNat m=>Nat.beq m 0
noncomputable def isZ:Int->aj
 |.negSucc _=>ao |.ofNat m=>Nat.beq m 0
noncomputable def allI (f:Int->aj):ah Int->aj
 |[]=>ag |x::r=>f x&&allI f r
noncomputable def PL.bad (q:PL):aj:=isNeg q.c&&(allI YZ q.n&&allI isZ q.z)
noncomputable def brs:aj->Pr->Fs×aC Fs
 |true,.or p q=>([(ag,p)],aa [(ag,q)])
 |true,.im p q=>([(ao,p)],aa [(ag,q)])
 |true,.an p q=>([(ag,p),(ag,q)],au)
 |true,.iff p q=>([(ag,p),(ag,q)],aa [(ao,p),(ao,q)])
 |true,.no p=>([(ao,p)],au)
 |false,.no p=>([(ag,p)],au)
 |false,.an p q=>([(ao,p)],aa [(ao,q)])
 |false,.or p q=>([(ao,p),(ao,q)],au)
 |false,.im p q=>([(ag,p),(ao,q)],au)
 |false,.iff p q=>([(ag,p),(ao,q)],aa [(ao,p),(ag,q)])
 |false,.eq a b=>([(ag,.lt a b)],aa [(ag,.lt b a)])
 |false,.Xr a b=>([(ag,.UA a b)],aa [(ag,.UA b a)])
 |_,_=>([],au)
noncomputable def Df.brs (w:Nat):Df->Fs×aC Fs
 |.sub a b=>([(ag,.le b a),(ag,.eq a (.add (.v w) b))],aa [(ag,.lt a b),(ag,.eq (.v w) (.k 0))])
 |.dm a c=>([(ag,.eq a (.add (.ml c (.v w)) (.v (w+1)))),(ag,.lt (.v (w+1)) (.k c))],au)
 |.min a b=>([(ag,.le a b),(ag,.eq (.v w) a)],aa [(ag,.le b a),(ag,.eq (.v w) b)])
 |.max a b=>([(ag,.le a b),(ag,.eq (.v w) b)],aa [(ag,.le b a),(ag,.eq (.v w) a)])
 |.nat a=>([(ag,.W6 (.k 0) a),(ag,.Xr (.cast (.v w)) a)],aa [(ag,.UA a (.k 0)),(ag,.eq (.v w) (.k 0))])
noncomputable def two (x:Fs×aC Fs) (G:Fs) (l r:Fs->aj):aj:=match x with
 |(a,au)=>l (G++a)
 |(a,aa b)=>l (G++a)&&r (G++b)
noncomputable def dAt:aC Df->Nat->Fs×aC Fs
 |some d,w=>d.brs w
 |none,_=>([],au)
noncomputable def Ct.ok (D:ah Df) (b:Nat):Ct->Fs->aj
 |.leaf ms,G=>(Q4 ms G ⟨0,[],[]⟩).bad
 |.cs i l r,G=>match Ak G i (ag,.ff) with
  |(t,p)=>two (Mine.brs t p) G (l.ok D b) (r.ok D b)
 |.df j l r,G=>two (dAt D[j]? (b+2*j)) G (l.ok D b) (r.ok D b)
open PySem
set_option genCtorIdx true in
inductive Bo |add |sub |mul |fdiv |mod |band |bor |shl |shr |bxor
set_option genCtorIdx true in
inductive Co |eq |ne |lt |le |gt |ge |is_ |lH
set_option genCtorIdx true in
inductive Bi |len |bytes |bytearray |min |max |sum |sorted |tuple |str |all
set_option genCtorIdx true in
inductive Vx (Nm Cn:Type)
 |none |bool (b:aj) |int (i:Int) |str (s:Str) |bytes (b:ah aA)
 |tup (xs:ah (Vx Nm Cn)) |bE (xs:ah (Vx Nm Cn)) |obj (C:Cn) (fs:ah (Nm×Vx Nm Cn)) |ref (a:ax)
structure Nm where
 n:Nat
 h:Nat.ble n 190=ag
 deriving DecidableEq
namespace Nm
noncomputable def xn:Nm:=⟨0,@rfl aj ag⟩
noncomputable def zJ:Nm:=⟨1,@rfl aj ag⟩
noncomputable def kB:Nm:=⟨2,@rfl aj ag⟩
noncomputable def dg:Nm:=⟨3,@rfl aj ag⟩
noncomputable def dX:Nm:=⟨4,@rfl aj ag⟩
noncomputable def wt:Nm:=⟨5,@rfl aj ag⟩
noncomputable def jR:Nm:=⟨6,@rfl aj ag⟩
noncomputable def Pu:Nm:=⟨7,@rfl aj ag⟩
noncomputable def bq:Nm:=⟨8,@rfl aj ag⟩
noncomputable def oP:Nm:=⟨9,@rfl aj ag⟩
noncomputable def u5:Nm:=⟨10,@rfl aj ag⟩
noncomputable def u6:Nm:=⟨11,@rfl aj ag⟩
noncomputable def eK:Nm:=⟨12,@rfl aj ag⟩
noncomputable def cM:Nm:=⟨13,@rfl aj ag⟩
noncomputable def uh:Nm:=⟨14,@rfl aj ag⟩
noncomputable def iM:Nm:=⟨15,@rfl aj ag⟩
noncomputable def aG:Nm:=⟨16,@rfl aj ag⟩
noncomputable def xb:Nm:=⟨17,@rfl aj ag⟩
noncomputable def xJ:Nm:=⟨18,@rfl aj ag⟩
noncomputable def fX:Nm:=⟨19,@rfl aj ag⟩
noncomputable def jS:Nm:=⟨20,@rfl aj ag⟩
noncomputable def wx:Nm:=⟨21,@rfl aj ag⟩
noncomputable def NK:Nm:=⟨22,@rfl aj ag⟩
noncomputable def dB:Nm:=⟨23,@rfl aj ag⟩
noncomputable def eJ:Nm:=⟨24,@rfl aj ag⟩
noncomputable def bO:Nm:=⟨25,@rfl aj ag⟩
noncomputable def cp:Nm:=⟨26,@rfl aj ag⟩
noncomputable def gA:Nm:=⟨27,@rfl aj ag⟩
noncomputable def WL:Nm:=⟨28,@rfl aj ag⟩
noncomputable def gz:Nm:=⟨29,@rfl aj ag⟩
noncomputable def fZ:Nm:=⟨30,@rfl aj ag⟩
noncomputable def jJ:Nm:=⟨31,@rfl aj ag⟩
noncomputable def qE:Nm:=⟨32,@rfl aj ag⟩
noncomputable def q6:Nm:=⟨33,@rfl aj ag⟩
noncomputable def jj:Nm:=⟨34,@rfl aj ag⟩
noncomputable def xK:Nm:=⟨35,@rfl aj ag⟩
noncomputable def D0:Nm:=⟨36,@rfl aj ag⟩
noncomputable def lA:Nm:=⟨37,@rfl aj ag⟩
noncomputable def aS:Nm:=⟨38,@rfl aj ag⟩
noncomputable def jQ:Nm:=⟨39,@rfl aj ag⟩
noncomputable def oj:Nm:=⟨40,@rfl aj ag⟩
noncomputable def h_:Nm:=⟨41,@rfl aj ag⟩
noncomputable def kZ:Nm:=⟨42,@rfl aj ag⟩
noncomputable def iU:Nm:=⟨43,@rfl aj ag⟩
noncomputable def iT:Nm:=⟨44,@rfl aj ag⟩
noncomputable def eO:Nm:=⟨45,@rfl aj ag⟩
noncomputable def gE:Nm:=⟨46,@rfl aj ag⟩
noncomputable def x_:Nm:=⟨47,@rfl aj ag⟩
noncomputable def dq:Nm:=⟨48,@rfl aj ag⟩
noncomputable def CY:Nm:=⟨49,@rfl aj ag⟩
noncomputable def qZ:Nm:=⟨50,@rfl aj ag⟩
noncomputable def cO:Nm:=⟨51,@rfl aj ag⟩
noncomputable def wy:Nm:=⟨52,@rfl aj ag⟩
noncomputable def q0:Nm:=⟨53,@rfl aj ag⟩
noncomputable def cD:Nm:=⟨54,@rfl aj ag⟩
noncomputable def bU:Nm:=⟨55,@rfl aj ag⟩
noncomputable def ip:Nm:=⟨56,@rfl aj ag⟩
noncomputable def eg:Nm:=⟨57,@rfl aj ag⟩
noncomputable def zG:Nm:=⟨58,@rfl aj ag⟩
noncomputable def zF:Nm:=⟨59,@rfl aj ag⟩
noncomputable def Px:Nm:=⟨60,@rfl aj ag⟩
noncomputable def dA:Nm:=⟨61,@rfl aj ag⟩
noncomputable def qX:Nm:=⟨62,@rfl aj ag⟩
noncomputable def xG:Nm:=⟨63,@rfl aj ag⟩
noncomputable def B_:Nm:=⟨64,@rfl aj ag⟩
noncomputable def CV:Nm:=⟨65,@rfl aj ag⟩
noncomputable def cn:Nm:=⟨66,@rfl aj ag⟩
noncomputable def iB:Nm:=⟨67,@rfl aj ag⟩
noncomputable def de:Nm:=⟨68,@rfl aj ag⟩
noncomputable def qa:Nm:=⟨69,@rfl aj ag⟩
noncomputable def xi:Nm:=⟨70,@rfl aj ag⟩
noncomputable def WM:Nm:=⟨71,@rfl aj ag⟩
noncomputable def mU:Nm:=⟨72,@rfl aj ag⟩
noncomputable def xk:Nm:=⟨73,@rfl aj ag⟩
noncomputable def cZ:Nm:=⟨74,@rfl aj ag⟩
noncomputable def cJ:Nm:=⟨75,@rfl aj ag⟩
noncomputable def lQ:Nm:=⟨76,@rfl aj ag⟩
noncomputable def qV:Nm:=⟨77,@rfl aj ag⟩
noncomputable def qb:Nm:=⟨78,@rfl aj ag⟩
noncomputable def CU:Nm:=⟨79,@rfl aj ag⟩
noncomputable def cV:Nm:=⟨80,@rfl aj ag⟩
noncomputable def fB:Nm:=⟨81,@rfl aj ag⟩
noncomputable def fN:Nm:=⟨82,@rfl aj ag⟩
noncomputable def b5:Nm:=⟨83,@rfl aj ag⟩
noncomputable def d9:Nm:=⟨84,@rfl aj ag⟩
noncomputable def u0:Nm:=⟨85,@rfl aj ag⟩
noncomputable def xI:Nm:=⟨86,@rfl aj ag⟩
noncomputable def Js:Nm:=⟨87,@rfl aj ag⟩
noncomputable def GO:Nm:=⟨88,@rfl aj ag⟩
noncomputable def xt:Nm:=⟨89,@rfl aj ag⟩
noncomputable def lz:Nm:=⟨90,@rfl aj ag⟩
noncomputable def sN:Nm:=⟨91,@rfl aj ag⟩
noncomputable def fY:Nm:=⟨92,@rfl aj ag⟩
noncomputable def px:Nm:=⟨93,@rfl aj ag⟩
noncomputable def qW:Nm:=⟨94,@rfl aj ag⟩
noncomputable def ug:Nm:=⟨95,@rfl aj ag⟩
noncomputable def u3:Nm:=⟨96,@rfl aj ag⟩
noncomputable def ly:Nm:=⟨97,@rfl aj ag⟩
noncomputable def xe:Nm:=⟨98,@rfl aj ag⟩
noncomputable def p_:Nm:=⟨99,@rfl aj ag⟩
noncomputable def Yn:Nm:=⟨100,@rfl aj ag⟩
noncomputable def oo:Nm:=⟨101,@rfl aj ag⟩
noncomputable def kC:Nm:=⟨102,@rfl aj ag⟩
noncomputable def CW:Nm:=⟨103,@rfl aj ag⟩
noncomputable def Jp:Nm:=⟨104,@rfl aj ag⟩
noncomputable def C0:Nm:=⟨105,@rfl aj ag⟩
noncomputable def mz:Nm:=⟨106,@rfl aj ag⟩
noncomputable def pw:Nm:=⟨107,@rfl aj ag⟩
noncomputable def dC:Nm:=⟨108,@rfl aj ag⟩
noncomputable def zL:Nm:=⟨109,@rfl aj ag⟩
noncomputable def jU:Nm:=⟨110,@rfl aj ag⟩
noncomputable def fR:Nm:=⟨111,@rfl aj ag⟩
noncomputable def gC:Nm:=⟨112,@rfl aj ag⟩
noncomputable def gM:Nm:=⟨113,@rfl aj ag⟩
noncomputable def lR:Nm:=⟨114,@rfl aj ag⟩
noncomputable def xH:Nm:=⟨115,@rfl aj ag⟩
noncomputable def UH:Nm:=⟨116,@rfl aj ag⟩
noncomputable def mT:Nm:=⟨117,@rfl aj ag⟩
noncomputable def GQ:Nm:=⟨118,@rfl aj ag⟩
noncomputable def za:Nm:=⟨119,@rfl aj ag⟩
noncomputable def GR:Nm:=⟨120,@rfl aj ag⟩
noncomputable def D6:Nm:=⟨121,@rfl aj ag⟩
noncomputable def d':Nm:=⟨122,@rfl aj ag⟩
noncomputable def uf:Nm:=⟨123,@rfl aj ag⟩
noncomputable def uY:Nm:=⟨124,@rfl aj ag⟩
noncomputable def uZ:Nm:=⟨125,@rfl aj ag⟩
noncomputable def xE:Nm:=⟨126,@rfl aj ag⟩
noncomputable def hZ:Nm:=⟨127,@rfl aj ag⟩
noncomputable def jT:Nm:=⟨128,@rfl aj ag⟩
noncomputable def u9:Nm:=⟨129,@rfl aj ag⟩
noncomputable def xD:Nm:=⟨130,@rfl aj ag⟩
noncomputable def CZ:Nm:=⟨131,@rfl aj ag⟩
noncomputable def u7:Nm:=⟨132,@rfl aj ag⟩
noncomputable def WO:Nm:=⟨133,@rfl aj ag⟩
noncomputable def CX:Nm:=⟨134,@rfl aj ag⟩
noncomputable def sM:Nm:=⟨135,@rfl aj ag⟩
noncomputable def iL:Nm:=⟨136,@rfl aj ag⟩
noncomputable def lB:Nm:=⟨137,@rfl aj ag⟩
noncomputable def Pz:Nm:=⟨138,@rfl aj ag⟩
noncomputable def i8:Nm:=⟨139,@rfl aj ag⟩
noncomputable def f9:Nm:=⟨140,@rfl aj ag⟩
noncomputable def mV:Nm:=⟨141,@rfl aj ag⟩
noncomputable def xw:Nm:=⟨142,@rfl aj ag⟩
noncomputable def fw:Nm:=⟨143,@rfl aj ag⟩
noncomputable def aaP:Nm:=⟨144,@rfl aj ag⟩
noncomputable def km:Nm:=⟨145,@rfl aj ag⟩
noncomputable def u1:Nm:=⟨146,@rfl aj ag⟩
noncomputable def cx:Nm:=⟨147,@rfl aj ag⟩
noncomputable def iG:Nm:=⟨148,@rfl aj ag⟩
noncomputable def iA:Nm:=⟨149,@rfl aj ag⟩
noncomputable def qG:Nm:=⟨150,@rfl aj ag⟩
noncomputable def wu:Nm:=⟨151,@rfl aj ag⟩
noncomputable def xlog:Nm:=⟨152,@rfl aj ag⟩
noncomputable def qY:Nm:=⟨153,@rfl aj ag⟩
noncomputable def iq:Nm:=⟨154,@rfl aj ag⟩
noncomputable def xlast:Nm:=⟨155,@rfl aj ag⟩
noncomputable def zK:Nm:=⟨156,@rfl aj ag⟩
noncomputable def qD:Nm:=⟨157,@rfl aj ag⟩
noncomputable def u4:Nm:=⟨158,@rfl aj ag⟩
noncomputable def ji:Nm:=⟨159,@rfl aj ag⟩
noncomputable def xr:Nm:=⟨160,@rfl aj ag⟩
noncomputable def Yo:Nm:=⟨161,@rfl aj ag⟩
noncomputable def tE:Nm:=⟨162,@rfl aj ag⟩
noncomputable def pv:Nm:=⟨163,@rfl aj ag⟩
noncomputable def zE:Nm:=⟨164,@rfl aj ag⟩
noncomputable def mW:Nm:=⟨165,@rfl aj ag⟩
noncomputable def tF:Nm:=⟨166,@rfl aj ag⟩
noncomputable def mR:Nm:=⟨167,@rfl aj ag⟩
noncomputable def om:Nm:=⟨168,@rfl aj ag⟩
noncomputable def mX:Nm:=⟨169,@rfl aj ag⟩
noncomputable def kA:Nm:=⟨170,@rfl aj ag⟩
noncomputable def Py:Nm:=⟨171,@rfl aj ag⟩
noncomputable def oq:Nm:=⟨172,@rfl aj ag⟩
noncomputable def cq:Nm:=⟨173,@rfl aj ag⟩
noncomputable def xF:Nm:=⟨174,@rfl aj ag⟩
noncomputable def u2:Nm:=⟨175,@rfl aj ag⟩
noncomputable def Pw:Nm:=⟨176,@rfl aj ag⟩
noncomputable def Ym:Nm:=⟨177,@rfl aj ag⟩
noncomputable def zH:Nm:=⟨178,@rfl aj ag⟩
noncomputable def Jq:Nm:=⟨179,@rfl aj ag⟩
noncomputable def Mf:Nm:=⟨180,@rfl aj ag⟩
noncomputable def zI:Nm:=⟨181,@rfl aj ag⟩
noncomputable def D5:Nm:=⟨182,@rfl aj ag⟩
noncomputable def xx:Nm:=⟨183,@rfl aj ag⟩
noncomputable def xy:Nm:=⟨184,@rfl aj ag⟩
noncomputable def xz:Nm:=⟨185,@rfl aj ag⟩
noncomputable def qF:Nm:=⟨186,@rfl aj ag⟩
noncomputable def NJ:Nm:=⟨187,@rfl aj ag⟩
noncomputable def NL:Nm:=⟨188,@rfl aj ag⟩
noncomputable def GP:Nm:=⟨189,@rfl aj ag⟩
noncomputable def aaQ:Nm:=⟨190,@rfl aj ag⟩
end Nm
structure Cn where
 n:Nat
 h:Nat.ble n 23=ag
 deriving DecidableEq
namespace Cn
noncomputable def Cursor:Cn:=⟨0,@rfl aj ag⟩
noncomputable def Sink:Cn:=⟨1,@rfl aj ag⟩
noncomputable def Entry:Cn:=⟨2,@rfl aj ag⟩
noncomputable def fQ:Cn:=⟨3,@rfl aj ag⟩
noncomputable def hJ:Cn:=⟨4,@rfl aj ag⟩
noncomputable def Snapshot:Cn:=⟨5,@rfl aj ag⟩
noncomputable def iY:Cn:=⟨6,@rfl aj ag⟩
noncomputable def iz:Cn:=⟨7,@rfl aj ag⟩
noncomputable def j':Cn:=⟨8,@rfl aj ag⟩
noncomputable def wk:Cn:=⟨9,@rfl aj ag⟩
noncomputable def jP:Cn:=⟨10,@rfl aj ag⟩
noncomputable def xC:Cn:=⟨11,@rfl aj ag⟩
noncomputable def gy:Cn:=⟨12,@rfl aj ag⟩
noncomputable def qC:Cn:=⟨13,@rfl aj ag⟩
noncomputable def eT:Cn:=⟨14,@rfl aj ag⟩
noncomputable def gJ:Cn:=⟨15,@rfl aj ag⟩
noncomputable def i7:Cn:=⟨16,@rfl aj ag⟩
noncomputable def kX:Cn:=⟨17,@rfl aj ag⟩
noncomputable def kY:Cn:=⟨18,@rfl aj ag⟩
noncomputable def hU:Cn:=⟨19,@rfl aj ag⟩
noncomputable def t7:Cn:=⟨20,@rfl aj ag⟩
noncomputable def GB:Cn:=⟨21,@rfl aj ag⟩
noncomputable def BZ:Cn:=⟨22,@rfl aj ag⟩
noncomputable def jx:Cn:=⟨23,@rfl aj ag⟩
end Cn
structure Fn where
 n:Nat
 h:Nat.ble n 112=ag
 deriving DecidableEq
namespace Fn
noncomputable def qc:Fn:=⟨0,@rfl aj ag⟩
noncomputable def rf:Fn:=⟨1,@rfl aj ag⟩
noncomputable def zZ:Fn:=⟨2,@rfl aj ag⟩
noncomputable def ou:Fn:=⟨3,@rfl aj ag⟩
noncomputable def vp:Fn:=⟨4,@rfl aj ag⟩
noncomputable def k_:Fn:=⟨5,@rfl aj ag⟩
noncomputable def ix:Fn:=⟨6,@rfl aj ag⟩
noncomputable def rg:Fn:=⟨7,@rfl aj ag⟩
noncomputable def jW:Fn:=⟨8,@rfl aj ag⟩
noncomputable def tH:Fn:=⟨9,@rfl aj ag⟩
noncomputable def checksum:Fn:=⟨10,@rfl aj ag⟩
noncomputable def jB:Fn:=⟨11,@rfl aj ag⟩
noncomputable def yn:Fn:=⟨12,@rfl aj ag⟩
noncomputable def jz:Fn:=⟨13,@rfl aj ag⟩
noncomputable def qP:Fn:=⟨14,@rfl aj ag⟩
noncomputable def yo:Fn:=⟨15,@rfl aj ag⟩
noncomputable def yp:Fn:=⟨16,@rfl aj ag⟩
noncomputable def t9:Fn:=⟨17,@rfl aj ag⟩
noncomputable def ym:Fn:=⟨18,@rfl aj ag⟩
noncomputable def t8:Fn:=⟨19,@rfl aj ag⟩
noncomputable def BV:Fn:=⟨20,@rfl aj ag⟩
noncomputable def DW:Fn:=⟨21,@rfl aj ag⟩
noncomputable def DX:Fn:=⟨22,@rfl aj ag⟩
noncomputable def rising:Fn:=⟨23,@rfl aj ag⟩
noncomputable def zM:Fn:=⟨24,@rfl aj ag⟩
noncomputable def sJ:Fn:=⟨25,@rfl aj ag⟩
noncomputable def DZ:Fn:=⟨26,@rfl aj ag⟩
noncomputable def B6:Fn:=⟨27,@rfl aj ag⟩
noncomputable def vE:Fn:=⟨28,@rfl aj ag⟩
noncomputable def vI:Fn:=⟨29,@rfl aj ag⟩
noncomputable def kN:Fn:=⟨30,@rfl aj ag⟩
noncomputable def n9:Fn:=⟨31,@rfl aj ag⟩
noncomputable def uc:Fn:=⟨32,@rfl aj ag⟩
noncomputable def sI:Fn:=⟨33,@rfl aj ag⟩
noncomputable def n_:Fn:=⟨34,@rfl aj ag⟩
noncomputable def ue:Fn:=⟨35,@rfl aj ag⟩
noncomputable def sS:Fn:=⟨36,@rfl aj ag⟩
noncomputable def pz:Fn:=⟨37,@rfl aj ag⟩
noncomputable def x4:Fn:=⟨38,@rfl aj ag⟩
noncomputable def x5:Fn:=⟨39,@rfl aj ag⟩
noncomputable def oL:Fn:=⟨40,@rfl aj ag⟩
noncomputable def oF:Fn:=⟨41,@rfl aj ag⟩
noncomputable def j7:Fn:=⟨42,@rfl aj ag⟩
noncomputable def oG:Fn:=⟨43,@rfl aj ag⟩
noncomputable def kr:Fn:=⟨44,@rfl aj ag⟩
noncomputable def eS:Fn:=⟨45,@rfl aj ag⟩
noncomputable def ik:Fn:=⟨46,@rfl aj ag⟩
noncomputable def ka:Fn:=⟨47,@rfl aj ag⟩
noncomputable def jH:Fn:=⟨48,@rfl aj ag⟩
noncomputable def jt:Fn:=⟨49,@rfl aj ag⟩
noncomputable def kh:Fn:=⟨50,@rfl aj ag⟩
noncomputable def ja:Fn:=⟨51,@rfl aj ag⟩
noncomputable def jw:Fn:=⟨52,@rfl aj ag⟩
noncomputable def hW:Fn:=⟨53,@rfl aj ag⟩
noncomputable def kz:Fn:=⟨54,@rfl aj ag⟩
noncomputable def kg:Fn:=⟨55,@rfl aj ag⟩
noncomputable def lN:Fn:=⟨56,@rfl aj ag⟩
noncomputable def iw:Fn:=⟨57,@rfl aj ag⟩
noncomputable def oK:Fn:=⟨58,@rfl aj ag⟩
noncomputable def lL:Fn:=⟨59,@rfl aj ag⟩
noncomputable def mw:Fn:=⟨60,@rfl aj ag⟩
noncomputable def mv:Fn:=⟨61,@rfl aj ag⟩
noncomputable def uU:Fn:=⟨62,@rfl aj ag⟩
noncomputable def iv:Fn:=⟨63,@rfl aj ag⟩
noncomputable def t6:Fn:=⟨64,@rfl aj ag⟩
noncomputable def p9:Fn:=⟨65,@rfl aj ag⟩
noncomputable def mx:Fn:=⟨66,@rfl aj ag⟩
noncomputable def nV:Fn:=⟨67,@rfl aj ag⟩
noncomputable def oN:Fn:=⟨68,@rfl aj ag⟩
noncomputable def wj:Fn:=⟨69,@rfl aj ag⟩
noncomputable def nU:Fn:=⟨70,@rfl aj ag⟩
noncomputable def lM:Fn:=⟨71,@rfl aj ag⟩
noncomputable def sG:Fn:=⟨72,@rfl aj ag⟩
noncomputable def ky:Fn:=⟨73,@rfl aj ag⟩
noncomputable def oO:Fn:=⟨74,@rfl aj ag⟩
noncomputable def nW:Fn:=⟨75,@rfl aj ag⟩
noncomputable def oM:Fn:=⟨76,@rfl aj ag⟩
noncomputable def ju:Fn:=⟨77,@rfl aj ag⟩
noncomputable def jv:Fn:=⟨78,@rfl aj ag⟩
noncomputable def jO:Fn:=⟨79,@rfl aj ag⟩
noncomputable def p8:Fn:=⟨80,@rfl aj ag⟩
noncomputable def kc:Fn:=⟨81,@rfl aj ag⟩
noncomputable def y9:Fn:=⟨82,@rfl aj ag⟩
noncomputable def my:Fn:=⟨83,@rfl aj ag⟩
noncomputable def t_:Fn:=⟨84,@rfl aj ag⟩
noncomputable def rO:Fn:=⟨85,@rfl aj ag⟩
noncomputable def uB:Fn:=⟨86,@rfl aj ag⟩
noncomputable def oV:Fn:=⟨87,@rfl aj ag⟩
noncomputable def nY:Fn:=⟨88,@rfl aj ag⟩
noncomputable def ua:Fn:=⟨89,@rfl aj ag⟩
noncomputable def ub:Fn:=⟨90,@rfl aj ag⟩
noncomputable def nZ:Fn:=⟨91,@rfl aj ag⟩
noncomputable def lO:Fn:=⟨92,@rfl aj ag⟩
noncomputable def jI:Fn:=⟨93,@rfl aj ag⟩
noncomputable def ki:Fn:=⟨94,@rfl aj ag⟩
noncomputable def xU:Fn:=⟨95,@rfl aj ag⟩
noncomputable def pG:Fn:=⟨96,@rfl aj ag⟩
noncomputable def vA:Fn:=⟨97,@rfl aj ag⟩
noncomputable def rx:Fn:=⟨98,@rfl aj ag⟩
noncomputable def j6:Fn:=⟨99,@rfl aj ag⟩
noncomputable def mB:Fn:=⟨100,@rfl aj ag⟩
noncomputable def sZ:Fn:=⟨101,@rfl aj ag⟩
noncomputable def ET:Fn:=⟨102,@rfl aj ag⟩
noncomputable def ql:Fn:=⟨103,@rfl aj ag⟩
noncomputable def nt:Fn:=⟨104,@rfl aj ag⟩
noncomputable def HO:Fn:=⟨105,@rfl aj ag⟩
noncomputable def ru:Fn:=⟨106,@rfl aj ag⟩
noncomputable def wQ:Fn:=⟨107,@rfl aj ag⟩
noncomputable def zt:Fn:=⟨108,@rfl aj ag⟩
noncomputable def Au:Fn:=⟨109,@rfl aj ag⟩
noncomputable def lG:Fn:=⟨110,@rfl aj ag⟩
noncomputable def Av:Fn:=⟨111,@rfl aj ag⟩
noncomputable def law:Fn:=⟨112,@rfl aj ag⟩
end Fn
noncomputable def eF {α:Type}:ah (Nm×α)->Nm->aC α
 |[],_=>Option.none
 |(k,v)::r,f=>if k=f then aa v else eF r f
noncomputable def QR:ah b_:=[
 "n","most","out","append","at","shift","octets","turn","data","octet","MAX_64","MAX_32",
 "count","kind","CHECK_CRC","CHECK_SUM","self","b","left","parts","extend","nid","ids","cursor",
 "varint","term","index","length","head","sink","entry","lengthed","done","ENTRY_CONF","ENTRY_NORMAL","body",
 "total","kept","entries","size","vote","commit","voters","learners","outgoing","learners_next","auto_leave","_",
 "conf","flag","RW_HARD","hard","RW_ENTRY","RW_FOLD","base_index","base_term","pending","record","take_fold","take_hard",
 "stand","place","begin","snap","lo","hi","last_index","first","first_index","limit","i","copy",
 "start","k","snapshot","offset","found","maybe_term","after","part","storage","max_committed","unstable","committed",
 "applied","maybe_first","maybe_last","known","term_at","t","match_term","log_term","newest","conflict","find_conflict","commit_to",
 "before","truncate_and_append","e","stable_to","empty","pending_snapshot","first_unapplied","has_next","slice","NO_LIMIT","end","entries_between",
 "block","MAX_BLOCK","HEADER","check","file","begun","ended","room","put","upto","LAST","MIDDLE",
 "FULL","FIRST","block_end","short","skipped","reasons","torn","good_length","breaks","AT_END","turn_block","drop",
 "BROKEN","ZERO","fragment","reader","records","good","read","nums","rows","row","w","writer",
 "add","ends","closing","base","synced","saves","apply_snapshot","set_hard","log","applied_to","now","last",
 "last_term","next_committed","all_entries","lead","r","cut","sure","sent","want","apart","maybe_append","waits",
 "unstable_entries","acked","whole","save","closed","state","take","check_whole","told","was","refused","odd",
 "fold","other","script","x","y","z","cuts","way","CRC_POLY","MASK_DELTA","NONE"
 ]
noncomputable def ab':ah b_:=[
 "Cursor","Sink","Entry","HardState","ConfState","Snapshot","SegmentState","MemoryStorage","Unstable","RaftLog","LogWriter","LogReader",
 "KeepError","StoreError","Corrupt","ShortOctets","BadOption","RaftError","Compacted","Unavailable","SnapOutOfDate","SnapNotReady","LogGap","LogPanic"
 ]
noncomputable def Xn:ah (b_×aj):=[
 ("write_groups",ag),("read_groups",ag),("put_varint",ag),("read_varint",ag),("put_varint32",ag),("read_varint32",ag),("varint_length",ag),("put_fixed32",ag),("read_fixed32",ag),("read_lengthed",ag),("checksum",ag),("__init__",ao),
 ("left",ao),("varint",ao),("lengthed",ao),("flag",ao),("done",ao),("__init__",ao),("varint",ao),("lengthed",ao),("octet",ao),("flag",ao),("done",ao),("rising",ag),
 ("take_count",ag),("__init__",ao),("row",ao),("size",ao),("encode_entry",ag),("decode_entry",ag),("limit_size",ag),("__init__",ao),("row",ao),("copy",ao),("__init__",ao),("row",ao),
 ("put_ids",ag),("take_ids",ag),("encode_conf",ag),("decode_conf",ag),("__init__",ao),("hard_record",ag),("entry_record",ag),("fold_record",ag),("__init__",ao),("take",ao),("take_fold",ao),("take_hard",ao),
 ("stand",ao),("check_whole",ao),("__init__",ao),("first_index",ao),("last_index",ao),("entries_between",ao),("term_at",ao),("set_hard",ao),("append",ao),("apply_snapshot",ao),("__init__",ao),("maybe_first",ao),
 ("maybe_last",ao),("maybe_term",ao),("stable_to",ao),("truncate_and_append",ao),("part",ao),("__init__",ao),("first_index",ao),("last_index",ao),("last_term",ao),("term",ao),("match_term",ao),("maybe_append",ao),
 ("append",ao),("find_conflict",ao),("commit_to",ao),("applied_to",ao),("stable_to",ao),("unstable_entries",ao),("pending_snapshot",ao),("first_unapplied",ao),("has_next",ao),("next_committed",ao),("entries",ao),("all_entries",ao),
 ("slice",ao),("check_block",ag),("check_kind",ag),("make_fragment",ag),("__init__",ao),("put",ao),("add",ao),("__init__",ao),("turn_block",ao),("fragment",ao),("read",ao),("read_prefix",ag),
 ("_law_draw",ag),("_law_rows",ag),("_law_entries",ag),("_law_told",ag),("_law_put",ag),("_law_begin",ag),("_law_log",ag),("_law_agrees",ag),("_law_append",ag),("_law_held",ag),("_law_save",ag),("_law_apply",ag),
 ("_law_cut",ag),("_law_says",ag),("_law_refuses",ag),("_law_ends",ag),("law",ag)
 ]
noncomputable def Nm.s (x:Nm):b_:=Ak QR x.n ""
noncomputable def Cn.s (x:Cn):b_:=Ak ab' x.n ""
noncomputable def Fn.s (x:Fn):b_:=(Ak Xn x.n ("",ao)).1
noncomputable def Fn.top (x:Fn):aj:=(Ak Xn x.n ("",ao)).2
noncomputable def VM:ah (Nm×Int):=[
 (.u6,4294967295),(.u5,18446744073709551615),(.uh,1),(.iM,2),(.NL,2197175160),(.GP,2726488792),(.aaQ,0),(.C0,18446744073709551615),(.jj,0),(.q6,2),(.qZ,1),(.wy,2),
 (.q0,4),(.jU,7),(.zL,65542),(.WO,0),(.GR,1),(.D6,2),(.za,3),(.GQ,4),(.u9,(-1)),(.u7,(-2))
 ]
noncomputable def HZ (x:Nm):aC Int:=eF VM x
noncomputable def MM:ah (ah (Nm×Fn)):=[
 [(.xJ,.yn),(.eJ,.jz),(.jJ,.qP),(.CY,.yo),(.qE,.yp)],
 [(.eJ,.ym),(.jJ,.t8),(.oP,.BV),(.CY,.DW),(.qE,.DX)],
 [(.mV,.DZ),(.jQ,.B6)],
 [(.mV,.uc),(.WM,.sI)],
 [(.mV,.ue)],
 [],
 [(.xF,.eS),(.zG,.ik),(.zF,.ka),(.Px,.jH),(.u2,.jt)],
 [(.de,.ja),(.cn,.jw),(.pw,.hW),(.GO,.kz),(.wu,.kg),(.dg,.lN),(.qG,.iw)],
 [(.u0,.lL),(.xI,.mw),(.qV,.mv),(.p_,.uU),(.ly,.iv),(.CU,.t6)],
 [(.de,.mx),(.cn,.nV),(.zK,.oN),(.bO,.wj),(.lz,.nU),(.tF,.lM),(.dg,.sG),(.qW,.ky),(.ug,.oO),(.qY,.nW),(.p_,.oM),(.om,.ju),(.oo,.jv),(.kC,.jO),(.CW,.p8),(.qD,.kc),(.aS,.y9),(.u4,.my),(.Jp,.t_)],
 [(.UH,.ua),(.aaP,.ub)],
 [(.xD,.lO),(.CX,.jI),(.Pz,.ki)],
 [],
 [],
 [],
 [],
 [],
 [],
 [],
 [],
 [],
 [],
 [],
 []
 ]
noncomputable def oU (C:Cn) (m:Nm):aC Fn:=eF (Ak MM C.n []) m
noncomputable def VG:ah (aC Fn):=[
 aa .jB,aa .t9,aa .sJ,aa .n9,aa .n_,aa .oL,
 aa .kr,aa .kh,aa .oK,aa .p9,aa .nY,aa .nZ,
 au,au,au,au,au,au,
 au,au,au,au,au,au
 ]
noncomputable def rB (C:Cn):aC Fn:=Ak VG C.n au
noncomputable def Rx:ah (ah Nm):=[
 [.bq,.dX],
 [.fX],
 [.bO,.cp,.cM,.bq],
 [.bO,.oj,.h_],
 [.kZ,.iU,.iT,.eO,.gE],
 [.cp,.bO,.dq,.bq],
 [.eK,.cD,.bU,.dq,.cO,.aS,.ip],
 [.cO,.dq,.xG,.cD,.bU,.aS],
 [.cZ,.aS,.cJ],
 [.cV,.fB,.fN,.b5,.d9],
 [.gC,.dC,.fR,.gA],
 [.bq,.dC,.fR,.dX,.d',.uf,.uY,.uZ,.xE,.hZ,.jT],
 [],
 [],
 [],
 [],
 [],
 [],
 [],
 [],
 [],
 [],
 [],
 []
 ]
noncomputable def fieldsOf (C:Cn):ah Nm:=Ak Rx C.n []
noncomputable def aa':ah (ah Nm):=[
 [.xn,.zJ],
 [.bq,.dX,.jR,.zJ],
 [.xn],
 [.bq,.dX],
 [.xn],
 [.bq,.dX],
 [.xn],
 [.xn],
 [.bq,.dX],
 [.bq,.dX],
 [.cM,.bq],
 [.aG,.bq,.dX],
 [.aG],
 [.aG],
 [.aG],
 [.aG],
 [.aG],
 [.aG],
 [.aG,.xn],
 [.aG,.xb],
 [.aG,.xn],
 [.aG,.xb],
 [.aG],
 [.NK],
 [.dB],
 [.aG,.bO,.cp,.cM,.bq],
 [.aG],
 [.aG],
 [.fZ],
 [.bq],
 [.aS,.xn],
 [.aG,.bO,.oj,.h_],
 [.aG],
 [.aG],
 [.aG,.kZ,.iU,.iT,.eO,.gE],
 [.aG],
 [.gz,.NK],
 [.dB],
 [.dq],
 [.bq],
 [.aG,.cp,.bO,.dq,.bq],
 [.cO],
 [.fZ],
 [.cp,.bO,.dq],
 [.aG],
 [.aG,.eg],
 [.aG,.eg],
 [.aG,.eg],
 [.aG,.fZ],
 [.aG],
 [.aG,.dq],
 [.aG],
 [.aG],
 [.aG,.B_,.CV,.qa],
 [.aG,.xi],
 [.aG,.cO],
 [.aG,.aS],
 [.aG,.cZ],
 [.aG,.cJ],
 [.aG],
 [.aG],
 [.aG,.xi],
 [.aG,.xi,.bO],
 [.aG,.aS],
 [.aG,.B_,.CV],
 [.aG,.cV,.fB],
 [.aG],
 [.aG],
 [.aG],
 [.aG,.xi],
 [.aG,.xi,.xt],
 [.aG,.cp,.sN,.b5,.aS],
 [.aG,.aS],
 [.aG,.aS],
 [.aG,.xi],
 [.aG,.xi],
 [.aG,.xi,.bO],
 [.aG],
 [.aG],
 [.aG],
 [.aG],
 [.aG],
 [.aG,.xi,.qa],
 [.aG],
 [.aG,.B_,.CV,.qa],
 [.dC],
 [.fR],
 [.cM,.bq,.fR],
 [.aG,.gC,.dC,.fR,.gA],
 [.aG,.jR],
 [.aG,.jR],
 [.aG,.bq,.dC,.fR],
 [.aG],
 [.aG],
 [.aG],
 [.bq,.dC,.fR],
 [.i8,.xi],
 [.bO,.cp,.eK],
 [.f9],
 [.aS],
 [.xw,.eg],
 [.xw,.f9,.cO],
 [.xw,.aS,.cO],
 [.xw],
 [.xw,.xr],
 [.xw,.dA,.bO],
 [.xw,.xr],
 [.xw,.xr],
 [.xw,.xr],
 [.cq],
 [.cq,.iL],
 [.xw,.xr],
 [.D5]
 ]
noncomputable def Fn.ps (f:Fn):ah Nm:=Ak aa' f.n []
noncomputable def Ys:ah (ah Cn):=[
 [],[],
 [],[],
 [],[],
 [],[],
 [],[],
 [],[],
 [.gy],[.qC,.gy],
 [.eT,.qC,.gy],[.gJ,.eT,.qC,.gy],
 [.i7,.qC,.gy],[.kX,.gy],
 [.kY,.kX,.gy],[.hU,.kX,.gy],
 [.t7,.kX,.gy],[.GB,.kX,.gy],
 [.BZ,.kX,.gy],[.jx,.kX,.gy]
 ]
noncomputable abbrev V:=Vx Nm Cn
set_option genCtorIdx true in
inductive Mo
 |bE (xs:ah V) |inst (C:Cn) (fs:ah (Nm×V)) |i_ (fs:ah (Nm×V)) |ba (bs:ah aA)
mutual
inductive E
 |none |bool (b:aj) |int (i:Int) |cK |bytes (bs:ah Nat)
 |aB (x:Nm) |glob (g:Nm)
 |bR (op:Bo) (a b:E) |neg (a:E) |kL (a:E) |b6 (aeR:aj) (es:Es)
 |ite (c a b:E) |cB (a:E) (op:Co) (b:E) |KC (a:E) (op:Co) (b:E) (Vh:Co) (c:E)
 |aV (e:E) (f:Nm) |key (e:E) (k:Nm) |idx (e i:E) |slice (fz:aj) (e lo hi:E)
 |list (fz:aj) (es:Es) |tuple (es:Es) |dict (ks:ah Nm) (es:Es)
 |bL (f:Fn) (es:Es) |new (fz:aj) (C:Cn) (es:Es) |bk (e:E) (m:Nm) (es:Es) |bc (b:Bi) (es:Es)
 |comp (fz:aj) (elt:E) (tup:aj) (fL:ah Nm) (it cond:E) (fv:ah Nm) |gQ (es:Es) |fmt (e:E) |skip
inductive Es
 |nil |cons (e:E) (es:Es)
end
inductive Hr
 |Qe (b:aj) |setB (x:Nm) (b:aj) |other
mutual
inductive S
 |expr (e:E) |bz (x:Nm) (e:E) |jA (xs:ah Nm) (e:E) |setAttr (e:E) (f:Nm) (v:E) |c4 (e:E) (k:Nm) (v:E)
 |aug (x:Nm) (op:Bo) (e:E) |ie (e:E) (f:Nm) (op:Bo) (v:E) |sg (e:E) (k:Nm) (op:Bo) (v:E)
 |dp (c:E) (a b:Ss) |kD (c:E) (b:Ss) |uz (x:Nm) (e:E) (b:Ss) |forR (x:Nm) (lo hi:E) (b:Ss)
 |ret (e:E) |yz |cC (C:Cn) (e:E) |Ea (b:Ss) (tup:aj) (cs:ah Cn) (h:Hr) |brk |pass |freeze (x:Nm)
inductive Ss
 |nil |cons (s:S) (r:Ss)
end
noncomputable def E.yD (e:E):aj:=by cases e with
 |none=>exact ag
 |_=>exact ao
noncomputable abbrev Hp:=ax->aC Mo
noncomputable abbrev bZ:=Nm->aC V
noncomputable abbrev PV:=V->Hp->Prop
noncomputable abbrev PX:=Cn->Hp->Prop
noncomputable abbrev CC:=Fn->ah V->Hp->PV->PX->Prop
set_option genCtorIdx true in
inductive Out |next |brk |cont |ret (v:V)
noncomputable abbrev PO:=Out->bZ->Hp->Prop
noncomputable abbrev fj:=Cn->bZ->Hp->Prop
noncomputable def bZ.set (L:bZ) (x:Nm) (v:V):bZ:=fun y=>if y=x then aa v else L y
noncomputable def bZ.only (L:bZ) (fv:ah Nm):bZ:=fun y=>if y∈fv then L y else Option.none
noncomputable def Hp.set (H:Hp) (a:ax) (o:Mo):Hp:=fun b=>if b=a then aa o else H b
noncomputable def Hp.drop (H:Hp) (a:ax):Hp:=fun b=>if b=a then Option.none else H b
def Hp.le (H H':Hp):Prop:=∀ a o,H a=aa o->H' a=aa o
noncomputable def cL:ah (Nm×V)->Nm->V->ah (Nm×V)
 |[],f,v=>[(f,v)]
 |(k,w)::r,f,v=>if k=f then(k,v)::r else(k,w)::cL r f v
noncomputable def line:Nat:=16777216
noncomputable def Mo.tj:Mo->aC (ah V)
 |.bE xs=>aa xs |.inst _ _=>au |.i_ _=>au |.ba _=>au
noncomputable def Mo.Zu:Mo->aC (ah (Nm×V))
 |.bE _=>au |.inst _ _=>au |.i_ fs=>aa fs |.ba _=>au
noncomputable def Mo.Rr:Mo->aC (ah (Nm×V))
 |.bE _=>au |.inst _ fs=>aa fs |.i_ _=>au |.ba _=>au
noncomputable def Mo.cls?:Mo->aC Cn
 |.bE _=>au |.inst C _=>aa C |.i_ _=>au |.ba _=>au
noncomputable def Mo.kind?:Mo->aC aj
 |.bE _=>aa ag |.inst _ _=>au |.i_ _=>au |.ba _=>aa ao
section
variable (H:Hp)
noncomputable def listOf:V->aC (ah V)
 |.bE xs=>aa xs |.ref a=>(H a).bind Mo.tj
 |.none=>au |.bool _=>au |.int _=>au |.str _=>au |.bytes _=>au |.tup _=>au |.obj _ _=>au
noncomputable def Ro (f:Nm):V->aC V
 |.obj _ fs=>eF fs f |.ref a=>((H a).bind Mo.Rr).bind fun fs=>eF fs f
 |.none=>au |.bool _=>au |.int _=>au |.str _=>au |.bytes _=>au |.tup _=>au |.bE _=>au
noncomputable def OF (f:Nm):V->aC V
 |.ref a=>((H a).bind Mo.Zu).bind fun fs=>eF fs f
 |.none=>au |.bool _=>au |.int _=>au |.str _=>au |.bytes _=>au |.tup _=>au |.bE _=>au |.obj _ _=>au
noncomputable def AW:V->aC Cn
 |.obj C _=>aa C |.ref a=>(H a).bind Mo.cls?
 |.none=>au |.bool _=>au |.int _=>au |.str _=>au |.bytes _=>au |.tup _=>au |.bE _=>au
noncomputable def kindB:V->aC aj
 |.ref a=>(H a).bind Mo.kind?
 |.none=>au |.bool _=>au |.int _=>au |.str _=>au |.bytes _=>au |.tup _=>au |.bE _=>au |.obj _ _=>au
noncomputable def Kh (xs:ah V):aC aj:=if xs.length<=line then aa (!xs.isEmpty) else au
noncomputable def truth:V->aC aj
 |.bool b=>aa b |.none=>aa ao |.int i=>aa (decide (i≠0)) |.bE xs=>Kh xs |.ref a=>((H a).bind Mo.tj).bind Kh
 |.str _=>au |.bytes _=>au |.tup _=>au |.obj _ _=>au
end
noncomputable def kq:V->aC Int
 |.int i=>aa i
 |.none=>au |.bool _=>au |.ref _=>au |.str _=>au |.bytes _=>au |.tup _=>au |.bE _=>au |.obj _ _=>au
noncomputable def Sf:V->aC aj
 |.bool i=>aa i
 |.none=>au |.int _=>au |.ref _=>au |.str _=>au |.bytes _=>au |.tup _=>au |.bE _=>au |.obj _ _=>au
noncomputable def I0:V->aC (ah aA)
 |.bytes i=>aa i
 |.none=>au |.int _=>au |.ref _=>au |.str _=>au |.bool _=>au |.tup _=>au |.bE _=>au |.obj _ _=>au
noncomputable def XE:V->aC Str
 |.str i=>aa i
 |.none=>au |.int _=>au |.ref _=>au |.bytes _=>au |.bool _=>au |.tup _=>au |.bE _=>au |.obj _ _=>au
def MH (k:ah V->Prop):V->Prop
 |.tup i=>k i
 |.none=>False |.int _=>False |.ref _=>False |.bytes _=>False |.bool _=>False |.str _=>False |.bE _=>False |.obj _ _=>False
noncomputable def flat:V->aj
 |.none=>ag |.bool _=>ag |.int _=>ag |.bytes _=>ag |.str _=>ag
 |.ref _=>ao |.tup _=>ao |.bE _=>ao |.obj _ _=>ao
noncomputable def isNone:V->aj
 |.none=>ag
 |.bool _=>ao |.int _=>ao |.bytes _=>ao |.str _=>ao |.ref _=>ao |.tup _=>ao |.bE _=>ao |.obj _ _=>ao
noncomputable def intsOf:ah V->aC (ah Int)
 |[]=>aa []
 |x::r=>(kq x).bind fun i=>(intsOf r).map (i:: ·)
noncomputable def boolsOf:ah V->aC (ah aj)
 |[]=>aa []
 |x::r=>(Sf x).bind fun i=>(boolsOf r).map (i:: ·)
noncomputable def oR (f:V->V->aC aj):ah V->ah V->aC aj
 |[],[]=>aa ag
 |[],_::_=>aa ao
 |_::_,[]=>aa ao
 |x::xs,y::ys=>(f x y).bind fun a=>(oR f xs ys).map (a&& ·)
noncomputable def ab7 (i:Int):V->aC aj
 |.int j=>aa (decide (i=j)) |.none=>aa ao
 |.bool _=>au |.ref _=>au |.str _=>au |.bytes _=>au |.tup _=>au |.bE _=>au |.obj _ _=>au
noncomputable def Zr:V->aC aj
 |.none=>aa ag |.int _=>aa ao |.tup _=>aa ao
 |.bool _=>au |.ref _=>au |.str _=>au |.bytes _=>au |.bE _=>au |.obj _ _=>au
noncomputable def eqBool (i:aj) (y:V):aC aj:=(Sf y).map fun j=>decide (i=j)
noncomputable def aeh (i:ah aA) (y:V):aC aj:=(I0 y).map fun j=>decide (i=j)
noncomputable def ab5 (f:V->V->aC aj) (xs:ah V):V->aC aj
 |.tup ys=>if xs.length=ys.length then oR f xs ys else au
 |.none=>aa ao
 |.int _=>au |.bool _=>au |.ref _=>au |.str _=>au |.bytes _=>au |.bE _=>au |.obj _ _=>au
noncomputable def ab6 (f:V->V->aC aj) (xs:ah V):V->aC aj
 |.bE ys=>if xs.length=ys.length then oR f xs ys else aa ao
 |.none=>au |.int _=>au |.bool _=>au |.ref _=>au |.str _=>au |.bytes _=>au |.tup _=>au |.obj _ _=>au
noncomputable def tI:Nat->V->V->aC aj
 | 0,_,_=>au
 |n+1,x,y=>match x with
  |.none=>Zr y |.int i=>ab7 i y |.bool i=>eqBool i y |.bytes i=>aeh i y |.tup xs=>ab5 (tI n) xs y |.bE xs=>ab6 (tI n) xs y
  |.ref _=>au |.str _=>au |.obj _ _=>au
noncomputable def norm (H:Hp) (v:V):V:=(listOf H v).elim v .bE
def small (i:Int):Prop:=i.natAbs < 2 ^ 200
noncomputable def Mn:Nat:=100000
inductive Got {α:Type} (o:aC α) (k:α->Prop):Prop
 |mk (v:α) (h:o=aa v) (q:k v)
inductive IsI (x:V) (k:Int->Prop):Prop
 |mk (i:Int) (h:x=.int i) (q:k i)
def oY (x y:V) (k:Int->Int->Prop):Prop:=Got (kq x) fun i=>Got (kq y) (k i)
def YR (i j:Int) (P:Prop):Prop:=0<=i/\0<=j/\P
inductive yq (H:Hp) (x y:V) (k:ah V->Prop):Prop
 |mk (xs ys:ah V) (hx:listOf H x=aa xs) (hy:listOf H y=aa ys) (hl:xs.length+ys.length<=line) (q:k (xs++ys))
def acE (x y:V) (H:Hp) (Q:PV):Prop:=match x with
 |.int i=>Got (kq y) fun j=>Q (.int (i+j)) H
 |.bytes b=>Got (I0 y) fun c=>b.length+c.length<=line/\Q (.bytes (b++c)) H
 |.str a=>Got (XE y) fun b=>a.length+b.length<=Mn/\∀ s:Str,s.length<=a.length+b.length->Q (.str s) H
 |.bE xs=>yq H (.bE xs) y fun zs=>Q (.bE zs) H
 |.ref a=>yq H (.ref a) y fun zs=>Q (.bE zs) H
 |.none=>False |.bool _=>False |.tup _=>False |.obj _ _=>False
def abi (x y:V) (H:Hp) (Q:PV):Prop:=match x with
 |.int i=>Got (kq y) fun j=>small i/\small j/\Q (.int (i*j)) H
 |.bytes b=>Got (kq y) fun j=>0<=j/\j<=100/\b≠[]/\b.length<=16/\Q (.bytes (List.replicate j.toNat b).flatten) H
 |.str _=>False |.bE _=>False |.ref _=>False |.none=>False |.bool _=>False |.tup _=>False |.obj _ _=>False
def binOp (op:Bo) (x y:V) (H:Hp) (Q:PV):Prop:=match op with
 |.add=>acE x y H Q
 |.sub=>oY x y fun i j=>Q (.int (i-j)) H
 |.mul=>abi x y H Q
 |.fdiv=>oY x y fun i j=>0 < j/\j < 1073741824/\Q (.int (i / j)) H
 |.mod=>oY x y fun i j=>0 < j/\Q (.int (i % j)) H
 |.band=>oY x y fun i j=>YR i j (Q (.int (Int.ofNat (i.toNat&&& j.toNat))) H)
 |.bor=>oY x y fun i j=>YR i j (Q (.int (Int.ofNat (i.toNat |||j.toNat))) H)
 |.shl=>oY x y fun i j=>0<=i/\small i/\0<=j/\j<=100/\Q (.int (Int.ofNat (i.toNat <<< j.toNat))) H
 |.shr=>oY x y fun i j=>0<=i/\0<=j/\j<=100/\Q (.int (Int.ofNat (i.toNat >>> j.toNat))) H
 |.bxor=>False
def Bt (op:Bo) (x y:V) (Q:V->Prop):Prop:=match op with
 |.add=>oY x y fun i j=>Q (.int (i+j))
 |.sub=>oY x y fun i j=>Q (.int (i-j))
 |.bor=>oY x y fun i j=>YR i j (Q (.int (Int.ofNat (i.toNat |||j.toNat))))
 |.shr=>oY x y fun i j=>0<=i/\0<=j/\j<=100/\Q (.int (Int.ofNat (i.toNat >>> j.toNat)))
 |.mul=>False |.fdiv=>False |.mod=>False |.band=>False |.shl=>False |.bxor=>False
def yb (op:Co) (x y:V) (H:Hp) (k:aj->Prop):Prop:=match op with
 |.lt=>oY x y fun i j=>k (decide (i < j))
 |.le=>oY x y fun i j=>k (decide (i<=j))
 |.gt=>oY x y fun i j=>k (decide (j < i))
 |.ge=>oY x y fun i j=>k (decide (j<=i))
 |.eq=>Got (tI 6 (norm H x) (norm H y)) k
 |.ne=>Got (tI 6 (norm H x) (norm H y)) fun b=>k (!b)
 |.is_=>isNone y=ag/\k (isNone x)
 |.lH=>isNone y=ag/\k (!isNone x)
noncomputable def zY (n:Nat) (i:Int):aC Nat:=if 0<=i then(if i < n then aa i.toNat else au) else if -(n:Int)<=i then aa (i+n).toNat else au
noncomputable def Bc (n:Nat) (i:Int):aC Nat:=if -(2 ^ 62)<=i/\i<=2 ^ 62 then aa (clipAt n i) else au
noncomputable def bound (n:Nat) (d:Nat):V->aC Nat
 |.none=>aa d |.int i=>Bc n i
 |.bool _=>au |.ref _=>au |.str _=>au |.bytes _=>au |.bE _=>au |.tup _=>au |.obj _ _=>au
noncomputable def cut {α:Type} (xs:ah α) (lo hi:Nat):ah α:=(xs.drop lo).take (hi-lo)
def mk (fz:aj) (xs:ah V) (H:Hp) (Q:PV):Prop:=xs.length<=line/\cond fz (Q (.bE xs) H) (∀ a,H a=au->Q (.ref a) (H.set a (.bE xs)))
def fits (i:Int):Prop:=-(2 ^ 62)<=i/\i<=2 ^ 62
inductive Idx {α:Type} (xs:ah α) (i:Int) (k:α->Prop):Prop
 |mk (n:Nat) (u:α) (hi:fits i) (hn:zY xs.length i=aa n) (hu:xs[n]? =aa u) (q:k u)
def MQ (x i:V) (H:Hp) (Q:PV):Prop:=Got (kq i) fun i=>match x with
 |.bytes b=>Idx b i fun u=>Q (.int u.toNat) H
 |.tup xs=>Idx xs i fun u=>Q u H
 |.bE xs=>Idx xs i fun u=>Q u H
 |.ref a=>Got ((H a).bind Mo.tj) fun xs=>Idx xs i fun u=>Q u H
 |.none=>False |.bool _=>False |.int _=>False |.str _=>False |.obj _ _=>False
inductive Sl {α:Type} (xs:ah α) (lo hi:V) (k:ah α->Prop):Prop
 |mk (l h:Nat) (hl:xs.length<=line) (h1:bound xs.length 0 lo=aa l) (h2:bound xs.length xs.length hi=aa h) (q:k (cut xs l h))
def vh (fz:aj) (x lo hi:V) (H:Hp) (Q:PV):Prop:=match x with
 |.bytes b=>Sl b lo hi fun c=>Q (.bytes c) H
 |.bE xs=>Sl xs lo hi fun c=>mk fz c H Q
 |.ref a=>Got ((H a).bind Mo.tj) fun xs=>Sl xs lo hi fun c=>mk fz c H Q
 |.none=>False |.bool _=>False |.int _=>False |.str _=>False |.tup _=>False |.obj _ _=>False
noncomputable def octets:ah Int->aC (ah aA)
 |[]=>aa []
 |i::r=>if 0<=i/\i<=255 then(octets r).map (UInt8.ofNat i.toNat:: ·) else au
noncomputable def Mo.ba?:Mo->aC (ah aA)
 |.bE _=>au |.inst _ _=>au |.i_ _=>au |.ba d=>aa d
def Ka (vs:ah V) (k:V->Prop):Prop:=match vs with
 |[]=>False
 |x::r=>match r with
  |[]=>k x
  |_::_=>False
def on2 (vs:ah V) (k:V->V->Prop):Prop:=match vs with
 |[]=>False
 |x::r=>Ka r (k x)
def abq (H:Hp) (Q:PV):V->Prop
 |.bytes b=>b.length<=line/\Q (.int b.length) H
 |.bE xs=>xs.length<=line/\Q (.int xs.length) H
 |.ref a=>Got ((H a).bind Mo.tj) fun xs=>xs.length<=line/\Q (.int xs.length) H
 |.none=>False |.bool _=>False |.int _=>False |.str _=>False |.tup _=>False |.obj _ _=>False
def V_ (H:Hp) (Q:PV):V->Prop
 |.int n=>0<=n/\n<=1000000/\Q (.bytes (List.replicate n.toNat 0)) H
 |.bytes b=>Q (.bytes b) H
 |.bE xs=>Got (intsOf xs) fun is=>Got (octets is) fun bs=>bs.length<=1000/\Q (.bytes bs) H
 |.ref a=>Got ((H a).bind Mo.ba?) fun bs=>bs.length<=line/\Q (.bytes bs) H
 |.none=>False |.bool _=>False |.str _=>False |.tup _=>False |.obj _ _=>False
def ZP (H:Hp) (Q:PV) (b:ah aA):Prop:=b.length<=line/\∀ a,H a=au->Q (.ref a) (H.set a (.ba b))
def Fh (b:Bi) (vs:ah V) (H:Hp) (Q:PV):Prop:=match b with
 |.len=>Ka vs (abq H Q)
 |.bytes=>Ka vs (V_ H Q)
 |.bytearray=>match vs with
  |[]=>∀ a,H a=au->Q (.ref a) (H.set a (.ba []))
  |x::r=>Ka (x::r) fun x=>Got (I0 x) (ZP H Q)
 |.min=>on2 vs fun x y=>oY x y fun i j=>Q (.int (min i j)) H
 |.max=>on2 vs fun x y=>oY x y fun i j=>Q (.int (max i j)) H
 |.sum=>Ka vs fun x=>Got (I0 x) fun b=>b.length<=1000000/\Q (.int (b.map (fun u=>(u.toNat:Int))).sum) H
 |.sorted=>Ka vs fun x=>Got (listOf H x) fun xs=>Got (intsOf xs) fun is=>is.length<=2/\∀ js:ah Int,js.Perm is->js.Pairwise (· <= ·)->Q (.bE (js.map .int)) H
 |.tuple=>Ka vs fun x=>Got (listOf H x) fun xs=>xs.length<=line/\Q (.tup xs) H
 |.str=>Ka vs fun x=>Got (kq x) fun i=>small i/\∀ s:Str,s.length<=1000->Q (.str s) H
 |.all=>Ka vs fun x=>Got (listOf H x) fun xs=>Got (boolsOf xs) fun bs=>Q (.bool (bs.all id)) H
noncomputable def W7 (k:aj) (m:Nm):aj:=m=.dg || !k&&m=.jS
inductive AtL (o:aC Mo) (k:ah V->Prop):Prop
 |mk (xs:ah V) (h:o=aa (.bE xs)) (q:k xs)
inductive AtB (o:aC Mo) (k:ah aA->Prop):Prop
 |mk (xs:ah aA) (h:o=aa (.ba xs)) (q:k xs)
noncomputable def acj:V->aC ax
 |.ref a=>aa a
 |.none=>au |.bool _=>au |.int _=>au |.str _=>au |.bytes _=>au |.tup _=>au |.bE _=>au |.obj _ _=>au
def rp (k:aj) (v:V) (m:Nm) (vs:ah V) (H:Hp) (Q:PV):Prop:=Got (acj v) fun a=>Ka vs fun x=>
 cond k (AtL (H a) fun xs=>xs.length < line/\Q .none (H.set a (.bE (xs++[x]))))
  (cond (m=.dg) (Got (kq x) fun i=>AtB (H a) fun bs=>0<=i/\i<=255/\bs.length < line/\Q .none (H.set a (.ba (bs++[UInt8.ofNat i.toNat]))))
   (Got (I0 x) fun b=>AtB (H a) fun bs=>bs.length+b.length<=line/\Q .none (H.set a (.ba (bs++b)))))
noncomputable def gO (H:Hp) (v:V):aC (ah V):=listOf H v
noncomputable def bZ.sets (L:bZ):ah Nm->ah V->bZ
 |[],_=>L
 |x::xs,vs=>match vs with
  |[]=>L
  |v::vs=>bZ.sets (L.set x v) xs vs
def qK (tup:aj) (fL:ah Nm) (v:V) (L:bZ) (k:bZ->Prop):Prop:=
 cond tup (MH (fun vs=>fL.length=vs.length/\k (L.sets fL vs)) v) (match fL with
  |[]=>False
  |x::r=>match r with
   |[]=>k (L.set x v)
   |_::_=>False)
noncomputable def Wc (acc:ah V) (o:aC V):ah V:=o.elim acc fun y=>acc++[y]
inductive Uh (src:V) (full:ah V) (step:V->Hp->(aC V->Hp->Prop)->Prop) (Q:ah V->Hp->Prop) (H:Hp):Prop
 |mk (J:ah V->ah V->Hp->Prop) (h0:J full [] H) (hd:∀ acc H,J [] acc H->gO H src=aa full/\Q acc H)
  (hs:∀ v r acc H,J (v::r) acc H->gO H src=aa full/\step v H fun o H'=>J r (Wc acc o) H')
inductive FzI (o:aC Mo) (D:Cn) (k:ah (Nm×V)->Prop):Prop
 |mk (fs:ah (Nm×V)) (h:o=aa (.inst D fs)) (q:k fs)
noncomputable def Vq:PX:=fun _ _=>False
mutual
def wE (C:CC):E->bZ->Hp->PV->PX->Prop
 |.none,_,H,Q,_=>Q .none H
 |.bool b,_,H,Q,_=>Q (.bool b) H
 |.int i,_,H,Q,_=>Q (.int i) H
 |.cK,_,H,Q,_=>∀ s:Str,s.length<=1000->Q (.str s) H
 |.bytes bs,_,H,Q,_=>Q (.bytes (bs.map UInt8.ofNat)) H
 |.aB x,L,H,Q,_=>Got (L x) fun v=>Q v H
 |.glob g,_,H,Q,_=>Got (HZ g) fun i=>Q (.int i) H
 |.bR op a b,L,H,Q,X=>wE C a L H (fun x H1=>wE C b L H1 (fun y H2=>binOp op x y H2 Q) X) X
 |.neg a,L,H,Q,X=>wE C a L H (fun x H1=>IsI x fun i=>Q (.int (-i)) H1) X
 |.kL a,L,H,Q,X=>wE C a L H (fun x H1=>Got (truth H1 x) fun t=>Q (.bool !t) H1) X
 |.b6 k es,L,H,Q,X=>wB C k es L H Q X
 |.ite c a b,L,H,Q,X=>wE C c L H (fun x H1=>Got (truth H1 x) fun t=>cond t (wE C a L H1 Q X) (wE C b L H1 Q X)) X
 |.cB a op b,L,H,Q,X=>wE C a L H (fun x H1=>wE C b L H1 (fun y H2=>yb op x y H2 fun t=>Q (.bool t) H2) X) X
 |.KC a op b Vh c,L,H,Q,X=>wE C a L H (fun x H1=>wE C b L H1 (fun y H2=>yb op x y H2 fun t=>
   cond t (wE C c L H2 (fun z H3=>yb Vh y z H3 fun t=>Q (.bool t) H3) X) (Q (.bool ao) H2)) X) X
 |.aV e f,L,H,Q,X=>wE C e L H (fun x H1=>Got (Ro H1 f x) fun v=>Q v H1) X
 |.key e f,L,H,Q,X=>wE C e L H (fun x H1=>Got (OF H1 f x) fun v=>Q v H1) X
 |.idx e i,L,H,Q,X=>wE C e L H (fun x H1=>wE C i L H1 (fun y H2=>MQ x y H2 Q) X) X
 |.slice fz e lo hi,L,H,Q,X=>wE C e L H (fun x H1=>wE C lo L H1 (fun l H2=>wE C hi L H2 (fun h H3=>vh fz x l h H3 Q) X) X) X
 |.list fz es,L,H,Q,X=>wEs C es L H (fun vs H1=>mk fz vs H1 Q) X
 |.tuple es,L,H,Q,X=>wEs C es L H (fun vs H1=>vs.length<=line/\Q (.tup vs) H1) X
 |.dict ks es,L,H,Q,X=>wEs C es L H (fun vs H1=>ks.length=vs.length/\∀ a,H1 a=au->Q (.ref a) (H1.set a (.i_ (ks.zip vs)))) X
 |.bL f es,L,H,Q,X=>wEs C es L H (fun vs H1=>C f vs H1 Q X) X
 |.new fz D es,L,H,Q,X=>wEs C es L H (fun vs H1=>Got (rB D) fun f=>∀ a,H1 a=au->C f (.ref a::vs) (H1.set a (.inst D []))
   (fun r H2=>r=.none/\cond fz (FzI (H2 a) D fun fs=>Q (.obj D fs) (H2.drop a)) (Q (.ref a) H2)) X) X
 |.bk e m es,L,H,Q,X=>wE C e L H (fun x H1=>(AW H1 x).elim (Got (kindB H1 x) fun k=>W7 k m=ag/\wEs C es L H1 (fun vs H2=>rp k x m vs H2 Q) X)
   fun D=>Got (oU D m) fun f=>wEs C es L H1 (fun vs H2=>C f (x::vs) H2 Q X) X) X
 |.bc b es,L,H,Q,X=>wEs C es L H (fun vs H1=>Fh b vs H1 Q) X
 |.comp fz elt tup fL it c fv,L,H,Q,X=>wE C it L H (fun src H1=>Got (gO H1 src) fun full=>full.length<=line/\
   Uh src full (fun v H2 k=>qK tup fL v (L.only fv) fun L1=>wE C c L1 H2 (fun x H3=>Got (cond c.yD (aa ag) (truth H3 x)) fun t=>
    cond t (wE C elt L1 H3 (fun y H4=>k (aa y) H4) Vq) (k au H3)) Vq) (fun ys H2=>mk fz ys H2 Q) H1) X
 |.gQ es,L,H,Q,X=>wEs C es L H (fun _ H1=>∀ s:Str,s.length<=16000->Q (.str s) H1) X
 |.skip,_,_,_,_=>False
 |.fmt e,L,H,Q,X=>wE C e L H (fun x H1=>IsI x fun i=>small i/\∀ s:Str,s.length<=1000->Q (.str s) H1) X
def wEs (C:CC):Es->bZ->Hp->(ah V->Hp->Prop)->PX->Prop
 |.nil,_,H,Q,_=>Q [] H
 |.cons e es,L,H,Q,X=>wE C e L H (fun x H1=>wEs C es L H1 (fun vs H2=>Q (x::vs) H2) X) X
def wB (C:CC) (k:aj):Es->bZ->Hp->PV->PX->Prop
 |.nil,_,_,_,_=>False
 |.cons e es,L,H,Q,X=>match es with
  |.nil=>wE C e L H Q X
  |.cons _ _=>wE C e L H (fun x H1=>Got (truth H1 x) fun t=>cond (t==k) (wB C k es L H1 Q X) (Q x H1)) X
end
noncomputable def Ml (k:bZ->Hp->Prop) (Q:PO):PO
 |.next,L,H=>k L H
 |.brk,L,H=>Q .brk L H
 |.cont,L,H=>Q .cont L H
 |.ret v,L,H=>Q (.ret v) L H
noncomputable def mi (k:bZ->Hp->Prop) (Q:PO):PO
 |.next,L,H=>k L H
 |.brk,L,H=>Q .next L H
 |.cont,L,H=>k L H
 |.ret v,L,H=>Q (.ret v) L H
noncomputable abbrev Body:=bZ->Hp->PO->fj->Prop
inductive Loop (x:Nm) (src:V) (full:ah V) (b:Body) (Q:PO) (X:fj) (L:bZ) (H:Hp):Prop
 |mk (J:ah V->bZ->Hp->Prop) (h0:J full L H) (hd:∀ L H,J [] L H->gO H src=aa full/\Q .next L H)
  (hs:∀ v r L H,J (v::r) L H->gO H src=aa full/\b (L.set x v) H (mi (J r) Q) X)
inductive BY (x:Nm) (b:Body) (Q:PO) (X:fj) (n:Nat) (i:Int) (L:bZ) (H:Hp):Prop
 |mk (J:Nat->Int->bZ->Hp->Prop) (h0:J n i L H) (hd:∀ i L H,J 0 i L H->Q .next L H) (hs:∀ m i L H,J (m+1) i L H->b (L.set x (.int i)) H (mi (J m (i+1)) Q) X)
inductive While (c:bZ->Hp->PV->PX->Prop) (b:Body) (Q:PO) (X:fj) (L:bZ) (H:Hp):Prop
 |mk (J:Nat->bZ->Hp->Prop) (k:Nat) (h0:J k L H) (hs:∀ k L H,J k L H->c L H (fun v H1=>Got (truth H1 v) fun t=>cond t (b L H1 (mi (fun L H=>∃ j,j < k/\J j L H) Q) X) (Q .next L H1)) fun D H1=>X D L H1)
inductive BX (l h:V) (yD:aj) (k:Int->Int->Prop):Prop
 |mk (i j:Int) (hl:cond yD (aa 0) (kq l)=aa i) (hh:h=.int j) (h1:-(2 ^ 62)<=i) (h2:i < 2 ^ 62) (h3:-(2 ^ 62)<=j) (h4:j < 2 ^ 62) (q:k i j)
noncomputable def Cn.sup (C:Cn):ah Cn:=Ak Ys C.n []
noncomputable def Cn.under (C d:Cn):aj:=C.sup.any fun x=>x=d
inductive xB (x:V) (H:Hp) (f:Nm) (y:V) (k:Hp->Prop):Prop
 |mk (a:ax) (D:Cn) (fs:ah (Nm×V)) (e:x=.ref a) (h:H a=aa (.inst D fs)) (hl:fs.length < 100) (hf:f∈fieldsOf D) (q:k (H.set a (.inst D (cL fs f y))))
inductive y8 (x:V) (H:Hp) (f:Nm) (y:V) (k:Hp->Prop):Prop
 |mk (a:ax) (fs:ah (Nm×V)) (e:x=.ref a) (h:H a=aa (.i_ fs)) (hl:fs.length < 100) (q:k (H.set a (.i_ (cL fs f y))))
inductive Frz (x:aC V) (H:Hp) (k:ax->ah V->Prop):Prop
 |mk (a:ax) (xs:ah V) (e:x=aa (.ref a)) (h:H a=aa (.bE xs)) (q:k a xs)
def Uu (v:V):Prop:=∃ s,v=.str s
def wH:Hr->bZ->Hp->PO->Prop
 |.Qe b,L,H,Q=>Q (.ret (.bool b)) L H
 |.setB x b,L,H,Q=>Q .next (L.set x (.bool b)) H
 |.other,_,_,_=>False
noncomputable def lZ (X:fj) (L:bZ):PX:=fun D H=>X D L H
mutual
def wS (C:CC) (rz:aj):S->bZ->Hp->PO->fj->Prop
 |.expr e,L,H,Q,X=>wE C e L H (fun v H1=>flat v=ag/\Q .next L H1) (lZ X L)
 |.bz x e,L,H,Q,X=>wE C e L H (fun v H1=>Q .next (L.set x v) H1) (lZ X L)
 |.jA xs e,L,H,Q,X=>wE C e L H (fun v H1=>qK ag xs v L fun L1=>Q .next L1 H1) (lZ X L)
 |.setAttr e f v,L,H,Q,X=>wE C v L H (fun y H1=>wE C e L H1 (fun x H2=>xB x H2 f y fun H3=>Q .next L H3) (lZ X L)) (lZ X L)
 |.c4 e f v,L,H,Q,X=>wE C v L H (fun y H1=>wE C e L H1 (fun x H2=>y8 x H2 f y fun H3=>Q .next L H3) (lZ X L)) (lZ X L)
 |.aug x op e,L,H,Q,X=>Got (L x) fun old=>wE C e L H (fun v H1=>Bt op old v fun r=>Q .next (L.set x r) H1) (lZ X L)
 |.ie e f op v,L,H,Q,X=>wE C e L H (fun x H1=>Got (Ro H1 f x) fun old=>wE C v L H1 (fun y H2=>Bt op old y fun r=>xB x H2 f r fun H3=>Q .next L H3) (lZ X L)) (lZ X L)
 |.sg e f op v,L,H,Q,X=>wE C e L H (fun x H1=>Got (OF H1 f x) fun old=>wE C v L H1 (fun y H2=>Bt op old y fun r=>y8 x H2 f r fun H3=>Q .next L H3) (lZ X L)) (lZ X L)
 |.dp c a b,L,H,Q,X=>wE C c L H (fun v H1=>Got (truth H1 v) fun t=>cond t (wSs C rz a L H1 Q X) (wSs C rz b L H1 Q X)) (lZ X L)
 |.kD c b,L,H,Q,X=>While (fun L H Q X=>wE C c L H Q X) (fun L H Q X=>wSs C ao b L H Q X) Q X L H
 |.uz x e b,L,H,Q,X=>wE C e L H (fun src H1=>Got (gO H1 src) fun full=>Loop x src full (fun L H Q X=>wSs C ao b L H Q X) Q X L H1) (lZ X L)
 |.forR x lo hi b,L,H,Q,X=>wE C lo L H (fun l H1=>wE C hi L H1 (fun h H2=>BX l h lo.yD fun i j=>BY x (fun L H Q X=>wSs C ao b L H Q X) Q X (j-i).toNat i L H2) (lZ X L)) (lZ X L)
 |.ret e,L,H,Q,X=>wE C e L H (fun v H1=>Q (.ret v) L H1) (lZ X L)
 |.yz,L,H,Q,_=>Q (.ret .none) L H
 |.cC D e,L,H,_,X=>wE C e L H (fun v H1=>rz=ag/\Uu v/\X D L H1) (lZ X L)
 |.Ea b _ cs h,L,H,Q,_=>wSs C ao b L H Q (fun D L1 H1=>cs.any D.under=ag/\wH h L1 H1 Q)
 |.brk,L,H,Q,_=>Q .brk L H
 |.pass,L,H,Q,_=>Q .next L H
 |.freeze x,L,H,Q,_=>Frz (L x) H fun a xs=>Q .next (L.set x (.bE xs)) (H.drop a)
def wSs (C:CC) (rz:aj):Ss->bZ->Hp->PO->fj->Prop
 |.nil,L,H,Q,_=>Q .next L H
 |.cons s r,L,H,Q,X=>wS C rz s L H (Ml (fun L1 H1=>wSs C rz r L1 H1 Q X) Q) X
end
noncomputable def Fn.dflt (f:Fn):ah V:=if f=.jB then[.int 0] else[]
noncomputable def acm (vs:ah V) (n:Nat) (ds:ah V):aC (ah V):=match ds with
 |[]=>au
 |d::_=>if vs.length+1=n then aa (vs++[d]) else au
noncomputable def pJ (f:Fn) (vs:ah V):aC (ah V):=
 if vs.length=f.ps.length then aa vs else acm vs f.ps.length f.dflt
noncomputable def bZ.none:bZ:=fun _=>Option.none
noncomputable def Cc (Q:PV):PO
 |.ret v,_,H1=>Q v H1
 |.next,_,H1=>Q .none H1
 |.brk,_,_=>False
 |.cont,_,_=>False
noncomputable def wJ (X:PX):fj:=fun c _ H1=>X c H1
noncomputable abbrev Es.k:=@Es.cons
noncomputable abbrev Es.z:=Es.nil
noncomputable abbrev Ss.k:=@Ss.cons
noncomputable abbrev Ss.z:=Ss.nil
noncomputable def vX:Ss:=
(.k (.expr (.bk (.aB .kB) .dg (.k (.bR .bor (.bR .band (.aB .xn) (.int 127)) (.int 128)) .z)))
(.k (.aug .xn .shr (.int 7))
.z))
noncomputable def Bh:Ss:=
(.k (.dp (.b6 ao (.k (.cB (.aB .xn) .lt (.int 0)) (.k (.cB (.aB .xn) .gt (.aB .zJ)) .z))) (.k (.cC .i7 (.gQ (.k (.fmt (.aB .xn)) (.k .cK (.k (.fmt (.aB .zJ)) .z)))))
.z) .z)
(.k (.bz .kB (.bc .bytearray .z))
(.k (.kD (.cB (.aB .xn) .ge (.int 128)) vX)
(.k (.expr (.bk (.aB .kB) .dg (.k (.aB .xn) .z)))
(.k (.ret (.bc .bytes (.k (.aB .kB) .z)))
.z)))))
noncomputable def w5:Ss:=
(.k (.dp (.cB (.aB .dX) .ge (.bc .len (.k (.aB .bq) .z))) (.k (.cC .gJ .cK)
.z) .z)
(.k (.bz .oP (.idx (.aB .bq) (.aB .dX)))
(.k (.aug .dX .add (.int 1))
(.k (.aug .xn .bor (.bR .shl (.bR .band (.aB .oP) (.int 127)) (.aB .wt)))
(.k (.dp (.cB (.aB .oP) .lt (.int 128)) (.k (.dp (.cB (.aB .xn) .gt (.aB .zJ)) (.k (.cC .eT (.gQ (.k .cK (.k (.fmt (.aB .xn)) (.k .cK (.k (.fmt (.aB .zJ)) .z))))))
.z) .z)
(.k (.ret (.tuple (.k (.aB .xn) (.k (.aB .dX) .z))))
.z)) .z)
(.k (.aug .wt .add (.int 7))
.z))))))
noncomputable def CD:Ss:=
(.k (.dp (.cB (.aB .dX) .lt (.int 0)) (.k (.cC .gJ (.gQ (.k .cK (.k (.fmt (.aB .dX)) .z))))
.z) .z)
(.k (.bz .xn (.int 0))
(.k (.bz .wt (.int 0))
(.k (.forR .Pu .none (.aB .jR) w5)
(.k (.cC .eT (.gQ (.k .cK (.k (.fmt (.aB .jR)) (.k .cK .z)))))
.z)))))
noncomputable def FH:Ss:=
(.k (.dp (.b6 ag (.k (.cB (.aB .xn) .ge (.int 0)) (.k (.cB (.aB .xn) .lt (.int 128)) .z))) (.k (.ret (.bc .bytes (.k (.list ag (.k (.aB .xn) .z)) .z)))
.z) .z)
(.k (.ret (.bL .qc (.k (.aB .xn) (.k (.glob .u5) .z))))
.z))
noncomputable def CA:Ss:=
(.k (.dp (.b6 ag (.k (.cB (.aB .dX) .ge (.int 0)) (.k (.cB (.aB .dX) .lt (.bc .len (.k (.aB .bq) .z))) (.k (.cB (.idx (.aB .bq) (.aB .dX)) .lt (.int 128)) .z)))) (.k (.ret (.tuple (.k (.idx (.aB .bq) (.aB .dX)) (.k (.bR .add (.aB .dX) (.int 1)) .z))))
.z) .z)
(.k (.ret (.bL .rf (.k (.aB .bq) (.k (.aB .dX) (.k (.int 10) (.k (.glob .u5) .z))))))
.z))
noncomputable def Bk:Ss:=
(.k (.dp (.b6 ag (.k (.cB (.aB .xn) .ge (.int 0)) (.k (.cB (.aB .xn) .lt (.int 128)) .z))) (.k (.ret (.bc .bytes (.k (.list ag (.k (.aB .xn) .z)) .z)))
.z) .z)
(.k (.ret (.bL .qc (.k (.aB .xn) (.k (.glob .u6) .z))))
.z))
noncomputable def yP:Ss:=
(.k (.dp (.b6 ag (.k (.cB (.aB .dX) .ge (.int 0)) (.k (.cB (.aB .dX) .lt (.bc .len (.k (.aB .bq) .z))) (.k (.cB (.idx (.aB .bq) (.aB .dX)) .lt (.int 128)) .z)))) (.k (.ret (.tuple (.k (.idx (.aB .bq) (.aB .dX)) (.k (.bR .add (.aB .dX) (.int 1)) .z))))
.z) .z)
(.k (.ret (.bL .rf (.k (.aB .bq) (.k (.aB .dX) (.k (.int 5) (.k (.glob .u6) .z))))))
.z))
noncomputable def uH:Ss:=
(.k (.aug .xn .shr (.int 7))
(.k (.aug .eK .add (.int 1))
.z))
noncomputable def yO:Ss:=
(.k (.dp (.b6 ao (.k (.cB (.aB .xn) .lt (.int 0)) (.k (.cB (.aB .xn) .gt (.glob .u5)) .z))) (.k (.cC .i7 (.gQ (.k (.fmt (.aB .xn)) (.k .cK (.k (.fmt (.glob .u5)) .z)))))
.z) .z)
(.k (.bz .eK (.int 1))
(.k (.kD (.cB (.aB .xn) .ge (.int 128)) uH)
(.k (.ret (.aB .eK))
.z))))
noncomputable def CE:Ss:=
(.k (.dp (.b6 ao (.k (.cB (.aB .xn) .lt (.int 0)) (.k (.cB (.aB .xn) .gt (.glob .u6)) .z))) (.k (.cC .i7 (.gQ (.k (.fmt (.aB .xn)) (.k .cK .z))))
.z) .z)
(.k (.ret (.bc .bytes (.k (.list ag (.k (.bR .band (.aB .xn) (.int 255)) (.k (.bR .band (.bR .shr (.aB .xn) (.int 8)) (.int 255)) (.k (.bR .band (.bR .shr (.aB .xn) (.int 16)) (.int 255)) (.k (.bR .shr (.aB .xn) (.int 24)) .z))))) .z)))
.z))
noncomputable def Bj:Ss:=
(.k (.dp (.b6 ao (.k (.cB (.aB .dX) .lt (.int 0)) (.k (.cB (.bR .add (.aB .dX) (.int 4)) .gt (.bc .len (.k (.aB .bq) .z))) .z))) (.k (.cC .gJ (.gQ (.k .cK (.k (.fmt (.aB .dX)) .z))))
.z) .z)
(.k (.ret (.bR .bor (.bR .bor (.bR .bor (.idx (.aB .bq) (.aB .dX)) (.bR .shl (.idx (.aB .bq) (.bR .add (.aB .dX) (.int 1))) (.int 8))) (.bR .shl (.idx (.aB .bq) (.bR .add (.aB .dX) (.int 2))) (.int 16))) (.bR .shl (.idx (.aB .bq) (.bR .add (.aB .dX) (.int 3))) (.int 24))))
.z))
noncomputable def yQ:Ss:=
(.k (.jA [.eK,.dX] (.bL .k_ (.k (.aB .bq) (.k (.aB .dX) .z))))
(.k (.dp (.cB (.bR .add (.aB .dX) (.aB .eK)) .gt (.bc .len (.k (.aB .bq) .z))) (.k (.cC .gJ (.gQ (.k (.fmt (.aB .eK)) (.k .cK (.k (.fmt (.bR .sub (.bc .len (.k (.aB .bq) .z)) (.aB .dX))) (.k .cK .z))))))
.z) .z)
(.k (.ret (.tuple (.k (.bc .bytes (.k (.slice ag (.aB .bq) (.aB .dX) (.bR .add (.aB .dX) (.aB .eK))) .z)) (.k (.bR .add (.aB .dX) (.aB .eK)) .z))))
.z)))
noncomputable def Lk:Ss:=
(.k (.dp (.cB (.aB .cM) .eq (.glob .uh)) (.k (.ret .skip)
.z) .z)
(.k (.dp (.cB (.aB .cM) .eq (.glob .iM)) (.k (.ret (.bR .band (.bR .add (.bR .add (.bR .mul (.bc .sum (.k (.aB .bq) .z)) (.int 251)) (.bR .mul (.bc .len (.k (.aB .bq) .z)) (.int 65537))) (.int 7)) (.glob .u6)))
.z) .z)
(.k (.cC .i7 (.gQ (.k .cK (.k (.fmt (.aB .cM)) .z))))
.z)))
noncomputable def wb:Ss:=
(.k (.dp (.b6 ao (.k (.cB (.aB .dX) .lt (.int 0)) (.k (.cB (.aB .dX) .gt (.bc .len (.k (.aB .bq) .z))) .z))) (.k (.cC .gJ (.gQ (.k .cK (.k (.fmt (.aB .dX)) (.k .cK (.k (.fmt (.bc .len (.k (.aB .bq) .z))) (.k .cK .z)))))))
.z) .z)
(.k (.setAttr (.aB .aG) .bq (.aB .bq))
(.k (.setAttr (.aB .aG) .dX (.aB .dX))
.z)))
noncomputable def CR:Ss:=
(.k (.ret (.bR .sub (.bc .len (.k (.aV (.aB .aG) .bq) .z)) (.aV (.aB .aG) .dX)))
.z)
noncomputable def y5:Ss:=
(.k (.bz .dX (.aV (.aB .aG) .dX))
(.k (.dp (.b6 ag (.k (.cB (.aB .dX) .lt (.bc .len (.k (.aV (.aB .aG) .bq) .z))) (.k (.cB (.idx (.aV (.aB .aG) .bq) (.aB .dX)) .lt (.int 128)) .z))) (.k (.setAttr (.aB .aG) .dX (.bR .add (.aB .dX) (.int 1)))
(.k (.ret (.idx (.aV (.aB .aG) .bq) (.aB .dX)))
.z)) .z)
(.k (.jA [.xn,.dX] (.bL .ou (.k (.aV (.aB .aG) .bq) (.k (.aB .dX) .z))))
(.k (.setAttr (.aB .aG) .dX (.aB .dX))
(.k (.ret (.aB .xn))
.z)))))
noncomputable def v_:Ss:=
(.k (.jA [.xb,.dX] (.bL .tH (.k (.aV (.aB .aG) .bq) (.k (.aV (.aB .aG) .dX) .z))))
(.k (.setAttr (.aB .aG) .dX (.aB .dX))
(.k (.ret (.aB .xb))
.z)))
noncomputable def CS:Ss:=
(.k (.dp (.cB (.aV (.aB .aG) .dX) .ge (.bc .len (.k (.aV (.aB .aG) .bq) .z))) (.k (.cC .gJ .cK)
.z) .z)
(.k (.bz .xn (.idx (.aV (.aB .aG) .bq) (.aV (.aB .aG) .dX)))
(.k (.dp (.cB (.aB .xn) .gt (.int 1)) (.k (.cC .eT (.gQ (.k .cK (.k (.fmt (.aB .xn)) .z))))
.z) .z)
(.k (.ie (.aB .aG) .dX .add (.int 1))
(.k (.ret (.cB (.aB .xn) .eq (.int 1)))
.z)))))
noncomputable def CT:Ss:=
(.k (.dp (.cB (.aV (.aB .aG) .dX) .lt (.bc .len (.k (.aV (.aB .aG) .bq) .z))) (.k (.cC .eT (.gQ (.k (.fmt (.bk (.aB .aG) .xJ .z)) (.k .cK .z))))
.z) .z)
.z)
noncomputable def yY:Ss:=
(.k (.setAttr (.aB .aG) .fX (.bc .bytearray .z))
.z)
noncomputable def CQ:Ss:=
(.k (.dp (.b6 ag (.k (.cB (.aB .xn) .ge (.int 0)) (.k (.cB (.aB .xn) .lt (.int 128)) .z))) (.k (.expr (.bk (.aV (.aB .aG) .fX) .dg (.k (.aB .xn) .z)))
.z) (.k (.expr (.bk (.aV (.aB .aG) .fX) .jS (.k (.bL .zZ (.k (.aB .xn) .z)) .z)))
.z))
.z)
noncomputable def yX:Ss:=
(.k (.expr (.bk (.aV (.aB .aG) .fX) .jS (.k (.bL .vp (.k (.bc .len (.k (.aB .xb) .z)) .z)) .z)))
(.k (.expr (.bk (.aV (.aB .aG) .fX) .jS (.k (.aB .xb) .z)))
.z))
noncomputable def FR:Ss:=
(.k (.dp (.b6 ao (.k (.cB (.aB .xn) .lt (.int 0)) (.k (.cB (.aB .xn) .gt (.int 255)) .z))) (.k (.cC .i7 (.gQ (.k (.fmt (.aB .xn)) (.k .cK .z))))
.z) .z)
(.k (.expr (.bk (.aV (.aB .aG) .fX) .dg (.k (.aB .xn) .z)))
.z))
noncomputable def IX:Ss:=
(.k (.dp (.aB .xb) (.k (.expr (.bk (.aV (.aB .aG) .fX) .dg (.k (.int 1) .z)))
.z) (.k (.expr (.bk (.aV (.aB .aG) .fX) .dg (.k (.int 0) .z)))
.z))
.z)
noncomputable def IY:Ss:=
(.k (.ret (.bc .bytes (.k (.aV (.aB .aG) .fX) .z)))
.z)
noncomputable def yi:Ss:=
(.k (.dp (.b6 ao (.k (.kL (.aB .kB)) (.k (.cB (.idx (.aB .kB) (.neg (.int 1))) .ne (.aB .wx)) .z))) (.k (.expr (.bk (.aB .kB) .dg (.k (.aB .wx) .z)))
.z) .z)
.z)
noncomputable def Sb:Ss:=
(.k (.bz .kB (.list ao .z))
(.k (.uz .wx (.bc .sorted (.k (.aB .NK) .z)) yi)
(.k (.freeze .kB)
(.k (.ret (.aB .kB))
.z))))
noncomputable def FG:Ss:=
(.k (.bz .eK (.bk (.aB .dB) .eJ .z))
(.k (.dp (.cB (.aB .eK) .gt (.bk (.aB .dB) .xJ .z)) (.k (.cC .gJ (.gQ (.k .cK (.k (.fmt (.aB .eK)) (.k .cK (.k (.fmt (.bk (.aB .dB) .xJ .z)) (.k .cK .z)))))))
.z) .z)
(.k (.ret (.aB .eK))
.z)))
noncomputable def xa:Ss:=
(.k (.setAttr (.aB .aG) .bO (.aB .bO))
(.k (.setAttr (.aB .aG) .cp (.aB .cp))
(.k (.setAttr (.aB .aG) .cM (.aB .cM))
(.k (.setAttr (.aB .aG) .bq (.aB .bq))
.z))))
noncomputable def IZ:Ss:=
(.k (.ret (.tuple (.k (.aV (.aB .aG) .bO) (.k (.aV (.aB .aG) .cp) (.k (.aV (.aB .aG) .cM) (.k (.aV (.aB .aG) .bq) .z))))))
.z)
noncomputable def FT:Ss:=
(.k (.bz .gA (.bc .len (.k (.aV (.aB .aG) .bq) .z)))
(.k (.bz .WL (.bR .add (.bR .add (.bL .ix (.k (.aV (.aB .aG) .bO) .z)) (.bL .ix (.k (.aV (.aB .aG) .cp) .z))) (.bL .ix (.k (.aV (.aB .aG) .cM) .z))))
(.k (.ret (.bR .add (.bR .add (.aB .WL) (.bL .ix (.k (.aB .gA) .z))) (.aB .gA)))
.z)))
noncomputable def Bq:Ss:=
(.k (.bz .gz (.new ao .Sink .z))
(.k (.expr (.bk (.aB .gz) .eJ (.k (.aV (.aB .fZ) .bO) .z)))
(.k (.expr (.bk (.aB .gz) .eJ (.k (.aV (.aB .fZ) .cp) .z)))
(.k (.expr (.bk (.aB .gz) .eJ (.k (.aV (.aB .fZ) .cM) .z)))
(.k (.expr (.bk (.aB .gz) .jJ (.k (.aV (.aB .fZ) .bq) .z)))
(.k (.ret (.bk (.aB .gz) .qE .z))
.z))))))
noncomputable def Br:Ss:=
(.k (.bz .dB (.new ao .Cursor (.k (.aB .bq) .z)))
(.k (.bz .bO (.bk (.aB .dB) .eJ .z))
(.k (.bz .cp (.bk (.aB .dB) .eJ .z))
(.k (.bz .cM (.bk (.aB .dB) .eJ .z))
(.k (.dp (.b6 ag (.k (.cB (.aB .cM) .ne (.glob .jj)) (.k (.cB (.aB .cM) .ne (.glob .q6)) .z))) (.k (.cC .eT (.gQ (.k .cK (.k (.fmt (.aB .cM)) .z))))
.z) .z)
(.k (.bz .xK (.bk (.aB .dB) .jJ .z))
(.k (.expr (.bk (.aB .dB) .qE .z))
(.k (.ret (.new ag .Entry (.k (.aB .bO) (.k (.aB .cp) (.k (.aB .cM) (.k (.aB .xK) .z))))))
.z))))))))
noncomputable def yS:Ss:=
(.k (.aug .D0 .add (.bk (.aB .fZ) .jQ .z))
(.k (.dp (.b6 ag (.k (.aB .lA) (.k (.cB (.aB .D0) .gt (.aB .xn)) .z))) (.k .brk
.z) .z)
(.k (.expr (.bk (.aB .lA) .dg (.k (.aB .fZ) .z)))
.z)))
noncomputable def FK:Ss:=
(.k (.bz .D0 (.int 0))
(.k (.bz .lA (.list ao .z))
(.k (.uz .fZ (.aB .aS) yS)
(.k (.freeze .lA)
(.k (.ret (.aB .lA))
.z)))))
noncomputable def r_:Ss:=
(.k (.setAttr (.aB .aG) .bO (.aB .bO))
(.k (.setAttr (.aB .aG) .oj (.aB .oj))
(.k (.setAttr (.aB .aG) .h_ (.aB .h_))
.z)))
noncomputable def y4:Ss:=
(.k (.ret (.tuple (.k (.aV (.aB .aG) .bO) (.k (.aV (.aB .aG) .oj) (.k (.aV (.aB .aG) .h_) .z)))))
.z)
noncomputable def w_:Ss:=
(.k (.ret (.new ag .fQ (.k (.aV (.aB .aG) .bO) (.k (.aV (.aB .aG) .oj) (.k (.aV (.aB .aG) .h_) .z)))))
.z)
noncomputable def sd:Ss:=
(.k (.setAttr (.aB .aG) .kZ (.bL .rising (.k (.aB .kZ) .z)))
(.k (.setAttr (.aB .aG) .iU (.bL .rising (.k (.aB .iU) .z)))
(.k (.setAttr (.aB .aG) .iT (.bL .rising (.k (.aB .iT) .z)))
(.k (.setAttr (.aB .aG) .eO (.bL .rising (.k (.aB .eO) .z)))
(.k (.setAttr (.aB .aG) .gE (.aB .gE))
.z)))))
noncomputable def y6:Ss:=
(.k (.ret (.tuple (.k (.bc .tuple (.k (.aV (.aB .aG) .kZ) .z)) (.k (.bc .tuple (.k (.aV (.aB .aG) .iU) .z)) (.k (.bc .tuple (.k (.aV (.aB .aG) .iT) .z)) (.k (.bc .tuple (.k (.aV (.aB .aG) .eO) .z)) (.k (.aV (.aB .aG) .gE) .z)))))))
.z)
noncomputable def FI:Ss:=
(.k (.expr (.bk (.aB .gz) .eJ (.k (.aB .wx) .z)))
.z)
noncomputable def O5:Ss:=
(.k (.expr (.bk (.aB .gz) .eJ (.k (.bc .len (.k (.aB .NK) .z)) .z)))
(.k (.uz .wx (.aB .NK) FI)
.z))
noncomputable def Cz:Ss:=
(.k (.bz .wx (.bk (.aB .dB) .eJ .z))
(.k (.dp (.b6 ag (.k (.aB .kB) (.k (.cB (.aB .wx) .le (.idx (.aB .kB) (.neg (.int 1)))) .z))) (.k (.cC .eT (.gQ (.k .cK (.k (.fmt (.aB .wx)) (.k .cK (.k (.fmt (.idx (.aB .kB) (.neg (.int 1)))) .z))))))
.z) .z)
(.k (.expr (.bk (.aB .kB) .dg (.k (.aB .wx) .z)))
.z)))
noncomputable def K9:Ss:=
(.k (.bz .kB (.list ao .z))
(.k (.forR .x_ .none (.bL .zM (.k (.aB .dB) .z)) Cz)
(.k (.freeze .kB)
(.k (.ret (.aB .kB))
.z))))
noncomputable def CN:Ss:=
(.k (.bz .gz (.new ao .Sink .z))
(.k (.expr (.bL .sS (.k (.aB .gz) (.k (.aV (.aB .dq) .kZ) .z))))
(.k (.expr (.bL .sS (.k (.aB .gz) (.k (.aV (.aB .dq) .iU) .z))))
(.k (.expr (.bL .sS (.k (.aB .gz) (.k (.aV (.aB .dq) .iT) .z))))
(.k (.expr (.bL .sS (.k (.aB .gz) (.k (.aV (.aB .dq) .eO) .z))))
(.k (.expr (.bk (.aB .gz) .CY (.k (.aV (.aB .dq) .gE) .z)))
(.k (.ret (.bk (.aB .gz) .qE .z))
.z)))))))
noncomputable def CO:Ss:=
(.k (.bz .dB (.new ao .Cursor (.k (.aB .bq) .z)))
(.k (.bz .kZ (.bL .pz (.k (.aB .dB) .z)))
(.k (.bz .iU (.bL .pz (.k (.aB .dB) .z)))
(.k (.bz .iT (.bL .pz (.k (.aB .dB) .z)))
(.k (.bz .eO (.bL .pz (.k (.aB .dB) .z)))
(.k (.bz .gE (.bk (.aB .dB) .CY .z))
(.k (.expr (.bk (.aB .dB) .qE .z))
(.k (.ret (.new ag .hJ (.k (.aB .kZ) (.k (.aB .iU) (.k (.aB .iT) (.k (.aB .eO) (.k (.aB .gE) .z)))))))
.z))))))))
noncomputable def tu:Ss:=
(.k (.setAttr (.aB .aG) .cp (.aB .cp))
(.k (.setAttr (.aB .aG) .bO (.aB .bO))
(.k (.setAttr (.aB .aG) .dq (.aB .dq))
(.k (.setAttr (.aB .aG) .bq (.aB .bq))
.z))))
noncomputable def CL:Ss:=
(.k (.bz .gz (.new ao .Sink .z))
(.k (.expr (.bk (.aB .gz) .oP (.k (.glob .qZ) .z)))
(.k (.expr (.bk (.aB .gz) .eJ (.k (.aV (.aB .cO) .bO) .z)))
(.k (.expr (.bk (.aB .gz) .eJ (.k (.aV (.aB .cO) .oj) .z)))
(.k (.expr (.bk (.aB .gz) .eJ (.k (.aV (.aB .cO) .h_) .z)))
(.k (.ret (.bk (.aB .gz) .qE .z))
.z))))))
noncomputable def Bp:Ss:=
(.k (.ret (.bR .add (.bc .bytes (.k (.list ag (.k (.glob .wy) .z)) .z)) (.bL .vE (.k (.aB .fZ) .z))))
.z)
noncomputable def CM:Ss:=
(.k (.bz .gz (.new ao .Sink .z))
(.k (.expr (.bk (.aB .gz) .oP (.k (.glob .q0) .z)))
(.k (.expr (.bk (.aB .gz) .eJ (.k (.aB .cp) .z)))
(.k (.expr (.bk (.aB .gz) .eJ (.k (.aB .bO) .z)))
(.k (.expr (.bk (.aB .gz) .jJ (.k (.bL .x4 (.k (.aB .dq) .z)) .z)))
(.k (.ret (.bk (.aB .gz) .qE .z))
.z))))))
noncomputable def pU:Ss:=
(.k (.setAttr (.aB .aG) .eK (.int 0))
(.k (.setAttr (.aB .aG) .cD (.int 0))
(.k (.setAttr (.aB .aG) .bU (.int 0))
(.k (.setAttr (.aB .aG) .dq .none)
(.k (.setAttr (.aB .aG) .cO (.new ag .fQ (.k (.int 0) (.k (.int 0) (.k (.int 0) .z)))))
(.k (.setAttr (.aB .aG) .aS (.list ao .z))
(.k (.setAttr (.aB .aG) .ip (.list ao .z))
.z)))))))
noncomputable def tv:Ss:=
(.k (.dp (.cB (.bc .len (.k (.aB .eg) .z)) .eq (.int 0)) (.k (.cC .eT .cK)
.z) .z)
(.k (.bz .cM (.idx (.aB .eg) (.int 0)))
(.k (.dp (.b6 ag (.k (.cB (.aV (.aB .aG) .eK) .eq (.int 0)) (.k (.cB (.aB .cM) .ne (.glob .q0)) .z))) (.k (.cC .eT .cK)
.z) .z)
(.k (.dp (.b6 ag (.k (.cB (.aV (.aB .aG) .eK) .eq (.int 1)) (.k (.cB (.aB .cM) .ne (.glob .qZ)) .z))) (.k (.cC .eT .cK)
.z) .z)
(.k (.dp (.cB (.aB .cM) .eq (.glob .q0)) (.k (.expr (.bk (.aB .aG) .zG (.k (.aB .eg) .z)))
.z) (.k (.dp (.cB (.aB .cM) .eq (.glob .qZ)) (.k (.expr (.bk (.aB .aG) .zF (.k (.aB .eg) .z)))
.z) (.k (.dp (.cB (.aB .cM) .eq (.glob .wy)) (.k (.expr (.bk (.aV (.aB .aG) .ip) .dg (.k (.bL .vI (.k (.slice ag (.aB .eg) (.int 1) .none) .z)) .z)))
.z) (.k (.cC .eT (.bR .add .cK (.bc .str (.k (.aB .cM) .z))))
.z))
.z))
.z))
(.k (.ie (.aB .aG) .eK .add (.int 1))
.z))))))
noncomputable def o9:Ss:=
(.k (.dp (.cB (.aV (.aB .aG) .eK) .gt (.int 0)) (.k (.cC .eT .cK)
.z) .z)
(.k (.bz .dB (.new ao .Cursor (.k (.aB .eg) (.k (.int 1) .z))))
(.k (.setAttr (.aB .aG) .cD (.bk (.aB .dB) .eJ .z))
(.k (.setAttr (.aB .aG) .bU (.bk (.aB .dB) .eJ .z))
(.k (.setAttr (.aB .aG) .dq (.bL .x5 (.k (.bk (.aB .dB) .jJ .z) .z)))
(.k (.expr (.bk (.aB .dB) .qE .z))
.z))))))
noncomputable def mG:Ss:=
(.k (.expr (.bk (.aB .aG) .Px (.k (.aB .fZ) .z)))
.z)
noncomputable def o8:Ss:=
(.k (.bz .dB (.new ao .Cursor (.k (.aB .eg) (.k (.int 1) .z))))
(.k (.bz .bO (.bk (.aB .dB) .eJ .z))
(.k (.bz .oj (.bk (.aB .dB) .eJ .z))
(.k (.bz .h_ (.bk (.aB .dB) .eJ .z))
(.k (.expr (.bk (.aB .dB) .qE .z))
(.k (.uz .fZ (.aV (.aB .aG) .ip) mG)
(.k (.setAttr (.aB .aG) .ip (.list ao .z))
(.k (.setAttr (.aB .aG) .cO (.new ag .fQ (.k (.aB .bO) (.k (.aB .oj) (.k (.aB .h_) .z)))))
.z))))))))
noncomputable def rZ:Ss:=
(.k (.bz .dA (.bR .sub (.bR .sub (.aV (.aB .fZ) .cp) (.aV (.aB .aG) .cD)) (.int 1)))
(.k (.dp (.cB (.aB .dA) .lt (.int 0)) (.k (.cC .eT .cK)
.z) .z)
(.k (.dp (.cB (.aB .dA) .gt (.bc .len (.k (.aV (.aB .aG) .aS) .z))) (.k (.cC .eT (.bR .add (.bR .add .cK (.bc .str (.k (.aV (.aB .fZ) .cp) .z))) .cK))
.z) .z)
(.k (.dp (.cB (.aB .dA) .lt (.bc .len (.k (.aV (.aB .aG) .aS) .z))) (.k (.setAttr (.aB .aG) .aS (.slice ao (.aV (.aB .aG) .aS) .none (.aB .dA)))
.z) .z)
(.k (.expr (.bk (.aV (.aB .aG) .aS) .dg (.k (.aB .fZ) .z)))
.z)))))
noncomputable def nG:Ss:=
(.k (.dp (.cB (.aV (.aB .aG) .eK) .lt (.int 2)) (.k (.cC .eT .cK)
.z) .z)
.z)
noncomputable def pg:Ss:=
(.k (.bz .qX (.int 0))
(.k (.dp (.cB (.bc .len (.k (.aV (.aB .dq) .kZ) .z)) .gt (.int 0)) (.k (.bz .qX (.int 1))
.z) .z)
(.k (.setAttr (.aB .aG) .cO (.new ag .fQ (.k (.aB .qX) (.k (.int 0) (.k (.aB .qX) .z)))))
(.k (.setAttr (.aB .aG) .dq (.aB .dq))
(.k (.setAttr (.aB .aG) .xG (.new ag .Snapshot (.k (.aB .qX) (.k (.aB .qX) (.k (.aB .dq) (.k (.bytes []) .z))))))
(.k (.setAttr (.aB .aG) .cD (.aB .qX))
(.k (.setAttr (.aB .aG) .bU (.aB .qX))
(.k (.setAttr (.aB .aG) .aS (.list ag .z))
.z))))))))
noncomputable def mI:Ss:=
(.k (.ret (.bR .add (.aV (.aB .aG) .cD) (.int 1)))
.z)
noncomputable def nM:Ss:=
(.k (.ret (.bR .add (.aV (.aB .aG) .cD) (.bc .len (.k (.aV (.aB .aG) .aS) .z))))
.z)
noncomputable def kj:Ss:=
(.k (.dp (.cB (.aB .B_) .le (.aV (.aB .aG) .cD)) (.k (.cC .kY (.gQ (.k .cK (.k (.fmt (.aB .B_)) (.k .cK (.k (.fmt (.aV (.aB .aG) .cD)) .z))))))
.z) .z)
(.k (.dp (.cB (.aB .CV) .gt (.bR .add (.bk (.aB .aG) .cn .z) (.int 1))) (.k (.cC .hU (.gQ (.k .cK (.k (.fmt (.aB .CV)) (.k .cK (.k (.fmt (.bk (.aB .aG) .cn .z)) .z))))))
.z) .z)
(.k (.dp (.cB (.aB .CV) .le (.aB .B_)) (.k (.ret (.list ag .z))
.z) .z)
(.k (.bz .iB (.bk (.aB .aG) .de .z))
(.k (.ret (.bL .kN (.k (.slice ag (.aV (.aB .aG) .aS) (.bR .sub (.aB .B_) (.aB .iB)) (.bR .sub (.aB .CV) (.aB .iB))) (.k (.aB .qa) .z))))
.z)))))
noncomputable def pW:Ss:=
(.k (.dp (.cB (.aB .xi) .lt (.aV (.aB .aG) .cD)) (.k (.cC .kY (.gQ (.k .cK (.k (.fmt (.aB .xi)) (.k .cK (.k (.fmt (.aV (.aB .aG) .cD)) .z))))))
.z) .z)
(.k (.dp (.cB (.aB .xi) .gt (.bk (.aB .aG) .cn .z)) (.k (.cC .hU (.gQ (.k .cK (.k (.fmt (.aB .xi)) (.k .cK (.k (.fmt (.bk (.aB .aG) .cn .z)) .z))))))
.z) .z)
(.k (.dp (.cB (.aB .xi) .eq (.aV (.aB .aG) .cD)) (.k (.ret (.aV (.aB .aG) .bU))
.z) .z)
(.k (.ret (.aV (.idx (.aV (.aB .aG) .aS) (.bR .sub (.aB .xi) (.bk (.aB .aG) .de .z))) .bO))
.z))))
noncomputable def pf:Ss:=
(.k (.setAttr (.aB .aG) .cO (.bk (.aB .cO) .WM .z))
.z)
noncomputable def oi:Ss:=
(.k (.dp (.cB (.aV (.idx (.aB .aS) (.aB .xk)) .cp) .ne (.bR .add (.aB .mU) (.aB .xk))) (.k (.cC .BZ (.gQ (.k .cK (.k (.fmt (.aV (.idx (.aB .aS) (.aB .xk)) .cp)) (.k .cK (.k (.fmt (.bR .add (.aB .mU) (.aB .xk))) (.k .cK .z)))))))
.z) .z)
.z)
noncomputable def qu:Ss:=
(.k (.dp (.cB (.bc .len (.k (.aB .aS) .z)) .eq (.int 0)) (.k .yz
.z) .z)
(.k (.bz .mU (.aV (.idx (.aB .aS) (.int 0)) .cp))
(.k (.forR .xk .none (.bc .len (.k (.aB .aS) .z)) oi)
(.k (.bz .iB (.bk (.aB .aG) .de .z))
(.k (.dp (.cB (.bR .sub (.bR .add (.aB .mU) (.bc .len (.k (.aB .aS) .z))) (.int 1)) .lt (.aB .iB)) (.k .yz
.z) .z)
(.k (.dp (.cB (.aB .mU) .gt (.bR .add (.bk (.aB .aG) .cn .z) (.int 1))) (.k (.cC .BZ (.gQ (.k .cK (.k (.fmt (.aB .mU)) (.k .cK (.k (.fmt (.bk (.aB .aG) .cn .z)) .z))))))
.z) .z)
(.k (.dp (.cB (.aB .mU) .lt (.aB .iB)) (.k (.bz .aS (.slice ag (.aB .aS) (.bR .sub (.aB .iB) (.aB .mU)) .none))
(.k (.bz .mU (.aB .iB))
.z)) .z)
(.k (.setAttr (.aB .aG) .aS (.bR .add (.slice ag (.aV (.aB .aG) .aS) .none (.bR .sub (.aB .mU) (.aB .iB))) (.aB .aS)))
.z))))))))
noncomputable def kS:Ss:=
(.k (.dp (.b6 ao (.k (.cB (.aV (.aB .cZ) .cp) .le (.aV (.aV (.aB .aG) .xG) .cp)) (.k (.cB (.aV (.aB .cZ) .cp) .lt (.aV (.aB .aG) .cD)) .z))) (.k (.cC .t7 (.gQ (.k .cK (.k (.fmt (.aV (.aB .cZ) .cp)) (.k .cK .z)))))
.z) .z)
(.k (.setAttr (.aB .aG) .xG (.aB .cZ))
(.k (.setAttr (.aB .aG) .dq (.aV (.aB .cZ) .dq))
(.k (.setAttr (.aB .aG) .cD (.aV (.aB .cZ) .cp))
(.k (.setAttr (.aB .aG) .bU (.aV (.aB .cZ) .bO))
(.k (.setAttr (.aB .aG) .aS (.list ag .z))
.z))))))
noncomputable def tr:Ss:=
(.k (.setAttr (.aB .aG) .cZ .none)
(.k (.setAttr (.aB .aG) .aS (.list ag .z))
(.k (.setAttr (.aB .aG) .cJ (.aB .cJ))
.z)))
noncomputable def qs:Ss:=
(.k (.dp (.cB (.aV (.aB .aG) .cZ) .lH .none) (.k (.ret (.bR .add (.aV (.aV (.aB .aG) .cZ) .cp) (.int 1)))
.z) .z)
(.k (.ret .none)
.z))
noncomputable def qR:Ss:=
(.k (.dp (.cB (.bc .len (.k (.aV (.aB .aG) .aS) .z)) .gt (.int 0)) (.k (.ret (.bR .sub (.bR .add (.aV (.aB .aG) .cJ) (.bc .len (.k (.aV (.aB .aG) .aS) .z))) (.int 1)))
.z) .z)
(.k (.dp (.cB (.aV (.aB .aG) .cZ) .lH .none) (.k (.ret (.bR .sub (.aV (.aB .aG) .cJ) (.int 1)))
.z) .z)
(.k (.ret .none)
.z)))
noncomputable def qQ:Ss:=
(.k (.dp (.cB (.aB .xi) .lt (.aV (.aB .aG) .cJ)) (.k (.dp (.b6 ag (.k (.cB (.aV (.aB .aG) .cZ) .lH .none) (.k (.cB (.aV (.aV (.aB .aG) .cZ) .cp) .eq (.aB .xi)) .z))) (.k (.ret (.aV (.aV (.aB .aG) .cZ) .bO))
.z) .z)
(.k (.ret .none)
.z)) .z)
(.k (.dp (.cB (.aB .xi) .ge (.bR .add (.aV (.aB .aG) .cJ) (.bc .len (.k (.aV (.aB .aG) .aS) .z)))) (.k (.ret .none)
.z) .z)
(.k (.ret (.aV (.idx (.aV (.aB .aG) .aS) (.bR .sub (.aB .xi) (.aV (.aB .aG) .cJ))) .bO))
.z)))
noncomputable def rY:Ss:=
(.k (.dp (.cB (.aB .xi) .lt (.aV (.aB .aG) .cJ)) (.k .yz
.z) .z)
(.k (.bz .lQ (.bk (.aB .aG) .qV (.k (.aB .xi) .z)))
(.k (.dp (.b6 ao (.k (.cB (.aB .lQ) .is_ .none) (.k (.cB (.aB .lQ) .ne (.aB .bO)) .z))) (.k .yz
.z) .z)
(.k (.setAttr (.aB .aG) .aS (.slice ag (.aV (.aB .aG) .aS) (.bR .sub (.bR .add (.aB .xi) (.int 1)) (.aV (.aB .aG) .cJ)) .none))
(.k (.setAttr (.aB .aG) .cJ (.bR .add (.aB .xi) (.int 1)))
.z)))))
noncomputable def kR:Ss:=
(.k (.dp (.cB (.bc .len (.k (.aB .aS) .z)) .eq (.int 0)) (.k .yz
.z) .z)
(.k (.bz .qb (.aV (.idx (.aB .aS) (.int 0)) .cp))
(.k (.dp (.cB (.aB .qb) .eq (.bR .add (.aV (.aB .aG) .cJ) (.bc .len (.k (.aV (.aB .aG) .aS) .z)))) (.k (.setAttr (.aB .aG) .aS (.bR .add (.aV (.aB .aG) .aS) (.aB .aS)))
.z) (.k (.dp (.cB (.aB .qb) .le (.aV (.aB .aG) .cJ)) (.k (.setAttr (.aB .aG) .cJ (.aB .qb))
(.k (.setAttr (.aB .aG) .aS (.slice ag (.aB .aS) .none .none))
.z)) (.k (.dp (.cB (.aB .qb) .lt (.bR .add (.aV (.aB .aG) .cJ) (.bc .len (.k (.aV (.aB .aG) .aS) .z)))) (.k (.setAttr (.aB .aG) .aS (.bR .add (.bk (.aB .aG) .CU (.k (.aV (.aB .aG) .cJ) (.k (.aB .qb) .z))) (.aB .aS)))
.z) (.k (.cC .jx (.gQ (.k .cK (.k (.fmt (.aB .qb)) (.k .cK (.k (.fmt (.bR .sub (.bR .add (.aV (.aB .aG) .cJ) (.bc .len (.k (.aV (.aB .aG) .aS) .z))) (.int 1))) .z))))))
.z))
.z))
.z))
.z)))
noncomputable def yW:Ss:=
(.k (.dp (.cB (.aB .B_) .gt (.aB .CV)) (.k (.cC .jx (.gQ (.k .cK (.k (.fmt (.aB .B_)) (.k .cK (.k (.fmt (.aB .CV)) (.k .cK .z)))))))
.z) .z)
(.k (.dp (.b6 ao (.k (.cB (.aB .B_) .lt (.aV (.aB .aG) .cJ)) (.k (.cB (.aB .CV) .gt (.bR .add (.aV (.aB .aG) .cJ) (.bc .len (.k (.aV (.aB .aG) .aS) .z)))) .z))) (.k (.cC .jx (.gQ (.k .cK (.k (.fmt (.aB .B_)) (.k .cK (.k (.fmt (.aB .CV)) (.k .cK (.k (.fmt (.aV (.aB .aG) .cJ)) (.k .cK (.k (.fmt (.bR .add (.aV (.aB .aG) .cJ) (.bc .len (.k (.aV (.aB .aG) .aS) .z)))) .z))))))))))
.z) .z)
(.k (.ret (.slice ag (.aV (.aB .aG) .aS) (.bR .sub (.aB .B_) (.aV (.aB .aG) .cJ)) (.bR .sub (.aB .CV) (.aV (.aB .aG) .cJ))))
.z)))
noncomputable def uJ:Ss:=
(.k (.setAttr (.aB .aG) .cV (.aB .cV))
(.k (.setAttr (.aB .aG) .fB (.aB .fB))
(.k (.bz .iB (.bk (.aB .cV) .de .z))
(.k (.setAttr (.aB .aG) .fN (.new ao .j' (.k (.bR .add (.bk (.aB .cV) .cn .z) (.int 1)) .z)))
(.k (.setAttr (.aB .aG) .b5 (.bR .sub (.aB .iB) (.int 1)))
(.k (.setAttr (.aB .aG) .d9 (.bR .sub (.aB .iB) (.int 1)))
.z))))))
noncomputable def qS:Ss:=
(.k (.bz .xi (.bk (.aV (.aB .aG) .fN) .u0 .z))
(.k (.dp (.cB (.aB .xi) .lH .none) (.k (.ret (.aB .xi))
.z) .z)
(.k (.ret (.bk (.aV (.aB .aG) .cV) .de .z))
.z)))
noncomputable def r4:Ss:=
(.k (.bz .xi (.bk (.aV (.aB .aG) .fN) .xI .z))
(.k (.dp (.cB (.aB .xi) .lH .none) (.k (.ret (.aB .xi))
.z) .z)
(.k (.ret (.bk (.aV (.aB .aG) .cV) .cn .z))
.z)))
noncomputable def tx:Ss:=
(.k (.Ea (.k (.ret (.bk (.aB .aG) .bO (.k (.bk (.aB .aG) .cn .z) .z)))
.z) ag [.kY,.hU] .other)
.z)
noncomputable def Bs:Ss:=
(.k (.bz .Js (.bk (.aV (.aB .aG) .fN) .qV (.k (.aB .xi) .z)))
(.k (.dp (.cB (.aB .Js) .lH .none) (.k (.ret (.aB .Js))
.z) .z)
(.k (.dp (.cB (.bR .add (.aB .xi) (.int 1)) .lt (.bk (.aB .aG) .de .z)) (.k (.cC .kY (.gQ (.k .cK (.k (.fmt (.aB .xi)) (.k .cK (.k (.fmt (.bk (.aB .aG) .de .z)) .z))))))
.z) .z)
(.k (.dp (.cB (.aB .xi) .gt (.bk (.aB .aG) .cn .z)) (.k (.cC .hU (.gQ (.k .cK (.k (.fmt (.aB .xi)) (.k .cK (.k (.fmt (.bk (.aB .aG) .cn .z)) .z))))))
.z) .z)
(.k (.ret (.bk (.aV (.aB .aG) .cV) .GO (.k (.aB .xi) .z)))
.z)))))
noncomputable def r3:Ss:=
(.k (.Ea (.k (.ret (.cB (.bk (.aB .aG) .bO (.k (.aB .xi) .z)) .eq (.aB .xt)))
.z) ag [.kY,.hU] (.Qe ao))
.z)
noncomputable def og:Ss:=
(.k (.dp (.cB (.aV (.idx (.aB .aS) (.aB .xk)) .cp) .ne (.bR .add (.bR .add (.aB .cp) (.int 1)) (.aB .xk))) (.k (.cC .BZ (.gQ (.k .cK (.k (.fmt (.aV (.idx (.aB .aS) (.aB .xk)) .cp)) (.k .cK (.k (.fmt (.bR .add (.bR .add (.aB .cp) (.int 1)) (.aB .xk))) (.k .cK .z)))))))
.z) .z)
.z)
noncomputable def qt:Ss:=
(.k (.dp (.kL (.bk (.aB .aG) .lz (.k (.aB .cp) (.k (.aB .sN) .z)))) (.k (.ret .none)
.z) .z)
(.k (.forR .xk .none (.bc .len (.k (.aB .aS) .z)) og)
(.k (.bz .fY (.bR .add (.aB .cp) (.bc .len (.k (.aB .aS) .z))))
(.k (.bz .px (.bk (.aB .aG) .qW (.k (.aB .aS) .z)))
(.k (.dp (.cB (.aB .px) .ne (.int 0)) (.k (.dp (.cB (.aB .px) .le (.aV (.aB .aG) .b5)) (.k (.cC .jx (.gQ (.k .cK (.k (.fmt (.aB .px)) (.k .cK (.k (.fmt (.aV (.aB .aG) .b5)) .z))))))
.z) .z)
(.k (.expr (.bk (.aB .aG) .dg (.k (.slice ag (.aB .aS) (.bR .sub (.aB .px) (.bR .add (.aB .cp) (.int 1))) .none) .z)))
.z)) .z)
(.k (.expr (.bk (.aB .aG) .ug (.k (.bc .min (.k (.aB .b5) (.k (.aB .fY) .z))) .z)))
(.k (.ret (.aB .fY))
.z)))))))
noncomputable def w8:Ss:=
(.k (.dp (.cB (.bc .len (.k (.aB .aS) .z)) .eq (.int 0)) (.k (.ret (.bk (.aB .aG) .cn .z))
.z) .z)
(.k (.bz .u3 (.bR .sub (.aV (.idx (.aB .aS) (.int 0)) .cp) (.int 1)))
(.k (.dp (.cB (.aB .u3) .lt (.aV (.aB .aG) .b5)) (.k (.cC .jx (.gQ (.k .cK (.k (.fmt (.aB .u3)) (.k .cK (.k (.fmt (.aV (.aB .aG) .b5)) .z))))))
.z) .z)
(.k (.dp (.cB (.aB .u3) .gt (.bk (.aB .aG) .cn .z)) (.k (.cC .BZ (.gQ (.k .cK (.k (.fmt (.aB .u3)) (.k .cK (.k (.fmt (.bk (.aB .aG) .cn .z)) .z))))))
.z) .z)
(.k (.expr (.bk (.aV (.aB .aG) .fN) .ly (.k (.aB .aS) .z)))
(.k (.ret (.bk (.aB .aG) .cn .z))
.z))))))
noncomputable def nK:Ss:=
(.k (.dp (.kL (.bk (.aB .aG) .lz (.k (.aV (.aB .xe) .cp) (.k (.aV (.aB .xe) .bO) .z)))) (.k (.ret (.aV (.aB .xe) .cp))
.z) .z)
.z)
noncomputable def pV:Ss:=
(.k (.uz .xe (.aB .aS) nK)
(.k (.ret (.int 0))
.z))
noncomputable def tA:Ss:=
(.k (.dp (.cB (.aB .xi) .le (.aV (.aB .aG) .b5)) (.k .yz
.z) .z)
(.k (.dp (.cB (.aB .xi) .gt (.bk (.aB .aG) .cn .z)) (.k (.cC .jx (.gQ (.k .cK (.k (.fmt (.aB .xi)) (.k .cK (.k (.fmt (.bk (.aB .aG) .cn .z)) .z))))))
.z) .z)
(.k (.setAttr (.aB .aG) .b5 (.aB .xi))
.z)))
noncomputable def r6:Ss:=
(.k (.dp (.cB (.aB .xi) .eq (.int 0)) (.k .yz
.z) .z)
(.k (.dp (.b6 ao (.k (.cB (.aB .xi) .gt (.aV (.aB .aG) .b5)) (.k (.cB (.aB .xi) .lt (.aV (.aB .aG) .d9)) .z))) (.k (.cC .jx (.gQ (.k .cK (.k (.fmt (.aB .xi)) (.k .cK (.k (.fmt (.aV (.aB .aG) .d9)) (.k .cK (.k (.fmt (.aV (.aB .aG) .b5)) .z))))))))
.z) .z)
(.k (.setAttr (.aB .aG) .d9 (.aB .xi))
.z)))
noncomputable def tw:Ss:=
(.k (.expr (.bk (.aV (.aB .aG) .fN) .p_ (.k (.aB .xi) (.k (.aB .bO) .z))))
.z)
noncomputable def nH:Ss:=
(.k (.ret (.slice ag (.aV (.aV (.aB .aG) .fN) .aS) .none .none))
.z)
noncomputable def nJ:Ss:=
(.k (.ret (.b6 ag (.k (.cB (.aV (.aV (.aB .aG) .fN) .cZ) .lH .none) (.k (.kL (.bk (.aV (.aV (.aB .aG) .fN) .cZ) .Yn .z)) .z))))
.z)
noncomputable def oh:Ss:=
(.k (.ret (.bc .max (.k (.bR .add (.aV (.aB .aG) .d9) (.int 1)) (.k (.bk (.aB .aG) .de .z) .z))))
.z)
noncomputable def uI:Ss:=
(.k (.dp (.bk (.aB .aG) .oo .z) (.k (.ret (.bool ao))
.z) .z)
(.k (.ret (.cB (.bR .add (.aV (.aB .aG) .b5) (.int 1)) .gt (.bk (.aB .aG) .kC .z)))
.z))
noncomputable def o_:Ss:=
(.k (.dp (.kL (.bk (.aB .aG) .CW .z)) (.k (.ret (.list ag .z))
.z) .z)
(.k (.ret (.bk (.aB .aG) .Jp (.k (.bk (.aB .aG) .kC .z) (.k (.bR .add (.aV (.aB .aG) .b5) (.int 1)) (.k (.aV (.aB .aG) .fB) .z)))))
.z))
noncomputable def v9:Ss:=
(.k (.dp (.cB (.aB .xi) .gt (.bk (.aB .aG) .cn .z)) (.k (.ret (.list ag .z))
.z) .z)
(.k (.ret (.bk (.aB .aG) .Jp (.k (.aB .xi) (.k (.bR .add (.bk (.aB .aG) .cn .z) (.int 1)) (.k (.aB .qa) .z)))))
.z))
noncomputable def qT:Ss:=
(.k (.ret (.bk (.aB .aG) .aS (.k (.bk (.aB .aG) .de .z) (.k (.glob .C0) .z))))
.z)
noncomputable def yZ:Ss:=
(.k (.dp (.cB (.aB .B_) .gt (.aB .CV)) (.k (.cC .jx (.gQ (.k .cK (.k (.fmt (.aB .B_)) (.k .cK (.k (.fmt (.aB .CV)) (.k .cK .z)))))))
.z) .z)
(.k (.dp (.cB (.aB .B_) .lt (.bk (.aB .aG) .de .z)) (.k (.cC .kY (.gQ (.k .cK (.k (.fmt (.aB .B_)) (.k .cK (.k (.fmt (.bk (.aB .aG) .de .z)) .z))))))
.z) .z)
(.k (.dp (.cB (.aB .CV) .gt (.bR .add (.bk (.aB .aG) .cn .z) (.int 1))) (.k (.cC .jx (.gQ (.k .cK (.k (.fmt (.aB .CV)) (.k .cK (.k (.fmt (.bk (.aB .aG) .cn .z)) .z))))))
.z) .z)
(.k (.dp (.cB (.aB .B_) .eq (.aB .CV)) (.k (.ret (.list ag .z))
.z) .z)
(.k (.bz .cJ (.aV (.aV (.aB .aG) .fN) .cJ))
(.k (.bz .lQ (.list ag .z))
(.k (.dp (.cB (.aB .B_) .lt (.aB .cJ)) (.k (.bz .mz (.bc .min (.k (.aB .CV) (.k (.aB .cJ) .z))))
(.k (.Ea (.k (.bz .lQ (.bk (.aV (.aB .aG) .cV) .pw (.k (.aB .B_) (.k (.aB .mz) (.k (.aB .qa) .z)))))
.z) ao [.hU] .other)
(.k (.dp (.cB (.bc .len (.k (.aB .lQ) .z)) .lt (.bR .sub (.aB .mz) (.aB .B_))) (.k (.ret (.aB .lQ))
.z) .z)
.z))) .z)
(.k (.dp (.cB (.aB .CV) .gt (.aB .cJ)) (.k (.bz .lQ (.bR .add (.aB .lQ) (.bk (.aV (.aB .aG) .fN) .CU (.k (.bc .max (.k (.aB .B_) (.k (.aB .cJ) .z))) (.k (.aB .CV) .z)))))
.z) .z)
(.k (.ret (.bL .kN (.k (.aB .lQ) (.k (.aB .qa) .z))))
.z)))))))))
noncomputable def CP:Ss:=
(.k (.dp (.b6 ao (.k (.cB (.aB .dC) .lt (.bR .add (.glob .jU) (.int 1))) (.k (.cB (.aB .dC) .gt (.glob .zL)) .z))) (.k (.cC .i7 .cK)
.z) .z)
.z)
noncomputable def FQ:Ss:=
(.k (.dp (.b6 ag (.k (.cB (.aB .fR) .ne (.glob .uh)) (.k (.cB (.aB .fR) .ne (.glob .iM)) .z))) (.k (.cC .i7 .cK)
.z) .z)
.z)
noncomputable def yR:Ss:=
(.k (.bz .jQ (.bc .len (.k (.aB .bq) .z)))
(.k (.bz .xK (.bR .add (.bc .bytes (.k (.list ag (.k (.aB .cM) .z)) .z)) (.aB .bq)))
(.k (.ret (.bR .add (.bR .add (.bL .rg (.k (.bL .checksum (.k (.aB .fR) (.k (.aB .xK) .z))) .z)) (.bc .bytes (.k (.list ag (.k (.bR .mod (.aB .jQ) (.int 256)) (.k (.bR .fdiv (.aB .jQ) (.int 256)) .z))) .z))) (.aB .xK)))
.z)))
noncomputable def r7:Ss:=
(.k (.expr (.bL .rO (.k (.aB .dC) .z)))
(.k (.expr (.bL .uB (.k (.aB .fR) .z)))
(.k (.dp (.cB (.aB .gA) .lt (.int 0)) (.k (.cC .i7 .cK)
.z) .z)
(.k (.setAttr (.aB .aG) .gC (.aB .gC))
(.k (.setAttr (.aB .aG) .dC (.aB .dC))
(.k (.setAttr (.aB .aG) .fR (.aB .fR))
(.k (.setAttr (.aB .aG) .gA (.aB .gA))
.z)))))))
noncomputable def y0:Ss:=
(.k (.expr (.bk (.aV (.aB .aG) .gC) .dg (.k (.aB .jR) .z)))
(.k (.ie (.aB .aG) .gA .add (.bc .len (.k (.aB .jR) .z)))
.z))
noncomputable def uK:Ss:=
(.k (.bz .xH (.bR .sub (.aV (.aB .aG) .dC) (.bR .mod (.aV (.aB .aG) .gA) (.aV (.aB .aG) .dC))))
(.k (.dp (.cB (.aB .xH) .lt (.glob .jU)) (.k (.expr (.bk (.aB .aG) .UH (.k (.bc .bytes (.k (.aB .xH) .z)) .z)))
(.k (.bz .xH (.aV (.aB .aG) .dC))
.z)) .z)
(.k (.bz .mT (.bc .min (.k (.aB .jQ) (.k (.bR .sub (.bR .add (.aB .dX) (.aB .xH)) (.glob .jU)) .z))))
(.k (.bz .lR (.cB (.aB .mT) .eq (.aB .jQ)))
(.k (.dp (.aB .gM) (.k (.bz .cM (.ite (.aB .lR) (.glob .GQ) (.glob .za)))
.z) (.k (.bz .cM (.ite (.aB .lR) (.glob .GR) (.glob .D6)))
.z))
(.k (.expr (.bk (.aB .aG) .UH (.k (.bL .oV (.k (.aB .cM) (.k (.slice ag (.aB .jR) (.aB .dX) (.aB .mT)) (.k (.aV (.aB .aG) .fR) .z)))) .z)))
(.k (.bz .dX (.aB .mT))
(.k (.bz .gM (.bool ag))
.z))))))))
noncomputable def y2:Ss:=
(.k (.bz .jQ (.bc .len (.k (.aB .jR) .z)))
(.k (.bz .dX (.int 0))
(.k (.bz .gM (.bool ao))
(.k (.bz .lR (.bool ao))
(.k (.kD (.kL (.aB .lR)) uK)
.z)))))
noncomputable def r9:Ss:=
(.k (.expr (.bL .rO (.k (.aB .dC) .z)))
(.k (.expr (.bL .uB (.k (.aB .fR) .z)))
(.k (.setAttr (.aB .aG) .bq (.bc .bytes (.k (.aB .bq) .z)))
(.k (.setAttr (.aB .aG) .dC (.aB .dC))
(.k (.setAttr (.aB .aG) .fR (.aB .fR))
(.k (.setAttr (.aB .aG) .dX (.int 0))
(.k (.setAttr (.aB .aG) .d' (.int 0))
(.k (.setAttr (.aB .aG) .uf (.bool ao))
(.k (.setAttr (.aB .aG) .uY (.int 0))
(.k (.setAttr (.aB .aG) .uZ (.list ao .z))
(.k (.setAttr (.aB .aG) .xE (.bool ao))
(.k (.setAttr (.aB .aG) .hZ (.int 0))
(.k (.setAttr (.aB .aG) .jT (.int 0))
.z)))))))))))))
noncomputable def qv:Ss:=
(.k (.setAttr (.aB .aG) .dX (.aV (.aB .aG) .d'))
(.k (.setAttr (.aB .aG) .d' (.bc .min (.k (.bc .len (.k (.aV (.aB .aG) .bq) .z)) (.k (.bR .add (.aV (.aB .aG) .dX) (.aV (.aB .aG) .dC)) .z))))
(.k (.setAttr (.aB .aG) .uf (.cB (.bR .sub (.aV (.aB .aG) .d') (.aV (.aB .aG) .dX)) .lt (.aV (.aB .aG) .dC)))
.z)))
noncomputable def gX:Ss:=
(.k (.dp (.aV (.aB .aG) .uf) (.k (.dp (.cB (.aV (.aB .aG) .dX) .lt (.aV (.aB .aG) .d')) (.k (.setAttr (.aB .aG) .xE (.bool ag))
(.k (.setAttr (.aB .aG) .dX (.aV (.aB .aG) .d'))
.z)) .z)
(.k (.ret (.tuple (.k (.glob .u9) (.k (.bytes []) .z))))
.z)) .z)
(.k (.expr (.bk (.aB .aG) .xD .z))
.z))
noncomputable def r8:Ss:=
(.k (.kD (.cB (.bR .sub (.aV (.aB .aG) .d') (.aV (.aB .aG) .dX)) .lt (.glob .jU)) gX)
(.k (.bz .dX (.aV (.aB .aG) .dX))
(.k (.bz .xJ (.bR .sub (.aV (.aB .aG) .d') (.aB .dX)))
(.k (.bz .jQ (.bR .add (.idx (.aV (.aB .aG) .bq) (.bR .add (.aB .dX) (.int 4))) (.bR .mul (.idx (.aV (.aB .aG) .bq) (.bR .add (.aB .dX) (.int 5))) (.int 256))))
(.k (.bz .cM (.idx (.aV (.aB .aG) .bq) (.bR .add (.aB .dX) (.int 6))))
(.k (.dp (.cB (.bR .add (.glob .jU) (.aB .jQ)) .gt (.aB .xJ)) (.k (.setAttr (.aB .aG) .dX (.aV (.aB .aG) .d'))
(.k (.dp (.aV (.aB .aG) .uf) (.k (.setAttr (.aB .aG) .xE (.bool ag))
(.k (.ret (.tuple (.k (.glob .u9) (.k (.bytes []) .z))))
.z)) .z)
(.k (.ie (.aB .aG) .jT .add (.int 1))
(.k (.expr (.bk (.aB .aG) .CZ (.k (.aB .xJ) (.k .cK .z))))
(.k (.ret (.tuple (.k (.glob .u7) (.k (.bytes []) .z))))
.z))))) .z)
(.k (.dp (.b6 ag (.k (.cB (.aB .cM) .eq (.glob .WO)) (.k (.cB (.aB .jQ) .eq (.int 0)) .z))) (.k (.setAttr (.aB .aG) .dX (.aV (.aB .aG) .d'))
(.k (.ie (.aB .aG) .jT .add (.int 1))
(.k (.ret (.tuple (.k (.glob .u7) (.k (.bytes []) .z))))
.z))) .z)
(.k (.bz .mT (.bR .add (.bR .add (.aB .dX) (.glob .jU)) (.aB .jQ)))
(.k (.bz .xK (.slice ag (.aV (.aB .aG) .bq) (.bR .sub (.bR .add (.aB .dX) (.glob .jU)) (.int 1)) (.aB .mT)))
(.k (.dp (.cB (.bL .jW (.k (.aV (.aB .aG) .bq) (.k (.aB .dX) .z))) .ne (.bL .checksum (.k (.aV (.aB .aG) .fR) (.k (.aB .xK) .z)))) (.k (.setAttr (.aB .aG) .dX (.aV (.aB .aG) .d'))
(.k (.ie (.aB .aG) .jT .add (.int 1))
(.k (.expr (.bk (.aB .aG) .CZ (.k (.aB .xJ) (.k .cK .z))))
(.k (.ret (.tuple (.k (.glob .u7) (.k (.bytes []) .z))))
.z)))) .z)
(.k (.setAttr (.aB .aG) .dX (.aB .mT))
(.k (.ret (.tuple (.k (.aB .cM) (.k (.slice ag (.aB .xK) (.int 1) .none) .z))))
.z))))))))))))
noncomputable def mq:Ss:=
(.k (.jA [.cM,.bq] (.bk (.aB .aG) .CX .z))
(.k (.dp (.cB (.aB .cM) .eq (.glob .u9)) (.k (.dp (.aB .gM) (.k (.setAttr (.aB .aG) .xE (.bool ag))
.z) .z)
(.k (.ret .none)
.z)) .z)
(.k (.dp (.b6 ao (.k (.cB (.aB .cM) .eq (.glob .GR)) (.k (.cB (.aB .cM) .eq (.glob .D6)) .z))) (.k (.dp (.aB .gM) (.k (.ie (.aB .aG) .jT .add (.int 1))
(.k (.dp (.cB (.bc .len (.k (.aB .fX) .z)) .gt (.int 0)) (.k (.expr (.bk (.aB .aG) .CZ (.k (.bc .len (.k (.aB .fX) .z)) (.k .cK .z))))
.z) .z)
.z)) .z)
(.k (.dp (.cB (.aB .cM) .eq (.glob .GR)) (.k (.setAttr (.aB .aG) .hZ (.aV (.aB .aG) .dX))
(.k (.ret (.aB .bq))
.z)) .z)
(.k (.bz .fX (.bc .bytearray (.k (.aB .bq) .z)))
(.k (.bz .gM (.bool ag))
.z)))) (.k (.dp (.b6 ao (.k (.cB (.aB .cM) .eq (.glob .za)) (.k (.cB (.aB .cM) .eq (.glob .GQ)) .z))) (.k (.dp (.kL (.aB .gM)) (.k (.ie (.aB .aG) .jT .add (.int 1))
(.k (.expr (.bk (.aB .aG) .CZ (.k (.bc .len (.k (.aB .bq) .z)) (.k .cK .z))))
.z)) (.k (.expr (.bk (.aB .fX) .jS (.k (.aB .bq) .z)))
(.k (.dp (.cB (.aB .cM) .eq (.glob .GQ)) (.k (.setAttr (.aB .aG) .hZ (.aV (.aB .aG) .dX))
(.k (.ret (.bc .bytes (.k (.aB .fX) .z)))
.z)) .z)
.z)))
.z) (.k (.dp (.cB (.aB .cM) .eq (.glob .u7)) (.k (.dp (.aB .gM) (.k (.expr (.bk (.aB .aG) .CZ (.k (.bc .len (.k (.aB .fX) .z)) (.k .cK .z))))
.z) .z)
.z) (.k (.ie (.aB .aG) .jT .add (.int 1))
(.k (.expr (.bk (.aB .aG) .CZ (.k (.bR .add (.bc .len (.k (.aB .bq) .z)) (.bc .len (.k (.aB .fX) .z))) (.k (.bR .add .cK (.bc .str (.k (.aB .cM) .z))) .z))))
.z)))
(.k (.bz .fX (.bc .bytearray .z))
(.k (.bz .gM (.bool ao))
.z))))
.z))
.z)))
noncomputable def w9:Ss:=
(.k (.bz .gM (.bool ao))
(.k (.bz .fX (.bc .bytearray .z))
(.k (.kD (.bool ag) mq)
.z)))
noncomputable def w0:Ss:=
(.k (.expr (.bk (.aB .iL) .dg (.k (.aB .eg) .z)))
(.k (.bz .lB (.aV (.aB .sM) .hZ))
(.k (.bz .eg (.bk (.aB .sM) .Pz .z))
.z)))
noncomputable def CB:Ss:=
(.k (.bz .sM (.new ao .xC (.k (.aB .bq) (.k (.aB .dC) (.k (.aB .fR) .z)))))
(.k (.bz .iL (.list ao .z))
(.k (.bz .lB (.int 0))
(.k (.bz .eg (.bk (.aB .sM) .Pz .z))
(.k (.kD (.b6 ag (.k (.cB (.aB .eg) .lH .none) (.k (.cB (.aV (.aB .sM) .jT) .eq (.int 0)) .z))) w0)
(.k (.freeze .iL)
(.k (.ret (.tuple (.k (.aB .iL) (.k (.aB .lB) .z))))
.z)))))))
noncomputable def Lj:Ss:=
(.k (.ret (.bR .add (.idx (.aB .i8) (.bR .mod (.aB .xi) (.bc .len (.k (.aB .i8) .z)))) (.bR .mul (.int 7919) (.bR .fdiv (.aB .xi) (.bc .len (.k (.aB .i8) .z))))))
.z)
noncomputable def CH:Ss:=
(.k (.bz .cM (.glob .jj))
(.k (.dp (.cB (.bR .mod (.aB .xi) (.int 5)) .eq (.int 4)) (.k (.bz .cM (.glob .q6))
.z) .z)
(.k (.expr (.bk (.aB .f9) .dg (.k (.tuple (.k (.aB .bO) (.k (.aB .xi) (.k (.aB .cM) (.k (.bR .mul (.bc .bytes (.k (.list ag (.k (.bR .mod (.bR .add (.aB .bO) (.aB .xi)) (.int 256)) .z)) .z)) (.bR .mod (.aB .xi) (.int 3))) .z))))) .z)))
.z)))
noncomputable def Le:Ss:=
(.k (.bz .f9 (.list ao .z))
(.k (.forR .xi (.aB .cp) (.bR .add (.aB .cp) (.aB .eK)) CH)
(.k (.freeze .f9)
(.k (.ret (.aB .f9))
.z))))
noncomputable def CK:Ss:=
(.k (.ret (.comp ag (.new ag .Entry (.k (.aB .bO) (.k (.aB .cp) (.k (.aB .cM) (.k (.aB .bq) .z))))) ag [.bO,.cp,.cM,.bq] (.aB .f9) .none []))
.z)
noncomputable def K_:Ss:=
(.k (.ret (.comp ag (.bk (.aB .fZ) .mV .z) ao [.fZ] (.aB .aS) .none []))
.z)
noncomputable def O6:Ss:=
(.k (.expr (.bk (.key (.aB .xw) .fw) .aaP (.k (.aB .eg) .z)))
(.k (.expr (.bk (.key (.aB .xw) .km) .dg (.k (.aV (.key (.aB .xw) .fw) .gA) .z)))
.z))
noncomputable def Bn:Ss:=
(.k (.expr (.bL .mB (.k (.aB .xw) (.k (.bL .j7 (.k (.aB .fZ) .z)) .z))))
.z)
noncomputable def nF:Ss:=
(.k (.c4 (.aB .xw) .iG (.aV (.key (.aB .xw) .fw) .gA))
(.k (.c4 (.aB .xw) .iA (.list ao (.k (.tuple (.k (.key (.aB .xw) .iG) (.k (.aB .f9) (.k (.aB .cO) .z)))) .z)))
.z))
noncomputable def Bm:Ss:=
(.k (.dp (.cB (.aB .f9) .ne (.list ao .z)) (.k (.uz .fZ (.bL .rx (.k (.aB .f9) .z)) Bn)
(.k (.expr (.bL .mB (.k (.aB .xw) (.k (.aB .u1) .z))))
.z)) .z)
nF)
noncomputable def IV:Ss:=
(.k (.c4 (.aB .xw) .gC (.list ao .z))
(.k (.c4 (.aB .xw) .km (.list ao .z))
(.k (.c4 (.aB .xw) .fw (.new ao .jP (.k (.key (.aB .xw) .gC) (.k (.key (.aB .xw) .dC) (.k (.glob .iM) (.k (.int 0) .z))))))
(.k (.bz .u1 (.bL .oF (.k (.new ag .fQ (.k (.idx (.aB .cO) (.int 0)) (.k (.idx (.aB .cO) (.int 1)) (.k (.idx (.aB .cO) (.int 2)) .z)))) .z)))
(.k (.expr (.bL .mB (.k (.aB .xw) (.k (.bL .oG (.k (.key (.aB .xw) .cx) (.k (.key (.aB .xw) .bU) (.k (.key (.aB .xw) .dq) .z)))) .z))))
(.k (.expr (.bL .mB (.k (.aB .xw) (.k (.aB .u1) .z))))
Bm))))))
noncomputable def vY:Ss:=
(.k (.bz .xlog (.new ao .wk (.k (.aB .cV) (.k (.bR .shl (.int 1) (.int 20)) .z))))
(.k (.expr (.bk (.aB .xlog) .ug (.k (.aV (.aB .cO) .h_) .z)))
(.k (.expr (.bk (.aB .xlog) .qY (.k (.key (.aB .xw) .cx) .z)))
(.k (.c4 (.aB .xw) .cV (.aB .cV))
(.k (.c4 (.aB .xw) .xlog (.aB .xlog))
.z)))))
noncomputable def O7:Ss:=
(.k (.bz .cV (.new ao .iz (.k (.key (.aB .xw) .dq) .z)))
(.k (.expr (.bk (.aB .cV) .qG (.k (.new ag .Snapshot (.k (.key (.aB .xw) .cx) (.k (.key (.aB .xw) .bU) (.k (.key (.aB .xw) .dq) (.k (.bytes []) .z))))) .z)))
(.k (.expr (.bk (.aB .cV) .dg (.k (.aB .aS) .z)))
(.k (.expr (.bk (.aB .cV) .wu (.k (.aB .cO) .z)))
vY))))
noncomputable def yT:Ss:=
(.k (.ret (.cB (.bL .j6 (.k (.bk (.aB .xlog) .u4 .z) .z)) .eq (.aB .iq)))
.z)
noncomputable def yU:Ss:=
(.k (.dp (.cB (.bL .j6 (.k (.bk (.aB .xlog) .qD .z) .z)) .ne (.slice ag (.aB .iq) (.bR .sub (.key (.aB .xw) .d9) (.key (.aB .xw) .cx)) (.bR .sub (.key (.aB .xw) .b5) (.key (.aB .xw) .cx)))) (.k (.ret (.bool ao))
.z) .z)
yT)
noncomputable def yV:Ss:=
(.k (.dp (.cB (.tuple (.k (.aV (.aB .xlog) .b5) (.k (.aV (.aB .xlog) .d9) .z))) .ne (.tuple (.k (.key (.aB .xw) .b5) (.k (.key (.aB .xw) .d9) .z)))) (.k (.ret (.bool ao))
.z) .z)
yU)
noncomputable def qN:Ss:=
(.k (.dp (.cB (.tuple (.k (.bk (.aB .xlog) .de .z) (.k (.bk (.aB .xlog) .cn .z) (.k (.bk (.aB .xlog) .zK .z) .z)))) .ne (.tuple (.k (.bR .add (.key (.aB .xw) .cx) (.int 1)) (.k (.aB .xlast) (.k (.aB .bO) .z))))) (.k (.ret (.bool ao))
.z) .z)
yV)
noncomputable def FP:Ss:=
(.k (.bz .xlog (.key (.aB .xw) .xlog))
(.k (.bz .iq (.key (.aB .xw) .iq))
(.k (.bz .xlast (.bR .add (.key (.aB .xw) .cx) (.bc .len (.k (.aB .iq) .z))))
(.k (.bz .bO (.key (.aB .xw) .bU))
(.k (.dp (.cB (.aB .iq) .ne (.list ag .z)) (.k (.bz .bO (.idx (.idx (.aB .iq) (.neg (.int 1))) (.int 0)))
.z) .z)
qN)))))
noncomputable def iX:Ss:=
(.k (.ret (.cB (.bk (.key (.aB .xw) .xlog) .tF (.k (.aB .dA) (.k (.aB .bO) (.k (.key (.aB .xw) .tE) (.k (.bL .rx (.k (.aB .pv) .z)) .z))))) .eq (.aB .zE)))
.z)
noncomputable def kQ:Ss:=
(.k (.bz .zE .none)
(.k (.dp (.b6 ag (.k (.cB (.aB .dA) .le (.aB .mz)) (.k (.b6 ao (.k (.cB (.aB .dA) .eq (.aB .cx)) (.k (.cB (.idx (.idx (.aB .iq) (.bR .sub (.bR .sub (.aB .dA) (.aB .cx)) (.int 1))) (.int 0)) .eq (.aB .bO)) .z))) .z))) (.k (.bz .zE (.aB .fY))
(.k (.bz .mW (.comp ag (.idx (.aB .mV) (.int 1)) ao [.mV] (.aB .pv) (.b6 ao (.k (.cB (.idx (.aB .mV) (.int 1)) .gt (.aB .mz)) (.k (.cB (.idx (.aB .iq) (.bR .sub (.bR .sub (.idx (.aB .mV) (.int 1)) (.aB .cx)) (.int 1))) .ne (.aB .mV)) .z))) [.mz,.iq,.cx]))
(.k (.dp (.cB (.aB .mW) .ne (.list ag .z)) (.k (.c4 (.aB .xw) .iq (.bR .add (.slice ag (.aB .iq) .none (.bR .sub (.bR .sub (.idx (.aB .mW) (.int 0)) (.aB .cx)) (.int 1))) (.slice ag (.aB .pv) (.bR .sub (.bR .sub (.idx (.aB .mW) (.int 0)) (.aB .dA)) (.int 1)) .none)))
(.k (.c4 (.aB .xw) .lA (.bc .min (.k (.key (.aB .xw) .lA) (.k (.bR .sub (.bR .sub (.idx (.aB .mW) (.int 0)) (.aB .cx)) (.int 1)) .z))))
.z)) .z)
(.k (.c4 (.aB .xw) .b5 (.bc .max (.k (.key (.aB .xw) .b5) (.k (.bc .min (.k (.key (.aB .xw) .tE) (.k (.aB .fY) .z))) .z))))
(.k (.c4 (.aB .xw) .fY (.aB .fY))
.z))))) .z)
iX))
noncomputable def w7:Ss:=
(.k (.bz .bO (.key (.aB .xw) .bU))
(.k (.dp (.cB (.aB .dA) .gt (.aB .cx)) (.k (.bz .bO (.idx (.idx (.aB .ji) (.bR .sub (.bR .sub (.aB .dA) (.aB .cx)) (.int 1))) (.int 0)))
.z) .z)
kQ))
noncomputable def qL:Ss:=
(.k (.bz .iq (.key (.aB .xw) .iq))
(.k (.bz .mz (.bR .add (.aB .cx) (.bc .len (.k (.aB .iq) .z))))
(.k (.bz .dA (.bc .max (.k (.aB .cx) (.k (.bR .sub (.bc .min (.k (.aB .xlast) (.k (.bR .add (.aB .mz) (.bR .fdiv (.bR .mod (.bR .fdiv (.aB .xr) (.int 35)) (.int 6)) (.int 5))) .z))) (.bR .mod (.bR .fdiv (.aB .xr) (.int 7)) (.int 4))) .z))))
(.k (.bz .pv (.slice ag (.aB .ji) (.bR .sub (.aB .dA) (.aB .cx)) (.bR .add (.bR .add (.bR .sub (.aB .dA) (.aB .cx)) (.int 1)) (.bR .mod (.bR .fdiv (.aB .xr) (.int 5)) (.int 3)))))
(.k (.bz .fY (.bR .add (.aB .dA) (.bc .len (.k (.aB .pv) .z))))
w7)))))
noncomputable def qM:Ss:=
(.k (.c4 (.aB .xw) .ji (.aB .ji))
(.k (.bz .xlast (.bR .add (.aB .cx) (.bc .len (.k (.aB .ji) .z))))
(.k (.c4 (.aB .xw) .tE (.bc .min (.k (.aB .xlast) (.k (.bR .add (.key (.aB .xw) .tE) (.idx (.list ag (.k (.int 0) (.k (.int 1) (.k (.int 0) (.k (.int 2) .z))))) (.bR .mod (.bR .fdiv (.aB .xr) (.int 24)) (.int 4)))) .z))))
qL)))
noncomputable def FO:Ss:=
(.k (.bz .cx (.key (.aB .xw) .cx))
(.k (.bz .ji (.key (.aB .xw) .ji))
(.k (.bz .xlast (.bR .add (.aB .cx) (.bc .len (.k (.aB .ji) .z))))
(.k (.dp (.cB (.bR .mod (.aB .xr) (.int 3)) .eq (.int 0)) (.k (.bz .Yo (.bR .sub (.aB .xlast) (.bR .mod (.bR .fdiv (.aB .xr) (.int 3)) (.bR .add (.bR .sub (.aB .xlast) (.key (.aB .xw) .tE)) (.int 1)))))
(.k (.sg (.aB .xw) .bO .add (.bR .add (.int 1) (.bR .mod (.bR .fdiv (.aB .xr) (.int 60)) (.int 2))))
(.k (.bz .ji (.bR .add (.slice ag (.aB .ji) .none (.bR .sub (.aB .Yo) (.aB .cx))) (.bL .vA (.k (.key (.aB .xw) .bO) (.k (.bR .add (.aB .Yo) (.int 1)) (.k (.bR .add (.int 1) (.bR .mod (.bR .fdiv (.aB .xr) (.int 12)) (.int 2))) .z))))))
.z))) (.k (.bz .ji (.bR .add (.aB .ji) (.bL .vA (.k (.key (.aB .xw) .bO) (.k (.bR .add (.aB .xlast) (.int 1)) (.k (.bR .sub (.bR .add (.bR .mod (.bR .fdiv (.aB .xr) (.int 12)) (.int 2)) (.bR .mod (.aB .xr) (.int 3))) (.int 1)) .z))))))
.z))
qM))))
noncomputable def Lh:Ss:=
(.k (.bz .dX (.bR .sub (.bR .sub (.aB .dA) (.key (.aB .xw) .cx)) (.int 1)))
(.k (.ret (.b6 ao (.k (.cB (.aB .dX) .lt (.int 0)) (.k (.b6 ag (.k (.cB (.aB .dX) .lt (.bc .len (.k (.key (.aB .xw) .iq) .z))) (.k (.cB (.idx (.idx (.key (.aB .xw) .iq) (.aB .dX)) (.int 0)) .eq (.aB .bO)) .z))) .z))))
.z))
noncomputable def CG:Ss:=
(.k (.expr (.bL .mB (.k (.aB .xw) (.k (.bL .j7 (.k (.aB .fZ) .z)) .z))))
.z)
noncomputable def rT:Ss:=
(.k (.dp (.cB (.bR .mod (.aB .xr) (.int 2)) .eq (.int 0)) (.k (.c4 (.aB .xw) .iG (.aV (.key (.aB .xw) .fw) .gA))
(.k (.dp (.KC (.key (.aB .xw) .cx) .lt (.key (.aB .xw) .fY) .le (.bR .add (.key (.aB .xw) .cx) (.bc .len (.k (.key (.aB .xw) .iq) .z)))) (.k (.expr (.bk (.key (.aB .xw) .mX) .dg (.k (.tuple (.k (.key (.aB .xw) .fY) (.k (.idx (.idx (.key (.aB .xw) .iq) (.bR .sub (.bR .sub (.key (.aB .xw) .fY) (.key (.aB .xw) .cx)) (.int 1))) (.int 0)) .z))) .z)))
.z) .z)
.z)) .z)
(.k (.ret (.bool ag))
.z))
noncomputable def rU:Ss:=
(.k (.c4 (.aB .xw) .mX (.comp ao (.tuple (.k (.aB .dA) (.k (.aB .bO) .z))) ag [.dA,.bO] (.key (.aB .xw) .mX) (.bL .HO (.k (.aB .xw) (.k (.aB .dA) (.k (.aB .bO) .z)))) [.xw]))
rT)
noncomputable def tP:Ss:=
(.k (.c4 (.aB .xw) .lA (.bc .len (.k (.key (.aB .xw) .iq) .z)))
rU)
noncomputable def tQ:Ss:=
(.k (.dp (.cB (.aB .mR) .ne (.list ag .z)) (.k (.expr (.bk (.key (.aB .xw) .xlog) .p_ (.k (.aV (.idx (.aB .mR) (.neg (.int 1))) .cp) (.k (.aV (.idx (.aB .mR) (.neg (.int 1))) .bO) .z))))
.z) .z)
tP)
noncomputable def tR:Ss:=
(.k (.expr (.bk (.key (.aB .xw) .cV) .dg (.k (.aB .mR) .z)))
(.k (.expr (.bk (.key (.aB .xw) .cV) .wu (.k (.aB .cO) .z)))
tQ))
noncomputable def tS:Ss:=
(.k (.expr (.bL .mB (.k (.aB .xw) (.k (.bL .oF (.k (.aB .cO) .z)) .z))))
(.k (.expr (.bk (.key (.aB .xw) .iA) .dg (.k (.tuple (.k (.aV (.key (.aB .xw) .fw) .gA) (.k (.key (.aB .xw) .iq) (.k (.bk (.aB .cO) .mV .z) .z)))) .z)))
tR))
noncomputable def CF:Ss:=
(.k (.uz .fZ (.aB .mR) CG)
tS)
noncomputable def Ld:Ss:=
(.k (.bz .mR (.bk (.key (.aB .xw) .xlog) .om .z))
(.k (.dp (.cB (.bL .j6 (.k (.aB .mR) .z)) .ne (.slice ag (.key (.aB .xw) .iq) (.key (.aB .xw) .lA) .none)) (.k (.ret (.bool ao))
.z) .z)
(.k (.bz .cO (.new ag .fQ (.k (.key (.aB .xw) .bO) (.k (.bR .mod (.bR .fdiv (.aB .xr) (.int 2)) (.int 300)) (.k (.key (.aB .xw) .b5) .z)))))
CF)))
noncomputable def IW:Ss:=
(.k (.bz .mT (.bR .add (.key (.aB .xw) .d9) (.bR .mod (.aB .xr) (.bR .add (.bR .sub (.key (.aB .xw) .b5) (.key (.aB .xw) .d9)) (.int 1)))))
(.k (.expr (.bk (.key (.aB .xw) .xlog) .qY (.k (.aB .mT) .z)))
(.k (.c4 (.aB .xw) .d9 (.aB .mT))
.z)))
noncomputable def FN:Ss:=
(.k (.bz .bq (.bR .add (.aB .bq) (.aB .CU)))
.z)
noncomputable def FL:Ss:=
(.k (.expr (.bk (.aB .cq) .xF (.k (.aB .eg) .z)))
.z)
noncomputable def tW:Ss:=
(.k (.expr (.bL .ET (.k (.aB .xw) (.k (.aV (.aB .cq) .aS) (.k (.aV (.aB .cq) .cO) .z)))))
(.k (.ret (.b6 ag (.k (.bL .ql (.k (.aB .xw) .z)) (.k (.bc .all (.k (.comp ag (.bk (.key (.aB .xw) .xlog) .lz (.k (.aB .dA) (.k (.aB .bO) .z))) ag [.dA,.bO] (.key (.aB .xw) .mX) .none [.xw]) .z)) .z))))
.z))
noncomputable def lx:Ss:=
(.k (.c4 (.aB .xw) .iq (.aB .f9))
(.k (.c4 (.aB .xw) .b5 (.idx (.aB .cO) (.int 2)))
(.k (.c4 (.aB .xw) .d9 (.key (.aB .xw) .cx))
(.k (.c4 (.aB .xw) .lA (.bc .len (.k (.aB .f9) .z)))
(.k (.c4 (.aB .xw) .fY (.key (.aB .xw) .cx))
tW)))))
noncomputable def tX:Ss:=
(.k (.dp (.b6 ao (.k (.cB (.aB .lB) .lt (.aB .dX)) (.k (.cB (.aV (.aB .cq) .ip) .ne (.list ag .z)) .z))) (.k (.expr (.bL .sZ (.k (.aB .xw) (.k (.aB .f9) (.k (.aB .cO) .z)))))
.z) (.k (.c4 (.aB .xw) .gC (.list ao (.k (.aB .bq) .z)))
(.k (.c4 (.aB .xw) .fw (.new ao .jP (.k (.key (.aB .xw) .gC) (.k (.key (.aB .xw) .dC) (.k (.glob .iM) (.k (.aB .dX) .z))))))
(.k (.c4 (.aB .xw) .km (.aB .kA))
(.k (.c4 (.aB .xw) .iA (.aB .iA))
(.k (.c4 (.aB .xw) .iG (.aB .dX))
.z))))))
lx)
noncomputable def tY:Ss:=
(.k (.expr (.bk (.aB .cq) .u2 .z))
(.k (.bz .Pw (.tuple (.k (.aV (.aB .cq) .eK) (.k (.aV (.aB .cq) .cD) (.k (.aV (.aB .cq) .bU) (.k (.bk (.aV (.aB .cq) .dq) .mV .z) (.k (.bk (.aV (.aB .cq) .cO) .mV .z) .z)))))))
(.k (.dp (.b6 ao (.k (.cB (.aB .Pw) .ne (.tuple (.k (.bc .len (.k (.aB .kA) .z)) (.k (.key (.aB .xw) .cx) (.k (.key (.aB .xw) .bU) (.k (.bk (.key (.aB .xw) .dq) .mV .z) (.k (.aB .cO) .z))))))) (.k (.cB (.bL .j6 (.k (.aV (.aB .cq) .aS) .z)) .ne (.aB .f9)) .z))) (.k (.ret (.bool ao))
.z) .z)
(.k (.dp (.cB (.bc .len (.k (.aV (.aB .cq) .ip) .z)) .ne (.bc .len (.k (.comp ag (.aB .mz) ao [.mz] (.aB .kA) (.cB (.aB .mz) .gt (.aB .oq)) [.oq]) .z))) (.k (.ret (.bool ao))
.z) .z)
tX))))
noncomputable def vZ:Ss:=
(.k (.bz .cq (.new ao .iY .z))
(.k (.uz .eg (.aB .iL) FL)
tY))
noncomputable def v5:Ss:=
(.k (.jA [.iL,.lB] (.bL .xU (.k (.aB .bq) (.k (.key (.aB .xw) .dC) (.k (.glob .iM) .z)))))
(.k (.dp (.b6 ao (.k (.cB (.aB .lB) .ne (.idx (.aB .kA) (.neg (.int 1)))) (.k (.cB (.bc .len (.k (.aB .iL) .z)) .ne (.bc .len (.k (.aB .kA) .z))) .z))) (.k (.ret (.bool ao))
.z) .z)
vZ))
noncomputable def v7:Ss:=
(.k (.bz .kA (.comp ao (.aB .mz) ao [.mz] (.key (.aB .xw) .km) (.cB (.aB .mz) .le (.aB .dX)) [.dX]))
(.k (.bz .iA (.comp ao (.aB .Py) ao [.Py] (.key (.aB .xw) .iA) (.cB (.idx (.aB .Py) (.int 0)) .le (.aB .dX)) [.dX]))
(.k (.jA [.oq,.f9,.cO] (.idx (.aB .iA) (.neg (.int 1))))
v5)))
noncomputable def v8:Ss:=
(.k (.bz .dX (.bR .sub (.bc .len (.k (.aB .bq) .z)) (.bR .mod (.aB .xr) (.bR .add (.bR .sub (.bc .len (.k (.aB .bq) .z)) (.key (.aB .xw) .iG)) (.int 1)))))
(.k (.bz .bq (.slice ag (.aB .bq) .none (.aB .dX)))
v7))
noncomputable def O8:Ss:=
(.k (.bz .bq (.bytes []))
(.k (.uz .CU (.key (.aB .xw) .gC) FN)
v8))
noncomputable def Lb:Ss:=
(.k (.bz .dq .none)
(.k (.dp (.cB (.aV (.aB .cq) .dq) .lH .none) (.k (.bz .dq (.bk (.aV (.aB .cq) .dq) .mV .z))
.z) .z)
(.k (.bz .cx (.tuple (.k (.aV (.aB .cq) .cD) (.k (.aV (.aB .cq) .bU) (.k (.aB .dq) .z)))))
(.k (.ret (.tuple (.k (.aV (.aB .cq) .eK) (.k (.aB .cx) (.k (.bk (.aV (.aB .cq) .cO) .mV .z) (.k (.bL .j6 (.k (.aV (.aB .cq) .aS) .z)) (.k (.bL .j6 (.k (.aV (.aB .cq) .ip) .z)) .z)))))))
.z))))
noncomputable def w6:Ss:=
(.k (.bz .zH (.bool ao))
(.k (.Ea (.k (.expr (.bk (.aB .cq) .xF (.k (.aB .eg) .z)))
.z) ao [.eT] (.setB .zH ag))
(.k (.dp (.kL (.aB .zH)) (.k (.ret (.bool ao))
.z) .z)
.z)))
noncomputable def CI:Ss:=
(.k (.bz .Ym (.bL .Au (.k (.aB .cq) .z)))
(.k (.uz .eg (.aB .iL) w6)
(.k (.ret (.cB (.bL .Au (.k (.aB .cq) .z)) .eq (.aB .Ym)))
.z)))
noncomputable def rV:Ss:=
(.k (.expr (.bk (.aB .cq) .xF (.k (.bL .j7 (.k (.new ag .Entry (.k (.key (.aB .xw) .bO) (.k (.bR .add (.aB .cx) (.idx (.list ag (.k (.int 0) (.k (.int 3) .z))) (.bR .mod (.aB .xr) (.int 2)))) (.k (.glob .jj) (.k (.bytes []) .z))))) .z)) .z)))
(.k (.ret (.bL .lG (.k (.aB .cq) (.k (.list ag (.k (.aB .cO) .z)) .z))))
.z))
noncomputable def rW:Ss:=
(.k (.dp (.b6 ao (.k (.kL (.bL .lG (.k (.aB .cq) (.k (.list ag (.k (.bytes []) (.k (.aB .Jq) (.k (.aB .zI) .z)))) .z)))) (.k (.cB (.bc .len (.k (.aV (.aB .cq) .aS) .z)) .ne (.int 1)) .z))) (.k (.ret (.bool ao))
.z) .z)
rV)
noncomputable def rX:Ss:=
(.k (.expr (.bk (.aB .cq) .xF (.k (.aB .cO) .z)))
(.k (.expr (.bk (.aB .cq) .xF (.k (.aB .iB) .z)))
(.k (.expr (.bk (.aB .cq) .xF (.k (.aB .cO) .z)))
rW)))
noncomputable def tT:Ss:=
(.k (.expr (.bk (.aB .cq) .xF (.k (.aB .Mf) .z)))
(.k (.dp (.kL (.bL .lG (.k (.aB .cq) (.k (.list ag (.k (.bytes []) (.k (.aB .Jq) (.k (.aB .zI) (.k (.aB .iB) .z))))) .z)))) (.k (.ret (.bool ao))
.z) .z)
rX))
noncomputable def tU:Ss:=
(.k (.bz .cq (.new ao .iY .z))
(.k (.dp (.kL (.bL .lG (.k (.aB .cq) (.k (.list ag (.k (.bytes []) (.k (.aB .Jq) (.k (.aB .cO) (.k (.aB .iB) .z))))) .z)))) (.k (.ret (.bool ao))
.z) .z)
tT))
noncomputable def tV:Ss:=
(.k (.bz .Mf (.bL .oG (.k (.aB .cx) (.k (.key (.aB .xw) .bU) (.k (.key (.aB .xw) .dq) .z)))))
(.k (.bz .zI (.bL .oG (.k (.bR .add (.aB .cx) (.int 1)) (.k (.bR .add (.key (.aB .xw) .bU) (.int 1)) (.k (.new ag .hJ (.k (.list ag (.k (.int 3) .z)) (.k (.list ag .z) (.k (.list ag .z) (.k (.list ag .z) (.k (.bool ao) .z)))))) .z)))))
(.k (.bz .cO (.bL .oF (.k (.new ag .fQ (.k (.key (.aB .xw) .bO) (.k (.int 0) (.k (.aB .cx) .z)))) .z)))
(.k (.bz .iB (.bL .j7 (.k (.new ag .Entry (.k (.key (.aB .xw) .bO) (.k (.bR .add (.aB .cx) (.int 1)) (.k (.glob .jj) (.k (.bytes []) .z))))) .z)))
tU))))
noncomputable def Li:Ss:=
(.k (.bz .cx (.key (.aB .xw) .cx))
(.k (.bz .Jq (.bc .bytes (.k (.list ag (.k (.idx (.list ag (.k (.int 0) (.k (.int 3) (.k (.bR .add (.int 5) (.bR .mod (.aB .xr) (.int 251))) .z)))) (.bR .mod (.bR .fdiv (.aB .xr) (.int 251)) (.int 3))) (.k (.int 0) (.k (.int 0) (.k (.int 0) (.k (.int 0) .z)))))) .z)))
tV))
noncomputable def yj:Ss:=
(.k (.dp (.kL (.aB .lB)) (.k (.ret (.bool ao))
.z) .z)
.z)
noncomputable def IT:Ss:=
(.k (.dp (.b6 ag (.k (.b6 ao (.k (.cB (.aB .NJ) .eq (.int 1)) (.k (.cB (.aB .NJ) .eq (.int 7)) .z))) (.k (.cB (.key (.aB .xw) .qF) .gt (.int 0)) .z))) (.k (.sg (.aB .xw) .qF .sub (.int 1))
(.k (.bz .lB (.bL .zt (.k (.aB .xw) (.k (.aB .xr) .z))))
.z)) (.k (.dp (.b6 ao (.k (.cB (.aB .NJ) .eq (.int 2)) (.k (.cB (.aB .NJ) .eq (.int 4)) .z))) (.k (.bz .lB (.bL .ru (.k (.aB .xw) (.k (.aB .xr) .z))))
.z) (.k (.dp (.cB (.aB .NJ) .eq (.int 6)) (.k (.expr (.bL .wQ (.k (.aB .xw) (.k (.aB .xr) .z))))
.z) (.k (.bz .lB (.bL .nt (.k (.aB .xw) (.k (.aB .xr) .z))))
.z))
.z))
.z))
yj)
noncomputable def IU:Ss:=
(.k (.bz .xn (.bL .pG (.k (.aB .i8) (.k (.bR .add (.int 3) (.aB .xi)) .z))))
(.k (.bz .xr (.bR .fdiv (.aB .xn) (.int 8)))
(.k (.bz .NJ (.bR .mod (.aB .xn) (.int 8)))
(.k (.bz .lB (.bool ag))
IT))))
noncomputable def DM:Ss:=
(.k (.bz .xlast (.bL .pG (.k (.aB .i8) (.k (.int 9) .z))))
(.k (.dp (.b6 ao (.k (.kL (.bL .ru (.k (.aB .xw) (.k (.aB .xlast) .z)))) (.k (.kL (.bL .zt (.k (.aB .xw) (.k (.bR .fdiv (.aB .xlast) (.int 2)) .z)))) .z))) (.k (.ret (.bool ao))
.z) .z)
(.k (.dp (.b6 ao (.k (.kL (.bL .nt (.k (.aB .xw) (.k (.bR .fdiv (.aB .xlast) (.int 7)) .z)))) (.k (.kL (.bL .ql (.k (.aB .xw) .z))) .z))) (.k (.ret (.bool ao))
.z) .z)
(.k (.ret (.bL .Av (.k (.aB .xw) (.k (.aB .xz) .z))))
.z))))
noncomputable def DN:Ss:=
(.k (.forR .xi .none (.int 6) IU)
DM)
noncomputable def DO:Ss:=
(.k (.c4 (.aB .xw) .ji (.bL .vA (.k (.key (.aB .xw) .bO) (.k (.bR .add (.aB .cx) (.int 1)) (.k (.int 3) .z)))))
(.k (.dp (.b6 ao (.k (.kL (.bL .nt (.k (.aB .xw) (.k (.bR .add (.int 1) (.bR .mul (.int 12) (.bR .mod (.aB .xz) (.int 997)))) .z)))) (.k (.kL (.bL .ru (.k (.aB .xw) (.k (.bR .mul (.int 2) (.bR .fdiv (.aB .xz) (.int 997))) .z)))) .z))) (.k (.ret (.bool ao))
.z) .z)
DN))
noncomputable def DP:Ss:=
(.k (.expr (.bL .sZ (.k (.aB .xw) (.k (.list ag .z) (.k (.tuple (.k (.aB .bU) (.k (.int 0) (.k (.aB .cx) .z)))) .z)))))
(.k (.expr (.bL .ET (.k (.aB .xw) (.k (.list ag .z) (.k (.new ag .fQ (.k (.aB .bU) (.k (.int 0) (.k (.aB .cx) .z)))) .z)))))
DO))
noncomputable def DQ:Ss:=
(.k (.bz .xw (.dict [.cx,.bU,.dC,.qF,.dq,.bO,.ji,.tE,.iq,.b5,.d9,.lA,.fY,.mX] (.k (.aB .cx) (.k (.aB .bU) (.k (.aB .dC) (.k (.aB .qF) (.k (.new ag .hJ (.k (.list ag (.k (.int 1) (.k (.bR .add (.int 2) (.bR .mod (.aB .xy) (.int 300))) .z))) (.k (.list ag .z) (.k (.list ag .z) (.k (.list ag .z) (.k (.bool ao) .z)))))) (.k (.bR .add (.aB .bU) (.int 1)) (.k (.list ag .z) (.k (.aB .cx) (.k (.list ag .z) (.k (.aB .cx) (.k (.aB .cx) (.k (.int 0) (.k (.aB .cx) (.k (.list ao .z) .z))))))))))))))))
DP)
noncomputable def IQ:Ss:=
(.k (.bz .cx (.bR .add (.int 2) (.bR .mod (.bR .add (.bR .fdiv (.aB .xx) (.int 53)) (.int 198)) (.int 19999))))
(.k (.bz .bU (.bR .add (.bR .add (.int 1) (.idx (.list ag (.k (.int 0) (.k (.int 126) (.k (.int 16382) .z)))) (.bR .mod (.aB .xy) (.int 3)))) (.bR .mod (.bR .fdiv (.aB .xy) (.int 3)) (.int 2))))
(.k (.bz .dC (.bR .add (.int 8) (.bR .mod (.bR .add (.aB .xx) (.int 22)) (.int 53))))
(.k (.bz .qF (.int 2))
(.k (.dp (.cB (.aB .dC) .lt (.int 16)) (.k (.bz .qF (.int 1))
.z) .z)
DQ)))))
noncomputable def Bl:Ss:=
(.k (.bz .xx (.bL .pG (.k (.aB .i8) (.k (.int 0) .z))))
(.k (.bz .xy (.bL .pG (.k (.aB .i8) (.k (.int 1) .z))))
(.k (.bz .xz (.bL .pG (.k (.aB .i8) (.k (.int 2) .z))))
IQ)))
noncomputable def aci:Ss:=
(.k (.bz .i8 (.comp ag (.bR .mod (.aB .xx) (.int 999983)) ao [.xx] (.slice ag (.aB .D5) .none (.int 12)) .none []))
(.k (.dp (.cB (.bc .len (.k (.aB .i8) .z)) .eq (.int 0)) (.k (.bz .i8 (.list ag (.k (.int 0) .z)))
.z) .z)
Bl))
noncomputable def Wa:ah Ss:=[
 Bh,CD,FH,CA,Bk,yP,
 yO,CE,Bj,yQ,Lk,wb,
 CR,y5,v_,CS,CT,yY,
 CQ,yX,FR,IX,IY,Sb,
 FG,xa,IZ,FT,Bq,Br,
 FK,r_,y4,w_,sd,y6,
 O5,K9,CN,CO,tu,CL,
 Bp,CM,pU,tv,o9,o8,
 rZ,nG,pg,mI,nM,kj,
 pW,pf,qu,kS,tr,qs,
 qR,qQ,rY,kR,yW,uJ,
 qS,r4,tx,Bs,r3,qt,
 w8,pV,tA,r6,tw,nH,
 nJ,oh,uI,o_,v9,qT,
 yZ,CP,FQ,yR,r7,y0,
 y2,r9,qv,r8,w9,CB,
 Lj,Le,CK,K_,O6,IV,
 O7,FP,FO,Lh,Ld,IW,
 O8,Lb,CI,Li,aci
 ]
noncomputable def Fn.body (f:Fn):Ss:=Ak Wa f.n .nil
noncomputable def aM:Nat->CC
 | 0,_,_,_,_,_=>False
 |n+1,f,vs,H,Q,X=>Got (pJ f vs) fun ws=>wSs (aM n) ag f.body (bZ.none.sets f.ps ws) H (Cc Q) (wJ X)
open PySem PySem.W PyProof.Rows
section
variable {α:Type}
noncomputable def l0 (l:ah α):aj:=match l with
 |[]=>ag
 |_::_=>ao
noncomputable def l1 (l:ah α) (f:α->aj):aj:=match l with
 |[]=>ao
 |x::r=>f x&&l0 r
noncomputable def l2 (l:ah α) (f:α->α->aj):aj:=match l with
 |[]=>ao
 |x::r=>l1 r (f x)
noncomputable def o0 (o:aC α):aj:=match o with
 |none=>ag
 |some _=>ao
noncomputable def o1 (o:aC α) (f:α->aj):aj:=match o with
 |none=>ao
 |some x=>f x
end
noncomputable def dQ (x:Nm):Str:=Str.ofString x.s
structure Tab where
 cA:Cn->ax
 fA:Fn->ax
noncomputable def EA (x:av) (f:Int->Tok->aj):aj:=if h:x.ctorIdx=4 then PySem.Value.int.elim (motive:=fun _=>aj) x h f else ao
noncomputable def JS (x:av) (f:Str->Tok->aj):aj:=if h:x.ctorIdx=6 then PySem.Value.str.elim (motive:=fun _=>aj) x h f else ao
noncomputable def Ez (x:av) (f:b_->aj):aj:=if h:x.ctorIdx=8 then PySem.Value.type.elim (motive:=fun _=>aj) x h f else ao
noncomputable def QA (x:av) (f:b_->aj):aj:=if h:x.ctorIdx=9 then PySem.Value.builtin.elim (motive:=fun _=>aj) x h f else ao
noncomputable def Ab (x:av) (f:ax->aj):aj:=if h:x.ctorIdx=10 then PySem.Value.ref.elim (motive:=fun _=>aj) x h f else ao
noncomputable def J5 (x:iu) (f:(bS av)->Nat->aj):aj:=if h:x.ctorIdx=2 then PySem.Data.seq.elim (motive:=fun _=>aj) x h f else ao
noncomputable def QF (x:iu) (f:f6->aj):aj:=if h:x.ctorIdx=7 then PySem.Data.func.elim (motive:=fun _=>aj) x h f else ao
noncomputable def J6 (x:iu) (f:ClassData->aj):aj:=if h:x.ctorIdx=8 then PySem.Data.cls.elim (motive:=fun _=>aj) x h f else ao
noncomputable def QG (x:iu) (f:(bS av)->aj):aj:=if h:x.ctorIdx=9 then PySem.Data.fields.elim (motive:=fun _=>aj) x h f else ao
noncomputable def lk {α:Type} (l:ah α) (f:α->ah α->aj):aj:=l.casesOn ao f
noncomputable def Zq (K:cW) (C:ax) (bmB:ah av) (newId:b_):aj:=o1 (K.lookup C) fun o=>Ez o.cls fun ty=>ty=="type"&&J6 o.data fun cd=>lk cd.mro fun c bm=>Ab c (fun C'=>C'==C)&&!cd.hasDel&&tailIn K bmB bm&&nsOkIn K cd.ns&&nsIn K cd.ns "__init__"==aa au&&
 lk o.slots.toList fun _ r=>lk r fun _ r=>lk r fun _ r=>lk r fun _ r=>lk r fun n r=>o1 n (fun n=>QA n (· ==newId))&&l1 r fun _=>ag
noncomputable def Bi.s:Bi->b_
 |.len=>"len" |.bytes=>"bytes" |.bytearray=>"bytearray" |.min=>"min" |.max=>"max" |.sum=>"sum" |.sorted=>"sorted" |.tuple=>"tuple" |.str=>"str" |.all=>"all"
noncomputable def Bi.v:Bi->av
 |.bytes=>.type "bytes" |.bytearray=>.type "bytearray" |.tuple=>.type "tuple" |.str=>.type "str" |.len=>.builtin "len" |.min=>.builtin "min" |.max=>.builtin "max" |.sum=>.builtin "sum" |.sorted=>.builtin "sorted" |.all=>.builtin "all"
noncomputable def Cn.isExc (C:Cn):aj:=!C.sup.isEmpty
noncomputable def Xq:ah av:=[.type "Exception",.type "BaseException",.type "object"]
noncomputable def Bo.op:Bo->ig
 |.add=>.Add |.sub=>.Sub |.mul=>.Mult |.fdiv=>.FloorDiv |.mod=>.Mod |.band=>.BitAnd |.bor=>.BitOr |.shl=>.LShift |.shr=>.RShift |.bxor=>.BitXor
noncomputable def Co.op:Co->CmpOp
 |.eq=>.Eq |.ne=>.NotEq |.lt=>.Lt |.le=>.LtE |.gt=>.Gt |.ge=>.GtE |.is_=>.Is |.lH=>.IsNot
noncomputable def allB:(n:Nat)->((m:Nat)->Nat.ble m n=ag->aj)->aj
 | 0,p=>p 0 rfl
 |n+1,p=>p (n+1) (Nat.ble_self_eq_true _)&&allB n fun m h=>p m (Nat.ble_succ_eq_true h)
noncomputable def EH (x:d8) (f:aj):aj:=if h:x.ctorIdx=0 then PySem.Const.none.elim (motive:=fun _=>aj) x h (f) else ao
noncomputable def EI (x:d8) (f:aj->aj):aj:=if h:x.ctorIdx=1 then PySem.Const.bool.elim (motive:=fun _=>aj) x h (fun a=>f a) else ao
noncomputable def J7 (x:d8) (f:Int->aj):aj:=if h:x.ctorIdx=2 then PySem.Const.int.elim (motive:=fun _=>aj) x h (fun a=>f a) else ao
noncomputable def wL (x:d8) (f:Str->aj):aj:=if h:x.ctorIdx=5 then PySem.Const.str.elim (motive:=fun _=>aj) x h (fun a=>f a) else ao
noncomputable def Ag (x:d8) (f:(ah aA)->aj):aj:=if h:x.ctorIdx=6 then PySem.Const.bytes.elim (motive:=fun _=>aj) x h (fun a=>f a) else ao
noncomputable def Ai (x:ay) (f:BoolOp->(ah ay)->aj):aj:=if h:x.ctorIdx=0 then PySem.Expr.BoolOp.elim (motive_1:=fun _=>aj) x h (fun a b _=>f a b) else ao
noncomputable def EJ (x:ay) (f:ay->ig->ay->aj):aj:=if h:x.ctorIdx=2 then PySem.Expr.BinOp.elim (motive_1:=fun _=>aj) x h (fun a b d _=>f a b d) else ao
noncomputable def sW (x:ay) (f:UnaryOp->ay->aj):aj:=if h:x.ctorIdx=3 then PySem.Expr.UnaryOp.elim (motive_1:=fun _=>aj) x h (fun a b _=>f a b) else ao
noncomputable def EG (x:ay) (f:ay->ay->ay->aj):aj:=if h:x.ctorIdx=5 then PySem.Expr.IfExp.elim (motive_1:=fun _=>aj) x h (fun a b d _=>f a b d) else ao
noncomputable def J4 (x:ay) (f:(ah (aC ay))->(ah ay)->aj):aj:=if h:x.ctorIdx=6 then PySem.Expr.Dict.elim (motive_1:=fun _=>aj) x h (fun a b _=>f a b) else ao
noncomputable def um (x:ay) (f:ay->(ah Comprehension)->b9->aj):aj:=if h:x.ctorIdx=8 then PySem.Expr.ListComp.elim (motive_1:=fun _=>aj) x h (fun a b d _=>f a b d) else ao
noncomputable def sX (x:ay) (f:ay->(ah CmpOp)->(ah ay)->aj):aj:=if h:x.ctorIdx=15 then PySem.Expr.Compare.elim (motive_1:=fun _=>aj) x h (fun a b d _=>f a b d) else ao
noncomputable def uo (x:ay) (f:ay->(ah ay)->(ah Keyword)->Pos->aj):aj:=if h:x.ctorIdx=16 then PySem.Expr.Call.elim (motive_1:=fun _=>aj) x h (fun a b d p=>f a b d p) else ao
noncomputable def kK (x:ay) (f:ay->Int->(aC ay)->aj):aj:=if h:x.ctorIdx=17 then PySem.Expr.FormattedValue.elim (motive_1:=fun _=>aj) x h (fun a b d _=>f a b d) else ao
noncomputable def rl (x:ay) (f:(ah ay)->aj):aj:=if h:x.ctorIdx=18 then PySem.Expr.JoinedStr.elim (motive_1:=fun _=>aj) x h (fun a _=>f a) else ao
noncomputable def gj (x:ay) (f:d8->aj):aj:=if h:x.ctorIdx=19 then PySem.Expr.Constant.elim (motive_1:=fun _=>aj) x h (fun a _ _=>f a) else ao
noncomputable def lD (x:ay) (f:ay->Str->Pos->aj):aj:=if h:x.ctorIdx=20 then PySem.Expr.Attribute.elim (motive_1:=fun _=>aj) x h (fun a b p=>f a b p) else ao
noncomputable def iQ (x:ay) (f:ay->ay->aj):aj:=if h:x.ctorIdx=21 then PySem.Expr.Subscript.elim (motive_1:=fun _=>aj) x h (fun a b _=>f a b) else ao
noncomputable def EF (x:ay) (f:Str->aj):aj:=if h:x.ctorIdx=23 then PySem.Expr.Name.elim (motive_1:=fun _=>aj) x h (fun a _=>f a) else ao
noncomputable def JZ (x:ay) (f:(ah ay)->aj):aj:=if h:x.ctorIdx=24 then PySem.Expr.List.elim (motive_1:=fun _=>aj) x h (fun a _=>f a) else ao
noncomputable def vw (x:ay) (f:(ah ay)->aj):aj:=if h:x.ctorIdx=25 then PySem.Expr.Tuple.elim (motive_1:=fun _=>aj) x h (fun a _ _=>f a) else ao
noncomputable def EB (x:ay) (f:(aC ay)->(aC ay)->(aC ay)->aj):aj:=if h:x.ctorIdx=26 then PySem.Expr.Slice.elim (motive_1:=fun _=>aj) x h (fun a b d _=>f a b d) else ao
noncomputable def pE (x:aZ) (f:(aC ay)->aj):aj:=if h:x.ctorIdx=3 then PySem.Stmt.Return.elim (motive_2:=fun _=>aj) x h (fun a _=>f a) else ao
noncomputable def wK (x:aZ) (f:(ah ay)->ay->aj):aj:=if h:x.ctorIdx=5 then PySem.Stmt.Assign.elim (motive_2:=fun _=>aj) x h (fun a b _=>f a b) else ao
noncomputable def jY (x:aZ) (f:ay->ig->ay->aj):aj:=if h:x.ctorIdx=7 then PySem.Stmt.AugAssign.elim (motive_2:=fun _=>aj) x h (fun a b d _=>f a b d) else ao
noncomputable def ED (x:aZ) (f:ay->ay->(ah aZ)->(ah aZ)->aj):aj:=if h:x.ctorIdx=9 then PySem.Stmt.For.elim (motive_2:=fun _=>aj) x h (fun a b d e _=>f a b d e) else ao
noncomputable def Ac (x:aZ) (f:ay->(ah aZ)->(ah aZ)->aj):aj:=if h:x.ctorIdx=11 then PySem.Stmt.While.elim (motive_2:=fun _=>aj) x h (fun a b d _=>f a b d) else ao
noncomputable def QC (x:aZ) (f:ay->(ah aZ)->(ah aZ)->aj):aj:=if h:x.ctorIdx=12 then PySem.Stmt.If.elim (motive_2:=fun _=>aj) x h (fun a b d _=>f a b d) else ao
noncomputable def Ae (x:aZ) (f:(aC ay)->(aC ay)->aj):aj:=if h:x.ctorIdx=16 then PySem.Stmt.Raise.elim (motive_2:=fun _=>aj) x h (fun a b _=>f a b) else ao
noncomputable def JW (x:aZ) (f:(ah aZ)->(ah ExceptHandler)->(ah aZ)->(ah aZ)->aj):aj:=if h:x.ctorIdx=17 then PySem.Stmt.Try.elim (motive_2:=fun _=>aj) x h (fun a b d e _=>f a b d e) else ao
noncomputable def EE (x:aZ) (f:PySem.Expr->aj):aj:=if h:x.ctorIdx=24 then PySem.Stmt.Expr.elim (motive_2:=fun _=>aj) x h (fun a _=>f a) else ao
noncomputable def EC (x:aZ) (f:aj):aj:=if h:x.ctorIdx=25 then PySem.Stmt.Pass.elim (motive_2:=fun _=>aj) x h (fun _=>f) else ao
noncomputable def Af (x:aZ) (f:aj):aj:=if h:x.ctorIdx=26 then PySem.Stmt.Break.elim (motive_2:=fun _=>aj) x h (fun _=>f) else ao
noncomputable def oX (sc:b9) (id:Str):aj:=sc.names.lookup id==aa .globalImplicit
noncomputable def qm (sc:b9) (n:Str) (k:d7):aj:=sc.names.lookup n==aa k
noncomputable def tK (sc:b9) (x:Nm):aj:=qm sc (dQ x) .local || qm sc (dQ x) .cell
noncomputable def Am (x:ay):aj:=!uo x fun f _ _ _=>EF f fun id=>id==("super":Str)
noncomputable def nq (n:Str) (y:ay):aj:=EF y fun id=>id==n
noncomputable def mO (f:ay->aj) (yD:aj):aC ay->aj
 |none=>yD
 |some x=>!yD&&f x
noncomputable def wN:ah Nm->ah ay->aj
 |[],l=>l0 l
 |n::ns,l=>match l with
  |[]=>ao
  |x::r=>nq (dQ n) x&&wN ns r
noncomputable def abm (n:Nm) (o:aC ay):aj:=o1 o fun x=>gj x fun c=>wL c fun s=>s==dQ n
noncomputable def HL:ah Nm->ah (aC ay)->aj
 |[],l=>l0 l
 |n::ns,l=>match l with
  |[]=>ao
  |x::r=>abm n x&&HL ns r
noncomputable def Kf (tup:aj) (fL:ah Nm) (y:ay):aj:=cond tup (vw y fun xs=>wN fL xs) (l1 fL fun n=>nq (dQ n) y)
noncomputable def fP (sc gx:b9):b9:={gx with names:=gx.names.map fun(n,k)=>if (k==.free&&sc.kind==.function&&sc.names.lookup n==aa .cell)=ag then(n,.cell) else(n,k)}
noncomputable def Fg (sc gx:b9) (fv fL:ah Nm):aj:=fv.all (fun x=>qm (fP sc gx) (dQ x) .free || qm (fP sc gx) (dQ x) .cell)&&fL.all (fun x=>qm (fP sc gx) (dQ x) .local)&&
 gx.names.all (fun p=>p.2 != .cell&&(p.2 != .free || qm sc p.1 .cell || qm sc p.1 .free)&&(p.2 != .local || qm (fP sc gx) p.1 .local))&&
 fv.all (fun x=>!fL.contains x)
noncomputable def sY (n:Str) (y:ay) (g:ah ay->aj):aj:=uo y fun f xs Kj _=>nq n f&&l0 Kj&&g xs
noncomputable def E.part:E->aj
 |.cK=>ag
 |.fmt _=>ag
 |_=>ao
noncomputable def Es.parts:Es->aj
 |.nil=>ag
 |.cons e es=>e.part&&es.parts
mutual
noncomputable def mE (sc:b9):E->ay->aj
 |.none,y=>gj y fun c=>EH c ag
 |.bool b,y=>gj y fun c=>EI c fun d=>d==b
 |.int i,y=>gj y fun c=>J7 c fun d=>d==i
 |.cK,y=>gj y fun c=>wL c fun s=>decide (s.length<=1000)
 |.bytes bs,y=>gj y fun c=>Ag c fun d=>d==bs.map UInt8.ofNat
 |.aB x,y=>nq (dQ x) y
 |.glob g,y=>nq (dQ g) y&&oX sc (dQ g)
 |.bR op a b,y=>EJ y fun l o r=>o==op.op&&mE sc a l&&mE sc b r
 |.neg a,y=>sW y fun o x=>o==.USub&&mE sc a x
 |.kL a,y=>sW y fun o x=>o==.Not&&mE sc a x
 |.b6 k es,y=>Ai y fun o xs=>o==cond k .And .Or&&uV sc es xs
 |.ite c a b,y=>EG y fun t x z=>mE sc c t&&mE sc a x&&mE sc b z
 |.cB a op b,y=>sX y fun l os rs=>l1 os fun o=>l1 rs fun r=>o==op.op&&mE sc a l&&mE sc b r&&!behindInMarks op.op r
 |.KC a op b Vh d,y=>sX y fun l os rs=>l2 os fun o o2=>l2 rs fun r r2=>o==op.op&&o2==Vh.op&&mE sc a l&&mE sc b r&&mE sc d r2&&!behindInMarks Vh.op r2
 |.aV e f,y=>lD y fun v a _=>a==dQ f&&mE sc e v&&Am v
 |.key e k,y=>iQ y fun v sl=>(gj sl fun c=>wL c fun s=>s==dQ k)&&mE sc e v
 |.idx e i,y=>iQ y fun v sl=>mE sc e v&&mE sc i sl
 |.slice _ e lo hi,y=>iQ y fun v sl=>EB sl fun l h st=>o0 st&&mE sc e v&&mO (mE sc lo) lo.yD l&&mO (mE sc hi) hi.yD h
 |.list _ es,y=>JZ y fun xs=>uV sc es xs
 |.tuple es,y=>vw y fun xs=>uV sc es xs
 |.dict ks es,y=>J4 y fun keys vals=>HL ks keys&&uV sc es vals&&decide (keys.length=vals.length)&&decide (keys.length<=15)&&decide (1<=keys.length)&&decide (ks.length<=15/\ks.Nodup)
 |.bL f es,y=>sY (Str.ofString f.s) y fun xs=>f.top&&oX sc (Str.ofString f.s)&&uV sc es xs
 |.new _ C es,y=>sY (Str.ofString C.s) y fun xs=>oX sc (Str.ofString C.s)&&(rB C).isSome&&uV sc es xs
 |.bc b es,y=>sY (Str.ofString b.s) y fun xs=>oX sc (Str.ofString b.s)&&uV sc es xs
 |.bk e m es,y=>uo y fun f xs Kj pos=>lD f fun v a apos=>l0 Kj&&a==dQ m&&mE sc e v&&Am v&&apos.endLine==pos.line&&decide (xs.length < 20)&&uV sc es xs
 |.comp _ elt tup fL it c fv,y=>um y fun x gs gx=>l1 gs fun g=>g.is_async==0&&g.iter.ctorIdx != 7&&mE sc it g.iter&&Kf tup fL g.target&&mE (fP sc gx) elt x&&gx.kind==.function&&Fg sc gx fv fL&&
   cond c.yD (l0 g.ifs) (l1 g.ifs fun t=>mE (fP sc gx) c t)
 |.gQ es,y=>rl y fun xs=>uV sc es xs&&decide (2<=xs.length)&&decide (xs.length<=16)&&es.parts
 |.fmt e,y=>kK y fun v k sp=>o0 sp&&mE sc e v&&k==-1
 |.skip,y=>uo y fun _ _ _ _=>ag
noncomputable def uV (sc:b9):Es->ah ay->aj
 |.nil,l=>l0 l
 |.cons e es,l=>match l with
  |[]=>ao
  |x::xs=>x.ctorIdx != 22&&mE sc e x&&uV sc es xs
end
noncomputable def zo (x:ay):aj:=x.ctorIdx != 8&&x.ctorIdx != 9&&x.ctorIdx != 10
noncomputable def QN (x:ay):aj:=x.ctorIdx != 25
noncomputable def E.isC (e:E):aj:=by cases e with
 |comp=>exact ag
 |_=>exact ao
noncomputable def S.VD (s:S):aj:=by cases s with
 |freeze=>exact ag
 |_=>exact ao
noncomputable def Q0 (sc:b9) (C:Cn) (x:ay):aj:=nq (Str.ofString C.s) x&&oX sc (Str.ofString C.s)&&C.isExc
noncomputable def mTy (sc:b9) (tup:aj) (cs:ah Cn) (ty:ay):aj:=cond tup (vw ty fun xs=>l2 cs fun C D=>l2 xs fun x y=>Q0 sc C x&&Q0 sc D y) (l1 cs fun C=>Q0 sc C ty)
noncomputable def QZ (sc:b9) (lo hi:E) (y:ay):aj:=sY ("range":Str) y fun xs=>oX sc ("range":Str)&&cond lo.yD (uV sc (.cons hi .nil) xs) (uV sc (.cons lo (.cons hi .nil)) xs)
noncomputable def JU (n:Str) (x:ay) (f:ay->aj):aj:=iQ x fun o i=>(gj i fun c=>wL c fun s=>s==n)&&f o
noncomputable def EK (n:Str) (x:ay) (f:ay->aj):aj:=lD x fun o a _=>a==n&&f o
noncomputable def Dj (y:aZ) (f:ay->ay->aj):aj:=wK y fun ts v=>l1 ts fun t=>f t v
noncomputable def Dg (h:PySem.ExceptHandler) (f:ay->ah aZ->aj):aj:=match h with
 |.ExceptHandler ty nm b _=>o0 nm&&o1 ty fun t=>f t b
noncomputable def mH (sc:b9):Hr->ah aZ->aj
 |.Qe b,l=>l1 l fun y=>pE y fun o=>o1 o fun x=>mE sc (.bool b) x
 |.setB x b,l=>l1 l fun y=>Dj y fun t v=>nq (dQ x) t&&tK sc x&&mE sc (.bool b) v
 |.other,_=>ag
noncomputable def lc {α:Type} (l:ah α) (f:α->aj) (g:ah α->aj):aj:=match l with
 |[]=>ao
 |x::r=>f x&&g r
mutual
noncomputable def mS (sc:b9):S->aZ->aj
 |.expr e,y=>EE y fun v=>mE sc e v&&zo v
 |.bz x e,y=>Dj y fun t v=>nq (dQ x) t&&tK sc x&&mE sc e v&&(zo v || e.isC)
 |.jA xs e,y=>Dj y fun t v=>Kf ag xs t&&xs.all (tK sc)&&mE sc e v&&QN v&&zo v
 |.setAttr e f v,y=>Dj y fun t w=>EK (dQ f) t fun o=>mE sc e o&&mE sc v w
 |.c4 e f v,y=>Dj y fun t w=>JU (dQ f) t fun o=>mE sc e o&&mE sc v w
 |.aug x op e,y=>jY y fun t o v=>nq (dQ x) t&&o==op.op&&tK sc x&&mE sc e v
 |.ie e f op v,y=>jY y fun t o w=>EK (dQ f) t fun u=>o==op.op&&mE sc e u&&mE sc v w
 |.sg e f op v,y=>jY y fun t o w=>JU (dQ f) t fun u=>o==op.op&&mE sc e u&&mE sc v w
 |.dp d a b,y=>QC y fun t u v=>mE sc d t&&Oq sc a u&&Oq sc b v
 |.kD d b,y=>Ac y fun t u v=>l0 v&&mE sc d t&&Oq sc b u
 |.uz x e b,y=>ED y fun t it u v=>l0 v&&nq (dQ x) t&&tK sc x&&it.ctorIdx != 7&&mE sc e it&&Oq sc b u
 |.forR x lo hi b,y=>ED y fun t it u v=>l0 v&&nq (dQ x) t&&tK sc x&&QZ sc lo hi it&&Oq sc b u
 |.ret e,y=>pE y fun o=>o1 o (mE sc e)
 |.yz,y=>pE y o0
 |.cC C e,y=>Ae y fun a b=>o0 b&&o1 a fun x=>uo x fun f xs Kj _=>Q0 sc C f&&l0 Kj&&uV sc (.cons e .nil) xs
 |.Ea b tup cs h,y=>JW y fun body hs oe fin=>l0 oe&&l0 fin&&l1 hs fun hd=>Dg hd fun ty hb=>mTy sc tup cs ty&&Oq sc b body&&mH sc h hb
 |.brk,y=>Af y ag
 |.pass,y=>EC y ag
 |.freeze _,_=>ao
noncomputable def Oq (sc:b9):Ss->ah aZ->aj
 |.nil,ys=>l0 ys
 |.cons s r,ys=>cond s.VD (Oq sc r ys) (lc ys (mS sc s) (Oq sc r))
end
noncomputable def UK:Nat->Nat->ah Nat
 | 0,_=>[]
 |k+1,c=>(c % 2048)::UK k (c / 2048)
noncomputable def Z3:ah Nat:=UK 24 0x148260460800e81a02e0500880e01601f9c32c238b9f696b894aa4f458798d395a
noncomputable def Z2:ah Nat:=UK 113 0x557aa552ea253da714c696525a414668950ba093fe7d4f39d937a6bcd098529a4fc9891520e3e4678c116625c4487b0da17c21835031fbbf07d2f6de6bc677eee1d8b9571cde5b936b6c8d7599b2c64ac5d88309604bd16fad85a2b2961abc55ca9d5027d4de9a130a5a48a8f914a1441a7fcfc1f13c6738e39b9364690cb18f3105ccb61572924ec9311f230424760e51bc35c680c91842ec5a0ad
noncomputable def QT:ah Nat:=UK 277 0x557aad54aa8d4ba95512a1d3da794e29bd31a614b295d25a494828fd19a3144a88d0ba1541281cff9fd3ea7ccf39e53b275ce19c137a6ecd79ad34267cc29832c257ca694b27e4f49892f22a44c839051f23dc718e119e334608bf1662c44b89511221c3d8790da1ac2f85d0861041a83303205bf77ecfc1f7be97d0f6ded3cd798f19e2bbf77cee1dbbb1760e7dcf395728e39c6b796f0dc9b8b6b6d4d91b1b5d6b8d2da5333664cb195b25648c5d8b31061ec2584302602bd179ae25c2b7d6f2d85aeb45682ca592b0d612bc576ab956aa754ca814fa955289f53e26f4dc9a133a614c09692ca4f49c9152223e47a8b115a2945085109a0d4187fcff1f83ee7c4f81e63ca78cf11ce39a71ce31b93706c8d89a734c690d199632a63cc718830e5ccb916c2d6568ac9572ac524a413b2744989291f23c4608b911212420760eb1ca3906f0dd1ae358680cf192320610c11762e85a0b315a2b0520a313025c4608b1001fc3a0730d019c2e05b0a013c220430700dc1602b03e07801800
noncomputable def ed:Tab:=⟨fun C=>Ak Z3 C.n 0,fun f=>Ak Z2 f.n 0⟩
noncomputable def VC (o:aC (aC av)) (v:av):aj:=o==aa (aa v)
noncomputable def isI (o:aC (aC av)) (i:Int):aj:=o1 o fun o=>o1 o fun v=>EA v fun j _=>j==i
noncomputable def VL (K:cW) (C:Cn):aj:=VC (findIn K (.ref (ed.cA C)) "__getattribute__") (.builtin "object.__getattribute__")&&VC (findIn K (.ref (ed.cA C)) "__setattr__") (.builtin "object.__setattr__")&&findIn K (.ref (ed.cA C)) "__getattr__"==aa au&&
 plainOver K (ed.cA C)&&(clsIn K (ed.cA C)).any (·.hasDict)&&(fieldsOf C).all (fun f=>findIn K (.ref (ed.cA C)) (dQ f)==aa au)&&makesIn K (ed.cA C)&&(rB C).all (fun f=>VC (findIn K (.ref (ed.cA C)) "__init__") (.ref (ed.fA f)))&&
 allB 190 (fun m h=>(oU C ⟨m,h⟩).all fun f=>VC (findIn K (.ref (ed.cA C)) (dQ ⟨m,h⟩)) (.ref (ed.fA f)))&&keepIn K (.ref (ed.cA C))
noncomputable def MW (K:cW) (C:Cn):aj:=Zq K (ed.cA C) Xq "Exception.__new__"&&keepIn K (.ref (ed.cA C))&&allB 23 fun m h=>!Cn.isExc ⟨m,h⟩ || exmOne K (.ref (ed.cA C)) (.ref (ed.cA ⟨m,h⟩))==aa (C.under ⟨m,h⟩)
noncomputable def Xk (K:cW) (C:Cn):aj:=((fieldsOf C).isEmpty || VL K C)&&(!C.isExc || MW K C)&&VC (nsIn K mainGlobals (Str.ofString C.s)) (.ref (ed.cA C))
noncomputable def HY (K:cW) (cd:av) (q:Str):aj:=Ab cd fun c=>o1 (K.lookup c) fun o=>QG o.data fun vs=>o1 vs[1]? fun v=>JS v fun q' _=>q'==q
noncomputable def MX (K:cW) (f:Fn) (v:av):aj:=(f.dflt.isEmpty&&v==.none) || Ab v fun d=>o1 (K.lookup d) fun o=>J5 o.data fun ds _=>l1 ds.toList fun w=>EA w fun i _=>l1 f.dflt fun x=>o1 (kq x) fun j=>i==j
noncomputable def Kv (K:cW) (f:Fn) (fd:f6):aj:=match fd.body with
 |.stmts body=>Oq fd.scope f.body body&&fd.scope.kind==.function&&!fd.scope.isCoroutine&&!fd.scope.isGenerator&&fd.globals==mainGlobals&&fd.builtins==builtinsNs&&fd.closure.isEmpty&&
  fd.params.posonlyargs.isEmpty&&fd.params.args.map (·.arg)==f.ps.map dQ&&fd.params.vararg.isNone&&fd.params.kwonlyargs.isEmpty&&fd.params.kwarg.isNone&&decide f.ps.Nodup&&
  f.ps.all (tK fd.scope)&&fd.scope.names.all (fun p=>p.2 != .free)&&MX K f fd.defaults&&HY K fd.code fd.qualname
 |_=>ao
noncomputable def AF (K:cW) (f:Fn):aj:=isFn K (.ref (ed.fA f))&&keepIn K (.ref (ed.fA f))&&(!f.top || VC (nsIn K mainGlobals (Str.ofString f.s)) (.ref (ed.fA f)))&&o1 (K.lookup (ed.fA f)) fun o=>QF o.data fun fd=>Kv K f fd
noncomputable def Xl (K:cW) (b:Bi):aj:=nsIn K mainGlobals (Str.ofString b.s)==aa au&&VC (nsIn K builtinsNs (Str.ofString b.s)) b.v
noncomputable def HX (lo hi:Nat) (K:cW):aj:=allB 112 fun m h=>(Nat.blt m lo || Nat.ble hi m) || AF K ⟨m,h⟩
noncomputable def Xm (K:cW):aj:=allB 23 (fun m h=>Xk K ⟨m,h⟩)&&HX 0 30 K
noncomputable def good3 (K:cW):aj:=HX 70 200 K&&allB 190 (fun m h=>(HZ ⟨m,h⟩).all fun i=>isI (nsIn K mainGlobals (dQ ⟨m,h⟩)) i)&&
 [Bi.len,.bytes,.bytearray,.min,.max,.sum,.sorted,.tuple,.str,.all].all (Xl K)&&nsIn K mainGlobals "range"==aa au&&VC (nsIn K builtinsNs "range") (.type "range")
noncomputable def pick:Nat->ah Nat->ah Obj->cW
 |_,_,[]=>[]
 |i,as,o::os=>match as with
  |[]=>[]
  |a::as=>cond (Nat.beq i a) (cond o.isFreed (pick (i+1) as os) ((a,o)::pick (i+1) as os)) (pick (i+1) (a::as) os)
open _root_.PySem _root_.PySem.W _root_.PySem.Calls PyProof.Rows
noncomputable def R0 (P:Params):BT:=((boot_heap P).objs.toList.foldl (fun(x:BT×Nat) o=>(x.1.ins x.2 o,x.2+1)) (BT.nil,0)).1
noncomputable def R3 (w:dy) (os:gH):SharedT:=⟨R0 w.params,11,(boot_heap w.params).life,#[],boot_drawn,boot_toks,os⟩
noncomputable def Vt (p q:dx) (loose:ah Str) (Xt Y:aF->aj) (P:Params) (r:iR×SharedT×fi×Pos):=
 (staticsOk (importedModules p.main.body) (boot_heap P) r.2.1.abs.heap&&namesBound p r.2.1.abs.heap&&gensDone r.2.1.abs&&laidKept (boot_heap P) r.2.1.abs.heap,openSeen q loose (importedModules p.main.body) Xt ag r.2.1.abs,Y r.2.1.abs)
noncomputable abbrev xP:dx:=PySem.Challenge.rw_xm0842_01.row.toRowW.prog
noncomputable def sO:dx:=view xP [100]
noncomputable def vc:ah Str:=xP.boundNames
noncomputable def PU (s:aF):aj:=xlAt sO [] s&&recOk PySem.Challenge.rw_xm0842_01.row.toRowW.records s
noncomputable def PW (s:aF):cW:=pick 0 QT s.heap.objs.toList
noncomputable def Ec (w:dy) (os:gH):aC (iR×SharedT×fi×Pos):=PySem.W.Fast.tw10110043849684766642 PySem.W.Fast.tw14364793385576792824 xP w 11 (aa (.ref 6)) 0 10200 (R3 w os) (topStub xP)
theorem adA:∀ (w:dy) (os:gH),(Ec w os).map (fun r=>(staticsOk (importedModules xP.main.body) (boot_heap w.params) r.2.1.abs.heap&&namesBound xP r.2.1.abs.heap&&gensDone r.2.1.abs&&laidKept (boot_heap w.params) r.2.1.abs.heap,openSeen sO vc (importedModules xP.main.body) PU ag r.2.1.abs))=aa (ag,openGood sO vc):=fun w os=>by kernel_rfl
theorem adz:∀ (w:dy) (os:gH),(Ec w os).map (fun r=>Xm (PW r.2.1.abs))=aa ag:=fun w os=>by kernel_rfl
theorem runC:∀ (w:dy) (os:gH),(Ec w os).map (fun r=>HX 30 70 (PW r.2.1.abs))=aa ag:=fun w os=>by kernel_rfl
theorem ady:∀ (w:dy) (os:gH),(Ec w os).map (fun r=>good3 (PW r.2.1.abs))=aa ag:=fun w os=>by kernel_rfl
noncomputable abbrev Ce:OpenLaw:=PySem.Challenge.rw_xm0842_01
noncomputable abbrev HP:dx:=Ce.row.toRowW.prog
theorem aa7:namesResolve HP=ag:=by kernel_rfl
theorem aa6:namesMeet HP HP.main.body (fun _ n=>attrL n)=ag:=by kernel_rfl
theorem aa5:noRoadLSs {strict:=!(importedModules HP.main.body).all cThrough.contains,foot:=none,bare:=(["vars","dir","locals"]:ah Str).filter (readsOut HP HP.main.body)} HP.main.body=ag:=by kernel_rfl
theorem aa4:noRoadLSs {strict:=true,foot:=some Ce.bound',writes:=Ce.writes,may:=Ce.may} Ce.footing=ag:=by kernel_rfl
theorem aa3:namesMeet Ce.prog Ce.above (fun _ n=>!Ce.own.contains n)=ag:=by kernel_rfl
theorem aa2:looksOpen HP=ag:=by
 unfold looksOpen
 rw[aa7,aa6,aa5]
 kernel_rfl
theorem aa1:Ce.row.wellSaid=ag:=by
 unfold OpenRow.wellSaid OpenRow.partSaid
 rw[aa2]
 kernel_rfl
theorem adx:Ce.wellSaid=ag:=by
 unfold OpenLaw.wellSaid
 rw[aa1,aa4,aa3]
 kernel_rfl
section
variable {n n':Nat->Nat}{z:Nat->Int}
theorem ta (f:Nat->Int) (m:Int):∀ (l:ah Int) (i s:Nat),dot f s (wh l i m)=m*f (s+i)+dot f s l
 |[],0,s=>rfl
 |[],i+1,s=>by
  show 0*f s+dot f (s+1) (wh [] i m)=_
  rw[ta f m [] i (s+1),LH,SQ,iE];rfl
 |x::r,0,s=>(aW (· +dot f (s+1) r) (Int.add_mul x m (f s))).trans (by rw[F9 (x*f s),nQ];rfl)
 |x::r,i+1,s=>by
  show x*f s+dot f (s+1) (wh r i m)=m*f (s+(i+1))+(x*f s+dot f (s+1) r)
  rw[ta f m r i (s+1),BQ,iE];rfl
theorem NT.dh:∀ (a:NT) (m:Int) (p:PL),(a.acc m p).den n z=m*(a.den n:Int)+p.den n z
 |.v i,m,p=>by
  show p.c+(dot _ 0 (wh p.n i m)+dot z 0 p.z)=_
  rw[ta,jF,nQ (m*_),BQ];rfl
 |.k c,m,p=>by
  show p.c+m*_+_=_
  rw[F9 p.c,nQ];rfl
 |.add a b,m,p=>by
  show(a.acc m (b.acc m p)).den n z=m*((a.den n+b.den n:Nat):Int)+_
  rw[dh a,dh b,Tt,SF,nQ]
 |.ml c a,m,p=>(dh a _ p).trans (by rw[Gb];rfl)
 |.mr a c,m,p=>(dh a _ p).trans (by rw[Gb,SO (Int.ofNat c)];rfl)
theorem ZT.dh:∀ (a:ZT) (m:Int) (p:PL),(a.acc m p).den n z=m*a.den n z+p.den n z
 |.v i,m,p=>by
  show p.c+(dot _ 0 p.n+dot z 0 (wh p.z i m))=_
  rw[ta,jF,BQ (dot _ 0 p.n),BQ];rfl
 |.k c,m,p=>by
  show p.c+m*_+_=_
  rw[F9 p.c,nQ];rfl
 |.add a b,m,p=>by
  show(a.acc m (b.acc m p)).den n z=m*(a.den n z+b.den n z)+_
  rw[dh a,dh b,SF,nQ]
 |.sub a b,m,p=>by
  show(a.acc m (b.acc (-m) p)).den n z=m*(a.den n z-b.den n z)+_
  rw[dh a,dh b,LA,SD,L8,nQ]
 |.ml c a,m,p=>(dh a _ p).trans (by rw[Gb];rfl)
 |.mr a c,m,p=>(dh a _ p).trans (by rw[Gb,SO (Int.ofNat c)];rfl)
 |.neg a,m,p=>(dh a _ p).trans (by rw[SD,<- Int.mul_neg];rfl)
 |.cast a,m,p=>a.dh m p
def FHd (n:Nat->Nat) (z:Nat->Int) (f:aj×Pr):Prop:=cond f.1 (f.2.den n z) (¬ f.2.den n z)
def All (n:Nat->Nat) (z:Nat->Int) (G:Fs):Prop:=∀ f∈G,FHd n z f
theorem oJ:∀ m,0<=clip m
 |.ofNat m=>gw m
 |.negSucc _=>F8 0
theorem zB {p:PL}{m:Int}:(p.con m).den n z=m+p.den n z:=(aW (· +_) (F9 p.c m)).trans (nQ ..)
theorem up {m x y q r:Int} (hm:0<=m) (h:x<=y) (hq:0<=q) (e:r=m*y+(-m*x+q)):0<=r:=by
 rw[e,<- nQ,<- XX,<- L8,<- LA]
 exact Int.add_nonneg (Int.mul_nonneg hm (Int.sub_nonneg_of_le h)) hq
theorem up1 {m x y q r:Int} (hm:0<=m) (h:x < y) (hq:0<=q) (e:r=-m+(m*y+(-m*x+q))):0<=r:=
 up hm (Int.le_sub_one_of_lt h) hq (by rw[e,LA,Int.mul_one,BQ,<- nQ,L8])
theorem up0 {m x y q r:Int} (h:x=y) (hq:0<=q) (e:r=m*y+(-m*x+q)):0<=r:=by
 rw[e,h,<- XX,Int.add_neg_cancel_left];exact hq
theorem YV {t:aj}{p:Pr}{m:Int}{q:PL} (h:FHd n z (t,p)) (hq:0<=q.den n z):0<=(Pk t p m q).den n z:=by
 cases t with
 |true=>cases p with
  |le x y=>exact up (oJ m) (uO.mpr h) hq (by unfold Pk;rw[NT.dh,NT.dh])
  |lt x y=>exact up1 (oJ m) (sA.mpr h) hq (by unfold Pk;rw[zB,NT.dh,NT.dh])
  |eq x y=>exact up0 (aW Int.ofNat h) hq (by unfold Pk;rw[NT.dh,NT.dh];rfl)
  |W6 x y=>exact up (oJ m) h hq (by unfold Pk;rw[ZT.dh,ZT.dh])
  |UA x y=>exact up1 (oJ m) h hq (by unfold Pk;rw[zB,ZT.dh,ZT.dh])
  |Xr x y=>exact up0 h hq (by unfold Pk;rw[ZT.dh,ZT.dh])
  |_=>exact hq
 |false=>cases p with
  |le x y=>exact up1 (oJ m) (sA.mpr (Gp h)) hq (by unfold Pk;rw[zB,NT.dh,NT.dh])
  |lt x y=>exact up (oJ m) (uO.mpr (iD h)) hq (by unfold Pk;rw[NT.dh,NT.dh])
  |W6 x y=>exact up1 (oJ m) (Sy.mp h) hq (by unfold Pk;rw[zB,ZT.dh,ZT.dh])
  |UA x y=>exact up (oJ m) (F4.mp h) hq (by unfold Pk;rw[ZT.dh,ZT.dh])
  |_=>exact hq
theorem HN:∀ (ms:ah Int){G:Fs}{q:PL},All n z G->0<=q.den n z->0<=(Q4 ms G q).den n z
 |[],_,_,_,hq=>hq
 |_::_,[],_,_,hq=>hq
 |_::ms,f::_,_,h,hq=>HN ms (fun g hg=>h g (.tail _ hg)) (YV (t:=f.1) (p:=f.2) (h f (.head _)) hq)
theorem abe:∀ {c:Int}{x:Nat},YZ c=ag->c*(x:Int)<=0
 |.negSucc c,x,_=>Int.mul_nonpos_of_nonpos_of_nonneg (xf (Ua c)) (gw x)
 |.ofNat c,x,h=>by rw[NA h];exact Int.le_of_eq (LH _)
theorem RE (f:Nat->Nat):∀ (l:ah Int) (s:Nat),allI YZ l=ag->dot (fun i=>(f i:Int)) s l<=0
 |[],_,_=>F8 0
 |_::r,s,h=>Int.add_nonpos (abe (eU.mp h).1) (RE f r (s+1) (eU.mp h).2)
theorem adu:∀ {c:Int},isZ c=ag->c=0
 |.negSucc _,h=>by cases h
 |.ofNat _,h=>aW Int.ofNat (NA h)
theorem Xu (f:Nat->Int):∀ (l:ah Int) (s:Nat),allI isZ l=ag->dot f s l=0
 |[],_,_=>rfl
 |x::r,s,h=>by
  show x*f s+dot f (s+1) r=0
  rw[adu (eU.mp h).1,Xu f r (s+1) (eU.mp h).2,LH];rfl
theorem YQ:∀ {c:Int},isNeg c=ag->c < 0
 |.negSucc c,_=>Ua c
 |.ofNat _,h=>by cases h
theorem ZM {q:PL} (h:q.bad=ag) (hq:0<=q.den n z):False:=by
 have h:=eU.mp h
 have g:=eU.mp h.2
 refine Int.lt_irrefl 0 (Int.lt_of_le_of_lt hq (Int.add_neg_of_neg_of_nonpos (YQ h.1) ?_))
 rw[Xu z _ 0 g.2,SN]
 exact RE n _ 0 g.1
theorem all_nil:All n z []:=fun _ h=>nomatch h
theorem all_cons {f:aj×Pr}{G:Fs} (h:FHd n z f) (g:All n z G):All n z (f::G):=fun x hx=>match hx with
 |.head _=>h
 |.tail _ q=>g x q
theorem FX {G G':Fs} (h:All n z G) (g:All n z G'):All n z (G++G'):=fun x hx=>(iS.mp hx).elim (h x) (g x)
theorem all1 {f:aj×Pr} (h:FHd n z f):All n z [f]:=all_cons h all_nil
theorem all2 {f g:aj×Pr} (h:FHd n z f) (h':FHd n z g):All n z [f,g]:=all_cons h (all1 h')
def Alt (n:Nat->Nat) (z:Nat->Int) (x:Fs×aC Fs):Prop:=All n z x.1∨∃ b,x.2=aa b/\All n z b
theorem PQ {x:Fs×aC Fs}{G:Fs}{l r:Fs->aj} (a:Alt n z x) (g:All n z G) (hl:∀ G,All n z G->l G=ag->False) (hr:∀ G,All n z G->r G=ag->False) (h:two x G l r=ag):False:=by
 obtain⟨x,y⟩:=x
 rcases a with a |⟨b,e,a⟩
 ·cases y with
  |none=>exact hl _ (FX g a) h
  |some=>exact hl _ (FX g a) (eU.mp h).1
 ·cases e
  exact hr _ (FX g a) (eU.mp h).2
theorem ph {f:Fs}{y:aC Fs} (h:All n z f):Alt n z (f,y):=.inl h
theorem Bu {x f:Fs} (h:All n z f):Alt n z (x,aa f):=.inr ⟨_,rfl,h⟩
open Classical in
theorem ZL {t:aj}{p:Pr} (h:FHd n z (t,p)):Alt n z (brs t p):=by
 cases t with
 |true=>cases p with
  |no p=>exact ph (all1 h)
  |an p q=>exact ph (all2 (f:=(ag,p)) (g:=(ag,q)) h.1 h.2)
  |or p q=>exact h.elim (fun h=>ph (all1 h)) fun h=>Bu (all1 h)
  |im p q=>exact(em (p.den n z)).elim (fun x=>Bu (all1 (h x))) fun x=>ph (all1 x)
  |iff p q=>exact(em (p.den n z)).elim (fun x=>ph (all2 (f:=(ag,p)) (g:=(ag,q)) x (h.mp x))) fun x=>Bu (all2 (f:=(ao,p)) (g:=(ao,q)) x fun y=>x (h.mpr y))
  |_=>exact ph all_nil
 |false=>cases p with
  |no p=>exact ph (all1 (f:=(ag,p)) (not_not.mp h))
  |an p q=>exact(em (p.den n z)).elim (fun x=>Bu (all1 (f:=(ao,q)) fun y=>h ⟨x,y⟩)) fun x=>ph (all1 x)
  |or p q=>exact ph (all2 (f:=(ao,p)) (g:=(ao,q)) (fun x=>h (.inl x)) fun x=>h (.inr x))
  |im p q=>exact ph (all2 (f:=(ag,p)) (g:=(ao,q)) (not_imp.mp h).1 (not_imp.mp h).2)
  |iff p q=>exact(em (p.den n z)).elim (fun x=>ph (all2 (f:=(ag,p)) (g:=(ao,q)) x fun y=>h ⟨fun _=>y,fun _=>x⟩)) fun x=>Bu (all2 (f:=(ao,p)) (g:=(ag,q)) x (byContradiction fun y=>h ⟨fun w=>absurd w x,fun w=>absurd w y⟩))
  |eq a b=>exact(Nat.lt_or_gt_of_ne h).elim (fun x=>ph (all1 x)) fun x=>Bu (all1 x)
  |Xr a b=>exact(Int.lt_or_gt_of_ne h).elim (fun x=>ph (all1 x)) fun x=>Bu (all1 x)
  |_=>exact ph all_nil
theorem VT {d:Df}{w:Nat} (h1:n w=d.d1 n z) (h2:n (w+1)=d.d2 n) (b0:Nat) (hk:d.ok b0=ag):Alt n z (d.brs w):=by
 cases d with
 |sub a b=>exact(Nat.lt_or_ge (a.den n) (b.den n)).elim (fun x=>Bu (all2 (f:=(ag,.lt a b)) (g:=(ag,.eq (.v w) (.k 0))) x (h1.trans (Nz (fH x))))) fun x=>ph (all2 (f:=(ag,.le b a)) (g:=(ag,.eq a (.add (.v w) b))) x ((Nat.sub_add_cancel x).symm.trans (aW (· +b.den n) h1.symm)))
 |dm a c=>
  have e:a.den n=c*n w+n (w+1):=by rw[h1,h2];exact(Gl ..).symm
  exact ph (all2 (f:=(ag,.eq a (.add (.ml c (.v w)) (.v (w+1))))) (g:=(ag,.lt (.v (w+1)) (.k c))) e (by
   show n (w+1) < c
   rw[h2];exact dE _ (aT (eU.mp hk).2)))
 |min a b=>exact(BH (a.den n) (b.den n)).elim (fun x=>ph (all2 (f:=(ag,.le a b)) (g:=(ag,.eq (.v w) a)) x (h1.trans (dM x)))) fun x=>Bu (all2 (f:=(ag,.le b a)) (g:=(ag,.eq (.v w) b)) x (h1.trans (qz x)))
 |max a b=>exact(BH (a.den n) (b.den n)).elim (fun x=>ph (all2 (f:=(ag,.le a b)) (g:=(ag,.eq (.v w) b)) x (h1.trans (BN x)))) fun x=>Bu (all2 (f:=(ag,.le b a)) (g:=(ag,.eq (.v w) a)) x (h1.trans (xl x)))
 |nat a=>exact(Int.lt_or_le (a.den n z) 0).elim (fun x=>Bu (all2 (f:=(ag,.UA a (.k 0))) (g:=(ag,.eq (.v w) (.k 0))) x (h1.trans (Int.toNat_of_nonpos (xf x))))) fun x=>ph (all2 (f:=(ag,.W6 (.k 0) a)) (g:=(ag,.Xr (.cast (.v w)) a)) x ((aW Int.ofNat h1).trans (Int.toNat_of_nonneg x)))
theorem Dy {α β γ:Type} (f:α->β->γ){a a':α}{b b':β} (h:a=a') (k:b=b'):f a b=f a' b':=congr (aW f h) k
theorem K6 {i b:Nat} (h:i≠b):Nat.beq i b=ao:=Bool.eq_false_iff.mpr fun q=>h (NA q)
theorem NT.same {b:Nat} (h:∀ i,i < b->n i=n' i):∀ (a:NT),a.lt b=ag->a.den n=a.den n'
 |.v i,q=>h i (aT q)
 |.k _,_=>rfl
 |.add x y,q=>Dy HAdd.hAdd (same h x (eU.mp q).1) (same h y (eU.mp q).2)
 |.ml c a,q=>aW (c* ·) (same h a q)
 |.mr a c,q=>aW (· *c) (same h a q)
theorem ZT.same {b:Nat} (h:∀ i,i < b->n i=n' i):∀ (a:ZT),a.lt b=ag->a.den n z=a.den n' z
 |.v _,_=>rfl
 |.k _,_=>rfl
 |.add x y,q=>Dy HAdd.hAdd (same h x (eU.mp q).1) (same h y (eU.mp q).2)
 |.sub x y,q=>Dy HSub.hSub (same h x (eU.mp q).1) (same h y (eU.mp q).2)
 |.ml c a,q=>aW (Int.ofNat c* ·) (same h a q)
 |.mr a c,q=>aW (· *Int.ofNat c) (same h a q)
 |.neg a,q=>aW (- ·) (same h a q)
 |.cast a,q=>aW Int.ofNat (a.same h q)
theorem Df.same {b:Nat} (h:∀ i,i < b->n i=n' i){d:Df} (hd:d.ok b=ag):d.d1 n z=d.d1 n' z/\d.d2 n=d.d2 n':=by
 cases d with
 |sub x y=>exact⟨Dy HSub.hSub (x.same h (eU.mp hd).1) (y.same h (eU.mp hd).2),rfl⟩
 |dm a c=>exact⟨aW (· / c) (a.same h (eU.mp hd).1),aW (· % c) (a.same h (eU.mp hd).1)⟩
 |min x y=>exact⟨Dy Min.min (x.same h (eU.mp hd).1) (y.same h (eU.mp hd).2),rfl⟩
 |max x y=>exact⟨Dy Max.max (x.same h (eU.mp hd).1) (y.same h (eU.mp hd).2),rfl⟩
 |nat a=>exact⟨aW Int.toNat (a.same h hd),rfl⟩
theorem Yr {b x y i:Nat} (h:i < b):n i=upd n b x y i:=by
 unfold upd
 rw[show Nat.beq i b=ao from K6 (sy h),show Nat.beq i (b+1)=ao from K6 (sy (Gs h))];rfl
theorem Fc:∀ (D:ah Df){n:Nat->Nat}{b i:Nat},i < b->n i=ext z D n b i
 |[],_,_,_,_=>rfl
 |_::r,_,_,_,h=>(Yr h).trans (Fc r (Gs (Gs h)))
theorem Ry:∀ (D:ah Df){n:Nat->Nat}{b:Nat},RC D b=ag->∀ (j:Nat){d:Df},D[j]? =aa d->∃ b0,d.ok b0=ag/\ext z D n b (b+2*j)=d.d1 (ext z D n b) z/\ext z D n b (b+2*j+1)=d.d2 (ext z D n b)
 |[],_,_,_,_,_,e=>by cases e
 |d::r,n,b,h,0,_,e=>by
  cases e
  have h:=eU.mp h
  have s:=Df.same (z:=z) (n':=ext z (d::r) n b) (fun i q=>Fc (z:=z) (d::r) q) h.1
  refine⟨b,h.1,?_,?_⟩
  ·rw[<- s.1]
   refine(Fc r (i:=b) (Gs (nS _))).symm.trans ?_
   unfold upd;rw[SM];rfl
  ·rw[<- s.2]
   refine(Fc r (i:=b+1) (nS _)).symm.trans ?_
   unfold upd;rw[show Nat.beq (b+1) b=ao from K6 (TH b),SM];rfl
 |d::r,n,b,h,j+1,_,e=>by
  have q:=Ry r (n:=upd n b (d.d1 n z) (d.d2 n)) (eU.mp h).2 j e
  rw[show b+2*(j+1)=b+2+2*j from by rw[SK,iE,dT]]
  exact q
theorem QM {α:Type}{d:α}:∀ (l:ah α) (i:Nat),l[i]? =aa (Ak l i d)∨Ak l i d=d
 |[],_=>.inr rfl
 |_::_,0=>.inl rfl
 |_::r,i+1=>QM r i
theorem HC {D:ah Df}{b:Nat}{n0:Nat->Nat} (hD:RC D b=ag) (hn:n=ext z D n0 b):∀ (x:Ct){G:Fs},All n z G->x.ok D b G=ag->False
 |.leaf ms,G,g,h=>ZM h (HN ms g (F8 0))
 |.cs i l r,G,g,h=>by
  refine PQ (x:=brs (Ak G i (ag,.ff)).1 (Ak G i (ag,.ff)).2) ?_ g (fun G g=>HC hD hn l g) (fun G g=>HC hD hn r g) h
  rcases QM (d:=(ag,Pr.ff)) G i with q |q
  ·exact ZL (g _ (Bx q))
  ·rw[q];exact ph all_nil
 |.df j l r,G,g,h=>by
  refine PQ (x:=dAt D[j]? (b+2*j)) ?_ g (fun G g=>HC hD hn l g) (fun G g=>HC hD hn r g) h
  cases q:D[j]? with
  |none=>exact ph all_nil
  |some d=>
   obtain⟨b0,h0,h1,h2⟩:=Ry (z:=z) (n:=n0) D hD j q
   subst hn
   exact VT h1 h2 b0 h0
end
theorem aQ:ag=ag:=rfl
noncomputable def dN (c:Nat):Nat×Nat:=(c / 16 % 256 ^ (c % 16),c / 16 / 256 ^ (c % 16))
noncomputable def dI (c:Nat):Int×Nat:=cond (Nat.blt (c % 16) 8) (Int.ofNat (c / 16 % 256 ^ (c % 16)),c / 16 / 256 ^ (c % 16)) (-Int.ofNat (c / 16 % 256 ^ (c % 16-8)),c / 16 / 256 ^ (c % 16-8))
noncomputable def dL:Nat->Nat->ah Int×Nat
 | 0,c=>([],c)
 |k+1,c=>((dI c).1::(dL k (dI c).2).1,(dL k (dI c).2).2)
noncomputable def sel {α:Type}:ah α->α->Nat->α
 |[],d,_=>d
 |x::r,d,k=>cond (Nat.beq k 0) x (sel r d (k-1))
noncomputable def fs {α β γ:Type} (f:α->β) (x:α×γ):β×γ:=(f x.1,x.2)
noncomputable def Dw:Nat->Nat->NT×Nat
 | 0,c=>(.k 0,c)
 |f+1,c=>sel [(.v (c / 16 % 16),c / 256),(.v (16+c / 16 % 16),c / 256),(.k (c / 16 % 16),c / 256),fs .k (dN (c / 16)),
   (.add (Dw f (c / 16)).1 (Dw f (Dw f (c / 16)).2).1,(Dw f (Dw f (c / 16)).2).2),(.ml (dN (c / 16)).1 (Dw f (dN (c / 16)).2).1,(Dw f (dN (c / 16)).2).2)] (.mr (Dw f (c / 16)).1 (dN (Dw f (c / 16)).2).1,(dN (Dw f (c / 16)).2).2) (c % 16)
noncomputable def Dv:Nat->Nat->ZT×Nat
 | 0,c=>(.k 0,c)
 |f+1,c=>sel [(.v (c / 16 % 16),c / 256),fs .cast (Dw f (c / 16)),(.k (c / 16 % 16),c / 256),fs .k (dN (c / 16)),
   (.add (Dv f (c / 16)).1 (Dv f (Dv f (c / 16)).2).1,(Dv f (Dv f (c / 16)).2).2),(.ml (dN (c / 16)).1 (Dv f (dN (c / 16)).2).1,(Dv f (dN (c / 16)).2).2),(.mr (Dv f (c / 16)).1 (dN (Dv f (c / 16)).2).1,(dN (Dv f (c / 16)).2).2),
   (.sub (Dv f (c / 16)).1 (Dv f (Dv f (c / 16)).2).1,(Dv f (Dv f (c / 16)).2).2)] (fs .neg (Dv f (c / 16))) (c % 16)
noncomputable def bi {α β:Type} (k:α->α->β) (d:Nat->α×Nat) (c:Nat):β×Nat:=(k (d c).1 (d (d c).2).1,(d (d c).2).2)
noncomputable def UG:Nat->Nat->Pr×Nat
 | 0,c=>(.ff,c)
 |f+1,c=>sel [bi .le (Dw f) (c / 16),bi .lt (Dw f) (c / 16),bi .eq (Dw f) (c / 16),bi .W6 (Dv f) (c / 16),bi .UA (Dv f) (c / 16),bi .Xr (Dv f) (c / 16),
   fs .no (UG f (c / 16)),bi .an (UG f) (c / 16),bi .or (UG f) (c / 16),bi .im (UG f) (c / 16),bi .iff (UG f) (c / 16)] (.ff,c / 16) (c % 16)
noncomputable def dDf (c:Nat):Df×Nat:=sel [bi .sub (Dw 20) (c / 16),bi .min (Dw 20) (c / 16),bi .max (Dw 20) (c / 16),(.dm (Dw 20 (c / 16)).1 (dN (Dw 20 (c / 16)).2).1,(dN (Dw 20 (c / 16)).2).2)] (fs .nat (Dv 20 (c / 16))) (c % 16)
noncomputable def dDs:Nat->Nat->ah Df
 | 0,_=>[]
 |k+1,c=>(dDf c).1::dDs k (dDf c).2
noncomputable def Pp:Nat->Nat->Ct×Nat
 | 0,c=>(.leaf [],c)
 |f+1,c=>sel [(.leaf (dL (c / 16 % 256) (c / 4096)).1,(dL (c / 16 % 256) (c / 4096)).2),(.cs (c / 16 % 256) (Pp f (c / 4096)).1 (Pp f (Pp f (c / 4096)).2).1,(Pp f (Pp f (c / 4096)).2).2)]
   (.df (c / 16 % 16) (Pp f (c / 256)).1 (Pp f (Pp f (c / 256)).2).1,(Pp f (Pp f (c / 256)).2).2) (c % 16)
noncomputable def eN (D:Nat) (l:ah Nat) (z:ah Int):Nat->Nat:=ext (fun i=>Ak z i 0) (dDs (D / 256 % 16) (D / 4096)) (fun i=>Ak l i 0) (D % 256)
def hP (D:Nat) (l:ah Nat) (z:ah Int) (c:Nat):Prop:=(UG 20 c).1.den (eN D l z) fun i=>Ak z i 0
noncomputable def VX (D x g:Nat) (hs:ah Nat):aj:=RC (dDs (D / 256 % 16) (D / 4096)) (D % 256)&&(Pp 20 x).1.ok (dDs (D / 256 % 16) (D / 4096)) (D % 256) ((ao,(UG 20 g).1)::hs.map fun h=>(ag,(UG 20 h).1))
section
variable {l:ah Nat}{z:ah Int}{D x g:Nat}
theorem mA {G:Fs} (h:(RC (dDs (D / 256 % 16) (D / 4096)) (D % 256)&&(Pp 20 x).1.ok (dDs (D / 256 % 16) (D / 4096)) (D % 256) ((ao,(UG 20 g).1)::G))=ag) (a:All (eN D l z) (fun i=>Ak z i 0) G):hP D l z g:=
 have h:=eU.mp h
 Yd fun q=>HC h.1 rfl _ (all_cons (f:=(ao,(UG 20 g).1)) q a) h.2
end
section
variable (z:ah Int) (D:Nat) (l:ah Nat) (x g:Nat)
theorem lT (e:VX D x g []=ag):hP D l z g:=mA e all_nil
variable (a:Nat)
theorem gh (h:hP D l z a) (e:VX D x g [a]=ag):hP D l z g:=mA e (all1 h)
variable (b:Nat)
theorem nk (h:hP D l z a) (i:hP D l z b) (e:VX D x g [a,b]=ag):hP D l z g:=mA e (all2 h i)
variable (c:Nat)
theorem EN (h:hP D l z a) (i:hP D l z b) (j:hP D l z c) (e:VX D x g [a,b,c]=ag):hP D l z g:=mA e (all_cons h (all2 i j))
variable (d:Nat)
theorem nl4 (h:hP D l z a) (i:hP D l z b) (j:hP D l z c) (k:hP D l z d) (e:VX D x g [a,b,c,d]=ag):hP D l z g:=mA e (all_cons h (all_cons i (all2 j k)))
variable (s:Nat)
theorem nl5 (h:hP D l z a) (i:hP D l z b) (j:hP D l z c) (k:hP D l z d) (m:hP D l z s) (e:VX D x g [a,b,c,d,s]=ag):hP D l z g:=mA e (all_cons h (all_cons i (all_cons j (all2 k m))))
variable (t:Nat)
theorem nl6 (h:hP D l z a) (i:hP D l z b) (j:hP D l z c) (k:hP D l z d) (m:hP D l z s) (n:hP D l z t) (e:VX D x g [a,b,c,d,s,t]=ag):hP D l z g:=mA e (all_cons h (all_cons i (all_cons j (all_cons k (all2 m n)))))
variable (u:Nat)
theorem nl7 (h:hP D l z a) (i:hP D l z b) (j:hP D l z c) (k:hP D l z d) (m:hP D l z s) (n:hP D l z t) (o:hP D l z u) (e:VX D x g [a,b,c,d,s,t,u]=ag):hP D l z g:=mA e (all_cons h (all_cons i (all_cons j (all_cons k (all_cons m (all2 n o))))))
variable (v:Nat)
theorem nl8 (h:hP D l z a) (i:hP D l z b) (j:hP D l z c) (k:hP D l z d) (m:hP D l z s) (n:hP D l z t) (o:hP D l z u) (p:hP D l z v) (e:VX D x g [a,b,c,d,s,t,u,v]=ag):hP D l z g:=mA e (all_cons h (all_cons i (all_cons j (all_cons k (all_cons m (all_cons n (all2 o p)))))))
end
def lE:=@lT [] 0
def cw:=@gh [] 0
def fu:=@nk [] 0
def GK:=@EN [] 0
def YO:=@nl4 [] 0
def nm5:=@nl5 [] 0
def nm6:=@nl6 [] 0
def nm7:=@nl7 [] 0
def Yj (C:CC):Prop:=∀ f vs H (Q Q':PV) (X X':PX),(∀ v H,Q v H->Q' v H)->(∀ c H,X c H->X' c H)->C f vs H Q X->C f vs H Q' X'
theorem Got.bT {α:Type}{o:aC α}{k k':α->Prop} (f:∀ v,k v->k' v):Got o k->Got o k'
 |.mk v h q=>.mk v h (f v q)
theorem IsI.bT {x:V}{k k':Int->Prop} (f:∀ v,k v->k' v):IsI x k->IsI x k'
 |.mk v h q=>.mk v h (f v q)
theorem fV {a b c:Prop} (f:b->c) (h:a/\b):a/\c:=⟨h.1,f h.2⟩
theorem j9 {d a b c:Prop} (f:b->c) (h:d/\a/\b):d/\a/\c:=⟨h.1,h.2.1,f h.2.2⟩
theorem fO {x y:V}{k k':Int->Int->Prop} (f:∀ i j,k i j->k' i j) (h:oY x y k):oY x y k':=h.bT fun i=>Got.bT fun j=>f i j
theorem yq.bT {H:Hp}{x y:V}{k k':ah V->Prop} (f:∀ v,k v->k' v):yq H x y k->yq H x y k'
 |.mk xs ys a b c q=>.mk xs ys a b c (f _ q)
theorem nz {t:aj}{a b a' b':Prop} (f:a->a') (g:b->b') (h:cond t a b):cond t a' b':=match t,h with
 |true,h=>f h
 |false,h=>g h
theorem Idx.bT {α:Type}{xs:ah α}{i:Int}{k k':α->Prop} (f:∀ v,k v->k' v):Idx xs i k->Idx xs i k'
 |.mk a b c d e q=>.mk a b c d e (f _ q)
theorem Sl.bT {α:Type}{xs:ah α}{i j:V}{k k':ah α->Prop} (f:∀ v,k v->k' v):Sl xs i j k->Sl xs i j k'
 |.mk a b c d e q=>.mk a b c d e (f _ q)
theorem jo {vs:ah V}{k k':V->Prop} (f:∀ v,k v->k' v) (h:Ka vs k):Ka vs k':=match vs,h with
 |[],h=>h
 |[_],h=>f _ h
 |_::_::_,h=>h
theorem HB {vs:ah V}{k k':V->V->Prop} (f:∀ v w,k v w->k' v w) (h:on2 vs k):on2 vs k':=match vs,h with
 |[],h=>h
 |_::_,h=>jo (f _) h
section
variable {H:Hp}{Q Q':PV} (q:∀ v H,Q v H->Q' v H)
include q
theorem K5 {op:Bo}{x y:V} (h:binOp op x y H Q):binOp op x y H Q':=by
 cases op with
 |add=>cases x with
  |int=>exact Got.bT (fun j=>q _ _) h
  |bytes=>exact Got.bT (fun j=>fV (q _ _)) h
  |str=>exact Got.bT (fun j=>fV fun h s hs=>q _ _ (h s hs)) h
  |bE=>exact yq.bT (fun j=>q _ _) h
  |ref=>exact yq.bT (fun j=>q _ _) h
  |_=>exact h
 |sub=>exact fO (fun _ _=>q _ _) h
 |mul=>cases x with
  |int=>exact Got.bT (fun j=>j9 (q _ _)) h
  |bytes=>exact Got.bT (fun j=>j9 (j9 (q _ _))) h
  |_=>exact h
 |fdiv=>exact fO (fun _ _=>j9 (q _ _)) h
 |mod=>exact fO (fun _ _=>fV (q _ _)) h
 |band=>exact fO (fun _ _=>j9 (q _ _)) h
 |bor=>exact fO (fun _ _=>j9 (q _ _)) h
 |shl=>exact fO (fun _ _=>j9 (j9 (q _ _))) h
 |shr=>exact fO (fun _ _=>j9 (fV (q _ _))) h
 |bxor=>exact h
theorem zq {fz:aj}{xs:ah V} (h:mk fz xs H Q):mk fz xs H Q':=fV (nz (q _ _) fun h a ha=>q _ _ (h a ha)) h
theorem Kl {x i:V} (h:MQ x i H Q):MQ x i H Q':=Got.bT (fun i h=>by
 cases x with
 |bytes=>exact Idx.bT (fun _=>q _ _) h
 |tup=>exact Idx.bT (fun _=>q _ _) h
 |bE=>exact Idx.bT (fun _=>q _ _) h
 |ref=>exact Got.bT (fun _=>Idx.bT fun _=>q _ _) h
 |_=>exact h) h
theorem Ef {fz:aj}{x lo hi:V} (h:vh fz x lo hi H Q):vh fz x lo hi H Q':=by
 cases x with
 |bytes=>exact Sl.bT (fun _=>q _ _) h
 |bE=>exact Sl.bT (fun _=>zq q) h
 |ref=>exact Got.bT (fun _=>Sl.bT fun _=>zq q) h
 |_=>exact h
theorem Iu {b:Bi}{vs:ah V} (h:Fh b vs H Q):Fh b vs H Q':=by
 cases b with
 |len=>refine jo (fun v h=>?_) h;cases v with
  |bytes=>exact fV (q _ _) h
  |bE=>exact fV (q _ _) h
  |ref=>exact Got.bT (fun _=>fV (q _ _)) h
  |_=>exact h
 |bytes=>refine jo (fun v h=>?_) h;cases v with
  |int=>exact j9 (q _ _) h
  |bytes=>exact q _ _ h
  |bE=>exact Got.bT (fun _=>Got.bT fun _=>fV (q _ _)) h
  |ref=>exact Got.bT (fun _=>fV (q _ _)) h
  |_=>exact h
 |bytearray=>cases vs with
  |nil=>exact fun a ha=>q _ _ (h a ha)
  |cons=>exact jo (vs:=_::_) (k:=fun x=>Got (I0 x) (ZP H Q)) (fun v=>Got.bT fun _=>fV fun h a ha=>q _ _ (h a ha)) h
 |min=>exact HB (fun _ _=>fO fun _ _=>q _ _) h
 |max=>exact HB (fun _ _=>fO fun _ _=>q _ _) h
 |sum=>exact jo (fun _=>Got.bT fun _=>fV (q _ _)) h
 |sorted=>exact jo (fun _=>Got.bT fun _=>Got.bT fun _=>fV fun h js a b=>q _ _ (h js a b)) h
 |tuple=>exact jo (fun _=>Got.bT fun _=>fV (q _ _)) h
 |str=>exact jo (fun _=>Got.bT fun _=>fV fun h s a=>q _ _ (h s a)) h
 |all=>exact jo (fun _=>Got.bT fun _=>Got.bT fun _=>q _ _) h
theorem HH {k:aj}{v:V}{m:Nm}{vs:ah V} (h:rp k v m vs H Q):rp k v m vs H Q':=
 Got.bT (fun a=>jo fun x=>nz (fun |.mk a b c=>.mk a b (fV (q _ _) c)) (nz (Got.bT fun _=>fun |.mk a b c=>.mk a b (j9 (fV (q _ _)) c)) (Got.bT fun _=>fun |.mk a b c=>.mk a b (fV (q _ _) c)))) h
end
theorem uA {op:Co}{x y:V}{H:Hp}{k k':aj->Prop} (q:∀ b,k b->k' b) (h:yb op x y H k):yb op x y H k':=by
 cases op with
 |eq=>exact Got.bT q h
 |ne=>exact Got.bT (fun _=>q _) h
 |is_=>exact fV (q _) h
 |lH=>exact fV (q _) h
 |_=>exact fO (fun _ _=>q _) h
theorem uL {op:Bo}{x y:V}{Q Q':V->Prop} (q:∀ v,Q v->Q' v) (h:Bt op x y Q):Bt op x y Q':=by
 cases op with
 |add=>exact fO (fun _ _=>q _) h
 |sub=>exact fO (fun _ _=>q _) h
 |bor=>exact fO (fun _ _=>j9 (q _)) h
 |shr=>exact fO (fun _ _=>j9 (fV (q _))) h
 |_=>exact h
theorem JT {k k':ah V->Prop} (q:∀ v,k v->k' v){v:V} (h:MH k v):MH k' v:=by
 cases v with
 |tup=>exact q _ h
 |_=>exact h
theorem KY {tup:aj}{fL:ah Nm}{v:V}{L:bZ}{k k':bZ->Prop} (q:∀ L,k L->k' L) (h:qK tup fL v L k):qK tup fL v L k':=
 nz (JT fun _=>fV (q _)) (fun h=>match fL,h with
  |[],h=>h
  |[_],h=>q _ h
  |_::_::_,h=>h) h
theorem xB.bT {x:V}{H:Hp}{f:Nm}{y:V}{k k':Hp->Prop} (q:∀ v,k v->k' v):xB x H f y k->xB x H f y k'
 |.mk a b c d e f g h=>.mk a b c d e f g (q _ h)
theorem y8.bT {x:V}{H:Hp}{f:Nm}{y:V}{k k':Hp->Prop} (q:∀ v,k v->k' v):y8 x H f y k->y8 x H f y k'
 |.mk a b c d e f=>.mk a b c d e (q _ f)
theorem JB {k k':bZ->Hp->Prop}{Q Q':PO} (f:∀ L H,k L H->k' L H) (q:∀ o L H,Q o L H->Q' o L H):∀ o L H,Ml k Q o L H->Ml k' Q' o L H
 |.next,_,_,h=>f _ _ h
 |.brk,_,_,h=>q _ _ _ h
 |.cont,_,_,h=>q _ _ _ h
 |.ret _,_,_,h=>q _ _ _ h
theorem uu {k:bZ->Hp->Prop}{Q Q':PO} (q:∀ o L H,Q o L H->Q' o L H):∀ o L H,mi k Q o L H->mi k Q' o L H
 |.next,_,_,h=>h
 |.brk,_,_,h=>q _ _ _ h
 |.cont,_,_,h=>h
 |.ret _,_,_,h=>q _ _ _ h
theorem oE {k k':bZ->Hp->Prop}{Q:PO} (q:∀ L H,k L H->k' L H):∀ o L H,mi k Q o L H->mi k' Q o L H
 |.next,_,_,h=>q _ _ h
 |.brk,_,_,h=>h
 |.cont,_,_,h=>q _ _ h
 |.ret _,_,_,h=>h
section
variable {C:CC} (M:Yj C)
include M
mutual
theorem cz:∀ (e:E){L:bZ}{H:Hp}{Q Q':PV}{X X':PX},(∀ v H,Q v H->Q' v H)->(∀ c H,X c H->X' c H)->wE C e L H Q X->wE C e L H Q' X'
 |.none,_,_,_,_,_,_,q,_,h=>q _ _ h
 |.bool _,_,_,_,_,_,_,q,_,h=>q _ _ h
 |.int _,_,_,_,_,_,_,q,_,h=>q _ _ h
 |.cK,_,_,_,_,_,_,q,_,h=>fun s hs=>q _ _ (h s hs)
 |.bytes _,_,_,_,_,_,_,q,_,h=>q _ _ h
 |.aB _,_,_,_,_,_,_,q,_,h=>Got.bT (fun _=>q _ _) h
 |.glob _,_,_,_,_,_,_,q,_,h=>Got.bT (fun _=>q _ _) h
 |.bR _ a b,_,_,_,_,_,_,q,x,h=>cz a (fun _ _=>cz b (fun _ _=>K5 q) x) x h
 |.neg a,_,_,_,_,_,_,q,x,h=>cz a (fun _ _=>IsI.bT fun _=>q _ _) x h
 |.kL a,_,_,_,_,_,_,q,x,h=>cz a (fun _ _=>Got.bT fun _=>q _ _) x h
 |.b6 _ es,_,_,_,_,_,_,q,x,h=>Mj es q x h
 |.ite c a b,_,_,_,_,_,_,q,x,h=>cz c (fun _ _=>Got.bT fun _=>nz (cz a q x) (cz b q x)) x h
 |.cB a _ b,_,_,_,_,_,_,q,x,h=>cz a (fun _ _=>cz b (fun _ _=>uA fun _=>q _ _) x) x h
 |.KC a _ b _ c,_,_,_,_,_,_,q,x,h=>cz a (fun _ _=>cz b (fun _ _=>uA fun _=>nz (cz c (fun _ _=>uA fun _=>q _ _) x) (q _ _)) x) x h
 |.aV e _,_,_,_,_,_,_,q,x,h=>cz e (fun _ _=>Got.bT fun _=>q _ _) x h
 |.key e _,_,_,_,_,_,_,q,x,h=>cz e (fun _ _=>Got.bT fun _=>q _ _) x h
 |.idx e i,_,_,_,_,_,_,q,x,h=>cz e (fun _ _=>cz i (fun _ _=>Kl q) x) x h
 |.slice _ e lo hi,_,_,_,_,_,_,q,x,h=>cz e (fun _ _=>cz lo (fun _ _=>cz hi (fun _ _=>Ef q) x) x) x h
 |.list _ es,_,_,_,_,_,_,q,x,h=>jk es (fun _ _=>zq q) x h
 |.tuple es,_,_,_,_,_,_,q,x,h=>jk es (fun _ _=>fV (q _ _)) x h
 |.dict _ es,_,_,_,_,_,_,q,x,h=>jk es (fun _ _=>fV fun h a ha=>q _ _ (h a ha)) x h
 |.bL _ es,_,_,_,_,_,_,q,x,h=>jk es (fun _ _=>M _ _ _ _ _ _ _ q x) x h
 |.new _ _ es,_,_,_,_,_,_,q,x,h=>jk es (fun _ _=>Got.bT fun _ h a ha=>M _ _ _ _ _ _ _ (fun _ _=>fV (nz (fun |.mk a b c=>.mk a b (q _ _ c)) (q _ _))) x (h a ha)) x h
 |.bk e _ es,_,_,_,_,_,_,q,x,h=>cz e (fun v H h=>by
   cases e1:AW H v with
   |none=>
    rw[e1] at h
    exact Got.bT (fun _=>fV (jk es (fun _ _=>HH q) x)) h
   |some D=>
    rw[e1] at h
    exact Got.bT (fun _=>jk es (fun _ _=>M _ _ _ _ _ _ _ q x) x) h) x h
 |.bc _ es,_,_,_,_,_,_,q,x,h=>jk es (fun _ _=>Iu q) x h
 |.comp _ elt _ _ it c _,_,_,_,_,_,_,q,x,h=>cz it (fun _ _=>Got.bT fun _=>fV fun
   |.mk J h0 hd hs=>.mk J h0 (fun acc H h=>fV (zq q) (hd acc H h)) hs) x h
 |.gQ es,_,_,_,_,_,_,q,x,h=>jk es (fun _ _ h s hs=>q _ _ (h s hs)) x h
 |.fmt e,_,_,_,_,_,_,q,x,h=>cz e (fun _ _=>IsI.bT fun _=>fV fun h s hs=>q _ _ (h s hs)) x h
 |.skip,_,_,_,_,_,_,_,_,h=>h
theorem jk:∀ (es:Es){L:bZ}{H:Hp}{Q Q':ah V->Hp->Prop}{X X':PX},(∀ v H,Q v H->Q' v H)->(∀ c H,X c H->X' c H)->wEs C es L H Q X->wEs C es L H Q' X'
 |.nil,_,_,_,_,_,_,q,_,h=>q _ _ h
 |.cons e es,_,_,_,_,_,_,q,x,h=>cz e (fun _ _=>jk es (fun _ _=>q _ _) x) x h
theorem Mj:∀ (es:Es){k:aj}{L:bZ}{H:Hp}{Q Q':PV}{X X':PX},(∀ v H,Q v H->Q' v H)->(∀ c H,X c H->X' c H)->wB C k es L H Q X->wB C k es L H Q' X'
 |.nil,_,_,_,_,_,_,_,_,_,h=>h
 |.cons e es,_,_,_,_,_,_,_,q,x,h=>by
  have ih:=fun{k L H}=>Mj es (k:=k) (L:=L) (H:=H) q x
  cases es with
  |nil=>exact cz e q x h
  |cons e2 Rz=>exact cz e (fun _ _=>Got.bT fun _=>nz ih (q _ _)) x h
end
mutual
theorem Mi:∀ (s:S){rz:aj}{L:bZ}{H:Hp}{Q Q':PO}{X X':fj},(∀ o L H,Q o L H->Q' o L H)->(∀ c L H,X c L H->X' c L H)->wS C rz s L H Q X->wS C rz s L H Q' X'
 |.expr e,_,_,_,_,_,_,_,q,x,h=>cz M e (fun _ _=>fV (q _ _ _)) (fun c H=>x c _ H) h
 |.bz _ e,_,_,_,_,_,_,_,q,x,h=>cz M e (fun _ _=>q _ _ _) (fun c H=>x c _ H) h
 |.jA _ e,_,_,_,_,_,_,_,q,x,h=>cz M e (fun _ _=>KY fun _=>q _ _ _) (fun c H=>x c _ H) h
 |.setAttr e _ v,_,_,_,_,_,_,_,q,x,h=>cz M v (fun _ _=>cz M e (fun _ _=>xB.bT fun _=>q _ _ _) fun c H=>x c _ H) (fun c H=>x c _ H) h
 |.c4 e _ v,_,_,_,_,_,_,_,q,x,h=>cz M v (fun _ _=>cz M e (fun _ _=>y8.bT fun _=>q _ _ _) fun c H=>x c _ H) (fun c H=>x c _ H) h
 |.aug _ _ e,_,_,_,_,_,_,_,q,x,h=>Got.bT (fun _=>cz M e (fun _ _=>uL fun _=>q _ _ _) fun c H=>x c _ H) h
 |.ie e _ _ v,_,_,_,_,_,_,_,q,x,h=>cz M e (fun _ _=>Got.bT fun _=>cz M v (fun _ _=>uL fun _=>xB.bT fun _=>q _ _ _) fun c H=>x c _ H) (fun c H=>x c _ H) h
 |.sg e _ _ v,_,_,_,_,_,_,_,q,x,h=>cz M e (fun _ _=>Got.bT fun _=>cz M v (fun _ _=>uL fun _=>y8.bT fun _=>q _ _ _) fun c H=>x c _ H) (fun c H=>x c _ H) h
 |.dp d a b,_,_,_,_,_,_,_,q,x,h=>cz M d (fun _ _=>Got.bT fun _=>nz (dH a q x) (dH b q x)) (fun c H=>x c _ H) h
 |.kD d b,_,_,_,_,_,_,_,q,x,.mk J k h0 hs=>.mk J k h0 fun k L H h=>cz M d (fun _ _=>Got.bT fun _=>nz (dH b (uu q) x) (q _ _ _)) (fun c H=>x c _ H) (hs k L H h)
 |.uz _ e b,_,_,_,_,_,_,_,q,x,h=>cz M e (fun _ _=>Got.bT fun _=>fun
   |.mk J h0 hd hs=>.mk J h0 (fun L H h=>fV (q _ _ _) (hd L H h)) fun v r L H h=>fV (dH b (uu q) x) (hs v r L H h)) (fun c H=>x c _ H) h
 |.forR _ lo hi b,_,_,_,_,_,_,_,q,x,h=>cz M lo (fun _ _=>cz M hi (fun _ _=>fun
   |.mk i j a1 a2 a3 a4 a5 a6 h=>.mk i j a1 a2 a3 a4 a5 a6 (match h with
    |.mk J h0 hd hs=>.mk J h0 (fun i L H h=>q _ _ _ (hd i L H h)) fun m i L H h=>dH b (uu q) x (hs m i L H h))) fun c H=>x c _ H) (fun c H=>x c _ H) h
 |.ret e,_,_,_,_,_,_,_,q,x,h=>cz M e (fun _ _=>q _ _ _) (fun c H=>x c _ H) h
 |.yz,_,_,_,_,_,_,_,q,_,h=>q _ _ _ h
 |.cC _ e,_,_,_,_,_,_,_,_,x,h=>cz M e (fun _ _=>j9 (x _ _ _)) (fun c H=>x c _ H) h
 |.Ea b _ _ hd,_,_,_,_,_,_,_,q,_,h=>dH b q (fun _ _ _=>fV fun h=>match hd,h with
   |.Qe _,h=>q _ _ _ h
   |.setB _ _,h=>q _ _ _ h
   |.other,h=>h) h
 |.brk,_,_,_,_,_,_,_,q,_,h=>q _ _ _ h
 |.pass,_,_,_,_,_,_,_,q,_,h=>q _ _ _ h
 |.freeze _,_,_,_,_,_,_,_,q,_,.mk a b c d h=>.mk a b c d (q _ _ _ h)
theorem dH:∀ (ss:Ss){rz:aj}{L:bZ}{H:Hp}{Q Q':PO}{X X':fj},(∀ o L H,Q o L H->Q' o L H)->(∀ c L H,X c L H->X' c L H)->wSs C rz ss L H Q X->wSs C rz ss L H Q' X'
 |.nil,_,_,_,_,_,_,_,q,_,h=>q _ _ _ h
 |.cons s r,_,_,_,_,_,_,_,q,x,h=>Mi s (JB (fun _ _=>dH r q x) q) x h
end
end
theorem dj:∀ n,Yj (aM n)
 | 0=>fun _ _ _ _ _ _ _ _ _ h=>h
 |n+1=>fun f vs H Q Q' X X' q x h=>Got.bT (fun ws h=>dH (dj n) _ (fun
   |.next,_,_,h=>q _ _ h
   |.brk,_,_,h=>h
   |.cont,_,_,h=>h
   |.ret _,_,_,h=>q _ _ h) (fun c L H=>x c H) h) h
inductive dG {α β:Type} (R:α->β->Prop):ah α->ah β->Prop
 |nil:dG R [] []
 |cons {a b l m}:R a b->dG R l m->dG R (a::l) (b::m)
namespace dG
variable {α β:Type}{R R':α->β->Prop}{l:ah α}{m:ah β}
theorem bT (h:∀ a b,R a b->R' a b) (x:dG R l m):dG R' l m:=by
 induction x with
 |nil=>exact .nil
 |cons x _ ih=>exact .cons (h _ _ x) ih
theorem length (x:dG R l m):l.length=m.length:=by
 induction x with
 |nil=>rfl
 |cons _ _ ih=>exact aW Nat.succ ih
theorem append {l':ah α}{m':ah β} (x:dG R l m) (y:dG R l' m'):dG R (l++l') (m++m'):=by
 induction x with
 |nil=>exact y
 |cons x _ ih=>exact .cons x ih
theorem drop (x:dG R l m):∀ n,dG R (l.drop n) (m.drop n):=by
 induction x with
 |nil=>exact fun n=>by rw[BJ,BJ];exact .nil
 |cons x y ih=>exact fun n=>match n with
  | 0=>.cons x y
  |n+1=>ih n
theorem take (x:dG R l m):∀ n,dG R (l.take n) (m.take n):=by
 induction x with
 |nil=>exact fun n=>by rw[xg,xg];exact .nil
 |cons x _ ih=>exact fun n=>match n with
  | 0=>.nil
  |n+1=>.cons x (ih n)
theorem get {b:β} (x:dG R l m):∀ {i:Nat},m[i]? =aa b->∃ a,l[i]? =aa a/\R a b:=by
 induction x with
 |nil=>exact fun h=>by contradiction
 |cons x _ ih=>exact fun{i} h=>match i,h with
  | 0,h=>⟨_,rfl,eH h▸x⟩
  |_+1,h=>ih h
theorem get' {a:α} (x:dG R l m):∀ {i:Nat},l[i]? =aa a->∃ b,m[i]? =aa b/\R a b:=by
 induction x with
 |nil=>exact fun h=>by contradiction
 |cons x _ ih=>exact fun{i} h=>match i,h with
  | 0,h=>⟨_,rfl,eH h▸x⟩
  |_+1,h=>ih h
def Un (R:α->β->Prop) (l:ah α):ah β->Prop
 |[]=>l=[]
 |b::m=>∃ a l',l=a::l'/\R a b/\dG R l' m
theorem un (x:dG R l m):Un R l m:=by
 cases x with
 |nil=>exact rfl
 |cons x y=>exact⟨_,_,rfl,x,y⟩
theorem adJ (x:dG R l []):l=[]:=un x
theorem Xw {b:β} (x:dG R l (b::m)):∃ a l',l=a::l'/\R a b/\dG R l' m:=un x
end dG
structure Gh where
 Z:ax->aC V
 D:ax->aC ax
structure Gh.le (g g':Gh):Prop where
 z:∀ a x,g.Z a=aa x->g'.Z a=aa x
 d:∀ d a,g.D d=aa a->g'.D d=aa a
theorem Gh.le.refl (g:Gh):g.le g:=⟨fun _ _ h=>h,fun _ _ h=>h⟩
theorem Gh.le.trans {a b c:Gh} (x:a.le b) (y:b.le c):a.le c:=⟨fun _ _ h=>y.z _ _ (x.z _ _ h),fun _ _ h=>y.d _ _ (x.d _ _ h)⟩
structure Sx where
 s:aF
 g:Gh
 H:Hp
noncomputable abbrev Sx.get (σ:Sx) (a:ax):aC Obj:=σ.s.heap.get? a
noncomputable abbrev Sx.up (σ:Sx) (h:bB) (tk:Nat):Sx:=⟨{σ.s with heap:=h,toks:=tk},σ.g,σ.H⟩
inductive Jb (g:Gh) (x:V) (v:av):Prop
 |mk (a:ax) (e:v=.ref a) (z:g.Z a=aa x)
def er (g:Gh) (v:av):V->Prop
 |.none=>v=.none
 |.bool b=>v=.bool b
 |.int i=>∃ t,v=.int i t
 |.str s=>∃ t,v=.str s t
 |.bytes b=>∃ t,v=.bytes b.toArray t
 |.ref a=>v=.ref a
 |.tup xs=>Jb g (.tup xs) v
 |.bE xs=>Jb g (.bE xs) v
 |.obj C fs=>Jb g (.obj C fs) v
theorem er.le {g g':Gh}{v:av}{x:V} (e:er g v x) (l:g.le g'):er g' v x:=by
 have k:∀ {x},Jb g x v->Jb g' x v:=fun⟨a,e,z⟩=>⟨a,e,l.z _ _ z⟩
 cases x with
 |tup=>exact k e
 |bE=>exact k e
 |obj=>exact k e
 |_=>exact e
structure Cx where
 prog:dx
 w:dy
 az:bB
 T:Tab
inductive SeqAt (σ:Sx) (a:ax) (cls:b_) (xs:ah V):Prop
 |mk (vs:bS av) (n:Nat) (h:σ.get a=aa ⟨.type cls,au,.seq vs n,#[]⟩) (r:dG (er σ.g) vs.toList xs)
structure y_ (c:Cx) (σ:Sx) (e:cI) (kv:Nm×V):Prop where
 key:∃ t,e.key=.str (dQ kv.1) t
 hash:e.hash=PyData.keyHash c.w.params (dQ kv.1)
 val:er σ.g e.val kv.2
inductive DictAt (c:Cx) (σ:Sx) (d:ax) (fs:ah (Nm×V)):Prop
 |mk (es:bS cI) (n:Nat) (h:σ.get d=aa ⟨.type "dict",au,.dict es n,#[]⟩) (r:dG (y_ c σ) es.toList fs) (nd:(fs.map (·.1)).Nodup)
inductive iZ (c:Cx) (σ:Sx) (a:ax) (C:Cn) (fs:ah (Nm×V)):Prop
 |mk (d:ax) (h:σ.get a=aa ⟨.ref (c.T.cA C),aa d,.plain,#[]⟩) (o:σ.g.D d=aa a) (k:DictAt c σ d fs) (f:∀ p∈fs,p.1∈fieldsOf C)
inductive Uy (σ:Sx) (a:ax) (bs:ah aA):Prop
 |mk (h:σ.get a=aa ⟨.type "bytearray",au,.bytearray bs.toArray 0,#[]⟩)
def Wg (c:Cx) (σ:Sx) (a:ax):V->Prop
 |.tup xs=>SeqAt σ a "tuple" xs
 |.bE xs=>SeqAt σ a "list" xs
 |.obj C fs=>iZ c σ a C fs
 |.none=>False |.bool _=>False |.int _=>False |.str _=>False |.bytes _=>False |.ref _=>False
def Ut (c:Cx) (σ:Sx) (a:ax):Mo->Prop
 |.bE xs=>SeqAt σ a "list" xs
 |.inst C fs=>iZ c σ a C fs
 |.i_ fs=>DictAt c σ a fs
 |.ba bs=>Uy σ a bs
structure Sx.Off (σ:Sx) (b:ax):Prop where
 z:σ.g.Z b=au
 h:σ.H b=au
 d:∀ a,σ.g.D b≠aa a
structure Rep (c:Cx) (σ:Sx):Prop where
 yr:∀ a x,σ.g.Z a=aa x->Wg c σ a x
 yB:∀ a o,σ.H a=aa o->Ut c σ a o
 zm:∀ a x,σ.g.Z a=aa x->σ.H a=au
 dz:∀ d a,σ.g.D d=aa a->σ.g.Z d=au/\σ.H d=au
 Jj:∀ d a,σ.g.D d=aa a->∃ o,σ.get d=aa o
 stays:c.az.StaysIn σ.s.heap
 EP:∀ b o,σ.H b=aa o->c.az.get? b=au
 newD:∀ b a,σ.g.D b=aa a->c.az.get? b=au
section
variable {c:Cx}{σ τ:Sx}
structure B0 (σ τ:Sx) (a:ax):Prop where
 l:σ.g.le τ.g
 at_:∀ o,σ.get a=aa o->τ.get a=aa o
 d:∀ d o,σ.g.D d=aa a->σ.get d=aa o->τ.get d=aa o
theorem SeqAt.bT {a:ax}{cl:b_}{xs:ah V} (z:SeqAt σ a cl xs) (k:B0 σ τ a):SeqAt τ a cl xs:=match z with
 |.mk vs n h r=>.mk vs n (k.at_ _ h) (r.bT fun _ _ e=>e.le k.l)
theorem DictAt.bT {a:ax}{fs:ah (Nm×V)} (z:DictAt c σ a fs) (l:σ.g.le τ.g) (k:∀ o,σ.get a=aa o->τ.get a=aa o):DictAt c τ a fs:=match z with
 |.mk es n h r nd=>.mk es n (k _ h) (r.bT fun _ _ e=>⟨e.key,e.hash,e.val.le l⟩) nd
theorem iZ.bT {a:ax}{C:Cn}{fs:ah (Nm×V)} (z:iZ c σ a C fs) (k:B0 σ τ a):iZ c τ a C fs:=match z with
 |.mk d h o q f=>.mk d (k.at_ _ h) (k.l.d _ _ o) (q.bT k.l fun x=>k.d d x o) f
theorem Wg.bT {a:ax}{x:V} (z:Wg c σ a x) (k:B0 σ τ a):Wg c τ a x:=by
 cases x with
 |tup=>exact SeqAt.bT z k
 |bE=>exact SeqAt.bT z k
 |obj=>exact iZ.bT z k
 |_=>exact z
theorem Ut.bT {a:ax}{x:Mo} (z:Ut c σ a x) (k:B0 σ τ a):Ut c τ a x:=by
 cases x with
 |bE=>exact SeqAt.bT z k
 |inst=>exact iZ.bT z k
 |i_=>exact DictAt.bT z k.l k.at_
 |ba=>exact match z with |.mk h=>.mk (k.at_ _ h)
theorem Wg.there {a:ax}{x:V} (z:Wg c σ a x):∃ o,σ.get a=aa o:=by
 have s:∀ {cl xs},SeqAt σ a cl xs->∃ o,σ.get a=aa o:=fun⟨_,_,h,_⟩=>⟨_,h⟩
 cases x with
 |tup=>exact s z
 |bE=>exact s z
 |obj=>cases z;exact⟨_,‹_›⟩
 |_=>exact z.elim
theorem Ut.there {a:ax}{x:Mo} (z:Ut c σ a x):∃ o,σ.get a=aa o:=by
 cases x with
 |bE=>cases z;exact⟨_,‹_›⟩
 |inst=>cases z;exact⟨_,‹_›⟩
 |i_=>cases z;exact⟨_,‹_›⟩
 |ba=>cases z;exact⟨_,‹_›⟩
theorem lj {α:Type}{o:aC α} (h:∀ x,o≠aa x):o=au:=match o,h with
 |none,_=>rfl
 |some x,h=>absurd rfl (h x)
theorem bP {α:Type}{o:aC α}{x:α}{p:Prop} (h:o=au) (k:o=aa x):p:=by rw[h] at k;contradiction
theorem Rep.fresh (R:Rep c σ){b:ax} (e:σ.get b=au):σ.Off b where
 z:=lj fun x h=>(R.yr b x h).there.elim fun _=>bP e
 h:=lj fun x h=>(R.yB b x h).there.elim fun _=>bP e
 d:=fun x h=>(R.Jj b x h).elim fun _=>bP e
theorem Rep.keeps (R:Rep c σ){s':aF} (k:∀ b o,σ.get b=aa o->¬ σ.Off b->s'.heap.get? b=aa o) (st:c.az.StaysIn s'.heap):Rep c ⟨s',σ.g,σ.H⟩:=
 have kd:∀ a d o,σ.g.D d=aa a->σ.get d=aa o->s'.heap.get? d=aa o:=fun a d o q h=>k d o h fun f=>f.d a q
 {R with
  yr:=fun a x e=>(R.yr a x e).bT ⟨.refl _,fun o h=>k a o h fun f=>bP f.z e,kd a⟩
  yB:=fun a x e=>(R.yB a x e).bT ⟨.refl _,fun o h=>k a o h fun f=>bP f.h e,kd a⟩
  Jj:=fun d a q=>(R.Jj d a q).elim fun o h=>⟨o,kd a d o q h⟩
  stays:=st}
theorem Rep.az (R:Rep c σ){a:ax} (h:σ.get a=au):c.az.get? a=au:=lj fun o e=>bP h (R.stays a o e)
noncomputable def Gh.yw (g:Gh) (a:ax) (x:V):Gh:={g with Z:=fun b=>if b=a then aa x else g.Z b}
noncomputable def Gh.N' (g:Gh) (d a:ax):Gh:={g with D:=fun b=>if b=d then aa a else g.D b}
theorem Gh.sR {g:Gh}{a b:ax}{x:V} (n:b≠a):(g.yw a x).Z b=g.Z b:=bb n
theorem Gh.Eh {g:Gh}{a b d:ax} (n:b≠d):(g.N' d a).D b=g.D b:=bb n
theorem Gh.ll {g:Gh}{a:ax}{x:V} (e:g.Z a=au):g.le (g.yw a x):=
 ⟨fun b y h=>(sR fun q:b=a=>bP e (q▸h)).trans h,fun _ _ h=>h⟩
theorem Gh.MN {g:Gh}{a d:ax} (e:∀ a,g.D d≠aa a):g.le (g.N' d a):=
 ⟨fun _ _ h=>h,fun b y h=>(Eh fun q:b=d=>e y (q▸h)).trans h⟩
theorem c7 {α:Type}{p:Prop} [cN p] {a b c:α} (h:(if p then a else b)=c){q:Prop} (x:p->a=c->q) (y:¬ p->b=c->q):q:=
 if hp:p then x hp ((a8 hp).symm.trans h) else y hp ((bb hp).symm.trans h)
theorem Hp.zQ {H:Hp}{a b:ax} (o:Mo) (e:b≠a):(H.set a o) b=H b:=bb e
theorem Hp.zz {H:Hp}{a b:ax} (e:b≠a):(H.drop a) b=H b:=bb e
theorem M6 (H:Hp) (a:ax):∀ b o,H.drop a b=aa o->b≠a/\H b=aa o:=fun b o e=>c7 e (fun _ h=>by contradiction) fun n h=>⟨n,h⟩
theorem ux {H:Hp}{a:ax} (h:H a=au):H.drop a=H:=funext fun b=>if e:b=a then(a8 e).trans (e▸h.symm) else bb e
structure Put (c:Cx) (σ:Sx) (s':aF) (a:ax):Prop where
 z:σ.g.Z a=au
 d:∀ b,σ.g.D a≠aa b
 b:c.az.get? a=au
 k:∀ b o,b≠a->σ.g.D b≠aa a->σ.get b=aa o->s'.heap.get? b=aa o
 th:∀ b,σ.g.D b=aa a->∃ o,s'.heap.get? b=aa o
theorem Rep.put (R:Rep c σ){s':aF}{a:ax}{o:Mo} (p:Put c σ s' a) (m:Ut c ⟨s',σ.g,σ.H.set a o⟩ a o):Rep c ⟨s',σ.g,σ.H.set a o⟩:=
 have kf:∀ {b},b≠a->(∀ x,σ.g.D b≠aa x)->B0 σ ⟨s',σ.g,σ.H.set a o⟩ b:=fun{b} n nd=>⟨.refl _,fun x h=>p.k b x n (nd a) h,fun d x q h=>p.k d x (fun e=>p.d b (e▸q)) (fun e=>n (eH (q.symm.trans e))) h⟩
 have dn:∀ {b x},σ.g.Z b=aa x->∀ y,σ.g.D b≠aa y:=fun h y q=>bP (R.dz _ _ q).1 h
 {yr:=fun b x e=>(R.yr b x e).bT (kf (fun q=>bP p.z (q▸e)) (dn e))
  yB:=fun b x e=>c7 e (fun q h=>by cases h;exact q▸m) fun n h=>(R.yB b x h).bT (kf n fun y q=>bP (R.dz _ _ q).2 h)
  zm:=fun b x e=>(Hp.zQ o fun q=>bP p.z (q▸e)).trans (R.zm b x e)
  dz:=fun d b q=>⟨(R.dz d b q).1,(Hp.zQ o fun e:d=a=>p.d b (e▸q)).trans (R.dz d b q).2⟩
  Jj:=fun d b q=>if e:b=a then p.th d (e▸q) else(R.Jj d b q).elim fun o h=>⟨o,p.k d o (fun e=>p.d b (e▸q)) (fun w=>e (eH (q.symm.trans w))) h⟩
  stays:=fun b o h=>p.k b o (fun e=>bP p.b (e▸h)) (fun q=>bP (R.newD _ _ q) h) (R.stays b o h)
  EP:=fun b o e=>c7 e (fun q _=>q▸p.b) fun _ h=>R.EP b o h
  newD:=R.newD}
theorem Rep.JL (R:Rep c σ){s':aF}{a:ax}{x:V} (z:σ.g.Z a=au) (d:∀ b,σ.g.D a≠aa b) (k:∀ b o,σ.get b=aa o->s'.heap.get? b=aa o)
  (m:Wg c ⟨s',σ.g.yw a x,σ.H.drop a⟩ a x):Rep c ⟨s',σ.g.yw a x,σ.H.drop a⟩:=
 have kf:∀ {b},B0 σ ⟨s',σ.g.yw a x,σ.H.drop a⟩ b:=⟨Gh.ll z,k _,fun d x _=>k d x⟩
 {yr:=fun b y e=>c7 e (fun q h=>by cases h;exact q▸m) fun _ h=>(R.yr b y h).bT kf
  yB:=fun b o e=>(R.yB b o (M6 _ _ b o e).2).bT kf
  zm:=fun b y e=>c7 e (fun q _=>a8 q) fun n h=>(bb n).trans (R.zm b y h)
  dz:=fun w b q=>have n:w≠a:=fun e=>d b (e▸q);⟨(Gh.sR n).trans (R.dz w b q).1,(Hp.zz n).trans (R.dz w b q).2⟩
  Jj:=fun w b q=>(R.Jj w b q).elim fun o h=>⟨o,k w o h⟩
  stays:=fun b o h=>k b o (R.stays b o h)
  EP:=fun b o e=>R.EP b o (M6 _ _ b o e).2
  newD:=R.newD}
theorem Rep.putD (R:Rep c σ){s':aF}{d a:ax} (f:σ.get d=au) (k:∀ b o,σ.get b=aa o->s'.heap.get? b=aa o) (t:∃ o,s'.heap.get? d=aa o):Rep c ⟨s',σ.g.N' d a,σ.H⟩:=
 have F:=R.fresh f
 have kf:∀ {b},B0 σ ⟨s',σ.g.N' d a,σ.H⟩ b:=⟨Gh.MN F.d,k _,fun d x _=>k d x⟩
 {yr:=fun b y e=>(R.yr b y e).bT kf
  yB:=fun b o e=>(R.yB b o e).bT kf
  zm:=R.zm
  dz:=fun w b q=>c7 (q:=σ.g.Z w=au/\σ.H w=au) q (fun e _=>e▸⟨F.z,F.h⟩) fun _ q=>R.dz w b q
  Jj:=fun w b q=>c7 q (fun e _=>e▸t) fun _ q=>(R.Jj w b q).elim fun o h=>⟨o,k w o h⟩
  stays:=fun b o h=>k b o (R.stays b o h)
  EP:=R.EP
  newD:=fun w b q=>c7 q (fun e _=>e▸R.az f) fun _ q=>R.newD w b q}
end
structure sH (frs:ah ax) (b:ax) (o:Obj) (h':bB):Prop where
 k:b∉frs->h'.get? b=aa o
 slots:∃ sl,h'.get? b=aa {o with slots:=sl}
theorem sH.refl {frs:ah ax}{h:bB}{b:ax}{o:Obj} (e:h.get? b=aa o):sH frs b o h:=⟨fun _=>e,o.slots,e⟩
structure Rel (c:Cx) (frs own:ah ax) (σ τ:Sx):Prop where
 le:σ.g.le τ.g
 rep:Rep c τ
 keep:∀ b o,σ.get b=aa o->σ.Off b->b∉own->sH frs b o τ.s.heap
 off:∀ b o,σ.get b=aa o->σ.Off b->τ.Off b
 gens:τ.s.gens=σ.s.gens
 drawn:τ.s.drawn=σ.s.drawn
 os:τ.s.os=σ.s.os
section
variable {c:Cx}{frs own:ah ax}{σ τ ρ:Sx}
theorem Rel.refl (R:Rep c σ):Rel c frs own σ σ:=⟨.refl _,R,fun _ _ e _ _=>.refl e,fun _ _ _ f=>f,rfl,rfl,rfl⟩
theorem sH.trans {h h':bB}{b:ax}{o:Obj} (x:sH frs b o h) (y:∀ o,h.get? b=aa o->sH frs b o h'):sH frs b o h':=
 ⟨fun m=>(y o (x.k m)).k m,x.slots.elim fun _ e=>(y _ e).slots⟩
theorem Rel.trans (x:Rel c frs own σ τ) (y:Rel c frs own τ ρ) (no:∀ b∈own,ρ.Off b):Rel c frs own σ ρ where
 le:=x.le.trans y.le
 rep:=y.rep
 keep b o e nf nb:=(x.keep b o e nf nb).trans fun o' e'=>y.keep b o' e' (x.off b o e nf) nb
 off b o e nf:=if nb:b∈own then no b nb else(x.keep b o e nf nb).slots.elim fun _ e'=>y.off b _ e' (x.off b o e nf)
 gens:=y.gens.trans x.gens
 drawn:=y.drawn.trans x.drawn
 os:=y.os.trans x.os
theorem Rel.wide (x:Rel c frs [] σ τ):Rel c frs own σ τ:={x with keep:=fun b o e nf _=>x.keep b o e nf nofun}
theorem Rel.turn (R:Rep c σ) (r:Rel c frs own σ τ){L:ah ax}{h':bB}{tk:Nat} (na:∀ a∈L,σ.get a=au) (nf:∀ a∈L,τ.Off a) (k:∀ b o,b∉L->τ.get b=aa o->h'.get? b=aa o):Rel c frs own σ (τ.up h' tk):=
 have ne:∀ {b o},σ.get b=aa o->b∉L:=fun e q=>bP (na _ q) e
 {r with
  rep:=r.rep.keeps (fun b o e f=>k b o (fun q=>f (nf b q)) e) fun b o e=>k b o (fun q=>bP (R.az (na b q)) e) (r.rep.stays b o e)
  keep:=fun b o e f nb=>(r.keep b o e f nb).trans fun o' e'=>.refl (k b o' (ne e) e')
  off:=fun b o e f=>have w:=r.off b o e f;⟨w.z,w.h,w.d⟩}
theorem Rel.grow (R:Rep c σ){h':bB}{tk:Nat} (k:∀ b o,σ.get b=aa o->h'.get? b=aa o):Rel c frs own σ (σ.up h' tk):=
 .turn R (.refl R) (L:=[]) nofun nofun fun b o _=>k b o
theorem Rel.tok (R:Rep c σ){tk:Nat}:Rel c frs own σ (σ.up σ.s.heap tk):=.grow R fun _ _ e=>e
theorem Rel.put (r:Rel c frs own σ τ){h':bB}{tk:Nat}{a:ax}{o:Mo} (no:∀ o,σ.get a=aa o->¬ σ.Off a) (ud:∀ b o,σ.get b=aa o->σ.Off b->∀ x,τ.g.D b≠aa x) (p:Put c τ (τ.up h' tk).s a)
  (m:Ut c ⟨(τ.up h' tk).s,τ.g,τ.H.set a o⟩ a o):Rel c frs own σ ⟨(τ.up h' tk).s,τ.g,τ.H.set a o⟩:=
 {r with
  rep:=r.rep.put p m
  keep:=fun b x e f nb=>(r.keep b x e f nb).trans fun x' e'=>.refl (p.k b x' (fun q=>no x (q▸e) (q▸f)) (ud b x e f a) e')
  off:=fun b x e f=>have w:=r.off b x e f;⟨w.z,(Hp.zQ o fun q:b=a=>no x (q▸e) (q▸f)).trans w.h,w.d⟩}
theorem Rel.Oj (r:Rel c frs own σ τ):∀ b o,σ.get b=aa o->σ.Off b->∀ x,τ.g.D b≠aa x:=fun b o e f=>(r.off b o e f).d
end
noncomputable def exP:{F:av->fi×Pos->aj // ∀ v,Builtin.Bytes.exported v=stack>>=fun l=>Pure.pure (l.any (F v))}:=⟨_,fun _=>rfl⟩
def rn (c:fi):Prop:=∀ v p,exP.1 v (c,p)=ao
def NH (l:ah (fi×Pos)):Prop:=∀ x∈l,∀ v,exP.1 v x=ao
def ia {α:Type} (M:eD) (A:bF) (t:Sem α) (Q:α->aF->Prop) (E:av->aF->Prop) (s:aF):Prop:=
 ∀ Γ p,Γ.In A->rn Γ.code->NH Γ.below->Sem.wp M Γ t (fun a _ s'=>Q a s') (fun e _ s'=>E e s') p s
def iJ (M:eD) (A:bF) (c:fi) (R:fp->aF->Prop) (s:aF):Prop:=
 ∀ Γ p,Γ.code=c->Γ.Below A->NH Γ.below->wpCode M Γ R p s
section
variable {α β:Type}{M:eD}{A:bF}{E:av->aF->Prop}{s:aF}
theorem fW {c:Prop} [cN c] {a b:Sem α}{Q:α->aF->Prop} (hc:¬ c) (h:aO M A b Q E s):aO M A (if c then a else b) Q E s:=(bb hc).symm▸h
theorem Ug {c:Prop} [cN c] {a b:Sem α}{Q:α->aF->Prop} (hc:c) (h:aO M A a Q E s):aO M A (if c then a else b) Q E s:=(a8 hc).symm▸h
theorem pZ {m:Sem α}{a:α}{f:α->Sem β}{Q:β->aF->Prop} (e:m=Pure.pure a) (h:aO M A (f a) Q E s):aO M A (m>>=f) Q E s:=e▸bf (bW h)
end
namespace I
section
variable {α β:Type}{M:eD}{A:bF}{E:av->aF->Prop}{s:aF}{env:Env}
theorem any {t:Sem α}{Q:α->aF->Prop} (h:aO M A t Q E s):ia M A t Q E s:=fun Γ p hΓ _ _=>h Γ p hΓ
theorem anyC {c:fi}{R:fp->aF->Prop} (h:codeAny M A c R s):iJ M A c R s:=fun Γ p hc hΓ _=>h Γ p hc hΓ
theorem pure {a:α}{Q:α->aF->Prop} (h:Q a s):ia M A (Pure.pure a) Q E s:=any (bW h)
theorem bT {t:Sem α}{Q Q':α->aF->Prop}{E':av->aF->Prop} (h:ia M A t Q E s) (hQ:∀ a s,Q a s->Q' a s) (hE:∀ e s,E e s->E' e s):ia M A t Q' E' s:=
 fun Γ p hΓ h1 h2=>BD M Γ t (fun a _ s=>hQ a s) (fun e _ s=>hE e s) p s (h Γ p hΓ h1 h2)
theorem bind {m:Sem α}{f:α->Sem β}{Q:β->aF->Prop} (h:ia M A m (fun a s'=>ia M A (f a) Q E s') E s):ia M A (m>>=f) Q E s:=fun Γ p hΓ h1 h2=>by
 rw[SI]
 exact BD M Γ m (fun a p' s' h'=>h' Γ p' hΓ h1 h2) (fun _ _ _ h'=>h') p s (h Γ p hΓ h1 h2)
theorem leaf {m:Sem α}{f:α->Sem β}{Q:β->aF->Prop} (h:aO M A m (fun a s'=>ia M A (f a) Q E s') E s):ia M A (m>>=f) Q E s:=bind (any h)
theorem standAt {pos:Pos}{Q:cR->aF->Prop} (h:Q () s):ia M A (PySem.standAt pos) Q E s:=any (BI h)
theorem cY {pos:Pos}{f:cR->Sem β}{Q:β->aF->Prop} (h:ia M A (f ()) Q E s):ia M A (PySem.standAt pos>>=f) Q E s:=bind (standAt h)
theorem holding {vs:ah av}{m:Sem α}{Q:α->aF->Prop} (h:ia M A m Q E s):ia M A (PySem.holding vs m) Q E s:=
 fun Γ p hΓ h1 h2=>by rw[Sem.wp_holding];exact h Γ p hΓ h1 h2
theorem operate {vs:ah av}{m:Sem av}{Q:av->aF->Prop} (h:ia M A m Q E s):ia M A (PySem.operate vs m) Q E s:=
 fun Γ p hΓ h1 h2=>by rw[Sem.wp_operate];exact h Γ p hΓ h1 h2
theorem keep {vs:ah av}{m:Sem α}{Q:α->aF->Prop} (h:ia M A m Q E s):ia M A (m.keep vs) Q E s:=
 fun Γ p hΓ h1 h2=>by rw[Sem.wp_keep];exact h Γ p hΓ h1 h2
theorem onRaise {m:Sem α}{k:av->Sem cR}{Q:α->aF->Prop} (h:ia M A m Q (fun e s'=>ia M A (k e) (fun _ JJ=>E e JJ) E s') s):ia M A (m.onRaise k) Q E s:=fun Γ p hΓ h1 h2=>by
 rw[Sem.wp_onRaise]
 exact BD M Γ m (fun _ _ _ h'=>h') (fun e p' s' h'=>h' Γ p' hΓ h1 h2) p s (h Γ p hΓ h1 h2)
theorem attempt {m:Sem α}{Q:Except av α->aF->Prop} (h:ia M A m (fun a=>Q (.ok a)) (fun e=>Q (.error e)) s):ia M A m.attempt Q E s:=fun Γ p hΓ h1 h2=>by
 rw[Sem.wp_attempt];exact h Γ p hΓ h1 h2
theorem HS {c:Prop} [cN c] {a b:Sem α}{Q:α->aF->Prop} (hc:¬ c) (h:ia M A b Q E s):ia M A (if c then a else b) Q E s:=(bb hc).symm▸h
theorem ifT {c:Prop} [cN c] {a b:Sem α}{Q:α->aF->Prop} (hc:c) (h:ia M A a Q E s):ia M A (if c then a else b) Q E s:=(a8 hc).symm▸h
theorem eq {m:Sem α}{a:α}{f:α->Sem β}{Q:β->aF->Prop} (e:m=Pure.pure a) (h:ia M A (f a) Q E s):ia M A (m>>=f) Q E s:=e▸bind (pure h)
theorem point {Q:cR->aF->Prop} (h:Q () s):ia M A PySem.point Q E s:=any (wpAny_point h)
theorem uy {Γ:Ctx}{p:Pos} (h1:rn Γ.code) (h2:NH Γ.below):NH ((Γ.code,p)::Γ.below):=fun x hx v=>(dS.mp hx).elim (fun e=>e▸h1 v p) fun hx=>h2 x hx v
theorem pN {c:fi}{R R':fp->aF->Prop} (h:iJ M A c R s) (hR:∀ r s,R r s->R' r s):iJ M A c R' s:=fun Γ p hc hΓ hg=>wpCode_mono hR (h Γ p hc hΓ hg)
theorem run {c:fi}{h:aC av}{Q:iR->aF->Prop} (hnb:h≠aa byPass) (hc:iJ M (A.mark h) c (fun r s'=>match r with |.ok f=>Q f s' |.error e=>E e s') s):
  ia M A (PySem.run c h) Q E s:=fun Γ p hΓ h1 h2=>by rw[Sem.wp_run];exact hc _ p rfl (hΓ.enter c h p hnb) (uy h1 h2)
theorem runValue {c:fi}{Q:av->aF->Prop} (hc:iJ M A c (fun r s'=>match r with |.ok (.ret v)=>Q v s' |.ok _=>False |.error e=>E e s') s):ia M A (PySem.runValue c) Q E s:=
 fun Γ p hΓ h1 h2=>by rw[Sem.wp_runValue];exact hc _ p rfl (hΓ.enter c au p (by intro x;contradiction)) (uy h1 h2)
theorem call {f:av}{pos:ah av}{kw:ah (Str×av)}{Q:av->aF->Prop} (hc:iJ M A (.call f ⟨pos,kw⟩) (fun r s'=>match r with |.ok (.ret v)=>Q v s' |.ok _=>False |.error e=>E e s') s):
  ia M A (PySem.call f pos kw) Q E s:=runValue hc
theorem runOwn {c:fi}{h:aC av}{Q:iR->aF->Prop} (hnb:h≠aa byPass)
  (hc:iJ M (A.mark h) c (fun r s'=>match r with |.ok f=>Q f s' |.error e=>cameBackBy M A env E e s') s):ia M A (PySem.runOwn c env h) Q E s:=by
 unfold PySem.runOwn
 exact onRaise (bT (run hnb hc) (fun _ _ z=>z) fun _ _ z=>any z)
theorem tree {c:fi}{R:fp->aF->Prop} (hd:rn c)
  (h:ia M (A.under c) (M.den c) (fun fin s'=>match fin with |.done f=>R (.ok f) s' |.again c'=>c'.quiet=ag/\iJ M A c' R s') (fun e s'=>R (.error e) s') s):iJ M A c R s:=fun Γ p hc hΓ hg=>by
 rw[wpCode_iff_wp,hc]
 refine BD M Γ _ (fun fin p' s' h'=>?_) (fun _ _ _ h'=>h') p s (h Γ p (hc▸hΓ.in) (hc▸hd) hg)
 cases fin with
 |done f=>exact h'
 |again c'=>exact⟨h'.1,h'.2 (Γ.goto c') p' rfl (hΓ.goto c') hg⟩
theorem loop {c:fi}{R:fp->aF->Prop} (hq:c.quiet=ag) (hd:rn c) (J:Nat->aF->Prop)
  (turn:∀ n s,J n s->ia M (A.under c) (M.den c) (fun fin s'=>match fin with |.done f=>R (.ok f) s' |.again c'=>c'=c/\∃ m,m < n/\J m s') (fun e s'=>R (.error e) s') s)
  (n:Nat) (h:J n s):iJ M A c R s:=by
 induction n using Nat.strongRecOn generalizing s with
 |ind n ih=>
  refine tree hd (bT (turn n s h) (fun fin s' hf=>?_) fun _ _ h'=>h')
  cases fin with
  |done f=>exact hf
  |again c'=>obtain⟨rfl,m,hm,hI⟩:=hf;exact⟨hq,ih m hm hI⟩
theorem release {vs keep:ah av}{Q:cR->aF->Prop} (h:Q () s):ia M A (PySem.release vs keep) Q E s:=any (wpAny_release' h)
theorem bindName {x:Str}{v:av}{Q:cR->aF->Prop} (h:aO M A (storeName env x v) Q E s):ia M A (PySem.bindName env x v) Q E s:=any (Tn h)
theorem exported {v:av}{Q:aj->aF->Prop} (h:Q ao s):ia M A (Builtin.Bytes.exported v) Q E s:=fun Γ p hΓ h1 h2=>by
 rw[exP.2 v,SI]
 show Q _ s
 rw[TQ.mpr fun x hx=>uT (uy (p:=p) h1 h2 x hx v)]
 exact h
end
end I
namespace I
section
variable {M:eD}{A:bF}{E:av->aF->Prop}{s:aF}{env:Env}{pos:Pos}
theorem evalArgs_plain {f:av}{x:Sem av}{rest:ah (aj×Sem av)}{Q:Args->aF->Prop} (h:ia M A (spliced ((ao,x)::rest)) (fun vs s'=>Q ⟨vs,[]⟩ s') E s):ia M A (evalArgs f ag ((ao,x)::rest) []) Q E s:=by
 unfold evalArgs
 show ia M A (spliced ((ao,x)::rest)>>=_) Q E s
 refine bind (bT h (fun vs s' h'=>?_) fun _ _ x=>x)
 refine holding ?_
 exact bind (pure (bind (pure (pure h'))))
theorem abw {α:Type}{c:Prop} [cN c] {a b:Sem α}{Q:α->aF->Prop} (h:ia M A a Q E s) (h':ia M A b Q E s):ia M A (if c then a else b) Q E s:=by
 by_cases x:c
 ·rw[a8 x];exact h
 ·rw[bb x];exact h'
theorem callWith_of {f:av} {first:ah av}{Q:av->aF->Prop}{P:bB->Prop}{args:ah (aj×Sem av)} (Kq:args.any (·.1)=ao)
  (hk:∀ h,P h->∃ k,(k=Keeper.frame∨k=Keeper.machine∨k=Keeper.boundFrame)/\Looks M h (keeperOf f) k)
  (h:ia M A (evalArgs f ag args []) (fun a s₁=>P s₁.heap/\ia M A (PySem.call f (first++a.pos) a.kw) Q E s₁) E s):ia M A (callWith pos f first args []) Q E s:=by
 unfold callWith
 refine bind (holding (bT h (fun a s₁ h₁=>bind (standAt ?_)) fun _ _ x=>x))
 obtain⟨k,Za,L⟩:=hk _ h₁.1
 rw[Kq]
 refine bind (any (L.here ?_))
 have tail:∀ {t:Sem av},ia M A t Q E s₁->ia M A (t>>=fun r=>PySem.holding [r] PySem.point>>=fun _=>Pure.pure r) Q E s₁:=
  fun ht=>bind (bT ht (fun r s₂ hr=>bind (holding (point (pure hr)))) fun _ _ x=>x)
 have marked (mk:av):ia M A (callMarked mk f (first++a.pos) a.kw) Q E s₁:=by unfold callMarked;exact keep h₁.2
 rcases Za with rfl |rfl |rfl
 ·exact abw (tail h₁.2) (tail (marked _))
 ·exact tail h₁.2
 ·exact abw (tail h₁.2) (tail (marked _))
theorem callWith_builtin {f:av} {first:ah av}{Q:av->aF->Prop}{args:ah (aj×Sem av)} (Kq:args.any (·.1)=ao) (hf:∀ a,f≠.ref a)
  (h:ia M A (evalArgs f ag args []) (fun a s₁=>ia M A (PySem.call f (first++a.pos) a.kw) Q E s₁) E s):ia M A (callWith pos f first args []) Q E s:=by
 unfold callWith
 refine bind (holding (bT h (fun a s₁ h₁=>bind (standAt ?_)) fun _ _ x=>x))
 rw[Kq]
 refine bind ?_
 have hk:keeperOf f=Pure.pure .machine:=by cases f<;>first |rfl |exact absurd rfl (hf _)
 rw[hk]
 exact pure (bind (bT h₁ (fun r s₂ hr=>bind (holding (point (pure hr)))) fun _ _ x=>x))
end
end I
namespace I
section
variable {prog:dx}{w:dy}{A:bF}{C:ax}{R:fp->aF->Prop}{h:bB}{g:bS GenState}{d:Drawn}{t:Nat}{os:gH}
theorem D_ (C:ax) (rest:ah av):Builtin.«type.__call__» ⟨.ref C::rest,[]⟩=(do
  if (<- mroOf (.ref C)).isEmpty then rule "type.call.half-made";raiseError "TypeError" s!"cannot create '{← typeName (.ref C)}' instances"
  let new <- match <- Bind.madeBy (.ref C) with
   |some id=>Pure.pure (.builtin id)
   |none=>getAttr (.ref C) "__new__"
  let obj <- PySem.holding [new] (PySem.call new (.ref C::rest) [])
  if !(<- isInstance obj (.ref C)) then rule "type.call.new-gave-other-type";return <- ret obj
  match <- PySem.holding [obj] (callSpecial? obj "__init__" rest []) with
  |none=>ret obj
  |some r=>
   if r != .none then
    rule "type.call.init-returned-value"
    raiseError "TypeError" s!"__init__() should return None, not '{← typeNameOf r}'"
   ret obj):=rfl
theorem builtin {id:b_}{args:Args}{b:si}{s:aF} (hb:entryFor table id=aa b) (hd:rn (.builtin id args))
  (h:ia (model prog w) (A.under (.builtin id args)) (b args) (fun fin s'=>match fin with |.done f=>R (.ok f) s' |.again c'=>c'.quiet=ag/\iJ (model prog w) A c' R s') (fun e s'=>R (.error e) s') s):
  iJ (model prog w) A (.builtin id args) R s:=by
 refine tree hd ?_
 show ia _ _ (match entryFor table id with |some b=>b args |none=>unsupported ((withoutEnding? id "#data").getD id)) _ _ s
 rw[hb];exact h
theorem pF {id:b_}{v:av}{r:ah av}{kw:ah (Str×av)} (h:Builtin.Bytes.decodersThatHold.contains id=ao) (e:∀ w p,exP.1 w (.builtin id ⟨v::r,kw⟩,p)=(Builtin.Bytes.sameRef v w&&Builtin.Bytes.decodersThatHold.contains id)):rn (.builtin id ⟨v::r,kw⟩):=
 fun w p=>(e w p).trans (by rw[h];exact LR _)
theorem make_core {rest:ah av}{init:av} (Y:Makes (model prog w) h C) (hi:Looks (model prog w) h (typeLookup (.ref C) "__init__") (aa init))
  (hb:∀ self,Looks (model prog w) h (bindSpecial init self) (init,[self])) (Dq:(aa init != aa (Value.builtin "object.__init__"))=ag)
  (hq:iJ (model prog w) (A.under (.builtin "type.__call__" ⟨.ref C::rest,[]⟩)) (.call init ⟨.ref (h.objs.size+1)::rest,[]⟩) (InitBack (h.objs.size+1) R) ⟨(h.push emptyDict).push (instObj C h.objs.size),g,d,t,os⟩):
  iJ (model prog w) A (.call (.ref C) ⟨rest,[]⟩) R ⟨h,g,d,t,os⟩:=by
 have Y':=Y
 obtain⟨⟨oc,od,cd,sl,hC,e1,e2,e4⟩,made,az,self,top,acd,typ⟩:=Y
 --the class is called:type.acF
 have p1:∀ A' E,aO (model prog w) A' (callAny (.ref C) ⟨rest,[]⟩) (fun fin s'=>fin=.again (.call (.builtin "type.__call__") ⟨.ref C::rest,[]⟩)/\s'=⟨h,g,d,t,os⟩) E ⟨h,g,d,t,os⟩:=by
  intro A' E
  refine nd_load hC ?_
  show aO _ _ (callAny.viaDunder (.ref C) _) _ _ _
  unfold callAny.viaDunder
  refine bf (acd.at ?_)
  dsimp only
  rw[tc_bind]
  exact bf (bW (bf (bW (bW ⟨rfl,rfl⟩))))
 refine tree (fun _ _=>rfl) (bT (any (p1 _ _)) (fun fin s' z=>?_) fun _ _ z=>z)
 obtain⟨rfl,rfl⟩:=z
 refine⟨rfl,tree (fun _ _=>rfl) ?_⟩
 show ia _ _ (do checkBuiltinCall "type.__call__" ⟨.ref C::rest,[]⟩;again (.builtin "type.__call__" ⟨.ref C::rest,[]⟩)) _ _ _
 refine bind (any (check_slot tc_kind tc_split typ (tc_args _ _ _) ?_))
 refine pure ⟨T4 _ (by decide+kernel),builtin entry_typeCall (pF (by decide+kernel) fun _ _=>rfl) ?_⟩
 rw[D_]
 have hm:Looks (model prog w) h (mroOf (.ref C)) cd.mro:=((Lp (part:=none) hC).andThen .now).andThen .now
 refine bind (any (hm.here ?_))
 rw[e4]
 simp only[T5,if_false]
 refine bind (any (made.here ?_))
 refine bind (pure ?_)
 refine bind (holding (call (anyC (new_K Y' hi (.inl Dq) ?_))))
 have k:∀ b o,h.get? b=aa o->((h.push emptyDict).push (instObj C h.objs.size)).get? b=aa o:=fun b o e=>jN _ (jN _ e)
 have hx:((h.push emptyDict).push (instObj C h.objs.size)).get? (h.objs.size+1)=aa (instObj C h.objs.size):=by
  have:=jg (h.push emptyDict) (o:=instObj C h.objs.size) rfl
  rwa [LQ] at this
 have t1:Looks (model prog w) ((h.push emptyDict).push (instObj C h.objs.size)) (typeOf (.ref (h.objs.size+1))) (.ref C):=(Lp hx).andThen .now
 have s1:=self.keeps k
 have i1:=hi.keeps k
 have b1:=(hb (.ref (h.objs.size+1))).keeps k
 unfold isInstance callSpecial? specialOf
 refine bind (any (bf (t1.at (s1.at ?_))))
 simp only[S_,T5,if_false]
 refine bind (holding (bind (bind (any (t1.at (any (i1.at ?_)))))))
 refine holding (bind (any (b1.at ?_)))
 refine bind (call ?_)
 refine pN hq fun r s' z=>?_
 rcases r with e |(_ |_ |_ |v)
 ·exact z
 ·exact z.elim
 ·exact z.elim
 ·exact z.elim
 ·obtain⟨rfl,z⟩:=z
  exact pure (pure z)
end
end I
theorem aU {a b:aj} (h:(a&&b)=ag):a=ag:=(eU.mp h).1
theorem bx {a b:aj} (h:(a&&b)=ag):b=ag:=(eU.mp h).2
theorem fG {a b c d e:aj} (h:((((a&&b)&&c)&&d)&&e)=ag):a=ag:=aU (aU (aU (aU h)))
theorem not_of {a:aj} (h:(!a)=ag):a=ao:=(Gr a).mp h
section
variable {α:Type}
@[elab_as_elim] theorem tp {P:ah α->Prop}{l:ah α} (h:l0 l=ag) (K:P []):P l:=match l,h with
 |[],_=>K
 |_::_,h=>by contradiction
@[elab_as_elim] theorem ry {P:ah α->Prop}{l:ah α}{f:α->aj} (h:l1 l f=ag) (K:∀ x,f x=ag->P [x]):P l:=match l,h with
 |[],h=>by contradiction
 |x::r,h=>tp (P:=fun r=>P (x::r)) (bx h) (K x (aU h))
@[elab_as_elim] theorem Oz {P:ah α->Prop}{l:ah α}{f:α->α->aj} (h:l2 l f=ag) (K:∀ x y,f x y=ag->P [x,y]):P l:=match l,h with
 |[],h=>by contradiction
 |x::r,h=>ry (P:=fun r=>P (x::r)) h (K x)
@[elab_as_elim] theorem QL {P:aC α->Prop}{o:aC α} (h:o0 o=ag) (K:P au):P o:=match o,h with
 |none,_=>K
 |some _,h=>by contradiction
@[elab_as_elim] theorem uq {P:aC α->Prop}{o:aC α}{f:α->aj} (h:o1 o f=ag) (K:∀ x,f x=ag->P (aa x)):P o:=match o,h with
 |none,h=>by contradiction
 |some x,h=>K x h
end
@[elab_as_elim] theorem Hu {f:Int->Tok->aj}{P:av->Prop}{x:av} (h:EA x f=ag) (K:∀ i t,f i t=ag->P (.int i t)):P x:=
 if q:x.ctorIdx=4 then PySem.Value.int.elim (motive:=fun x=>EA x f=ag->P x) x q (fun i t h=>K i t h) h else absurd ((da q).symm.trans h) cj
@[elab_as_elim] theorem Qz {f:Str->Tok->aj}{P:av->Prop}{x:av} (h:JS x f=ag) (K:∀ q t,f q t=ag->P (.str q t)):P x:=
 if q:x.ctorIdx=6 then PySem.Value.str.elim (motive:=fun x=>JS x f=ag->P x) x q (fun q t h=>K q t h) h else absurd ((da q).symm.trans h) cj
@[elab_as_elim] theorem Oe {f:b_->aj}{P:av->Prop}{x:av} (h:Ez x f=ag) (K:∀ n,f n=ag->P (.type n)):P x:=
 if q:x.ctorIdx=8 then PySem.Value.type.elim (motive:=fun x=>Ez x f=ag->P x) x q (fun n h=>K n h) h else absurd ((da q).symm.trans h) cj
@[elab_as_elim] theorem Vi {f:b_->aj}{P:av->Prop}{x:av} (h:QA x f=ag) (K:∀ n,f n=ag->P (.builtin n)):P x:=
 if q:x.ctorIdx=9 then PySem.Value.builtin.elim (motive:=fun x=>QA x f=ag->P x) x q (fun n h=>K n h) h else absurd ((da q).symm.trans h) cj
@[elab_as_elim] theorem Aa {f:ax->aj}{P:av->Prop}{x:av} (h:Ab x f=ag) (K:∀ a,f a=ag->P (.ref a)):P x:=
 if q:x.ctorIdx=10 then PySem.Value.ref.elim (motive:=fun x=>Ab x f=ag->P x) x q (fun a h=>K a h) h else absurd ((da q).symm.trans h) cj
@[elab_as_elim] theorem QE {f:(bS av)->Nat->aj}{P:iu->Prop}{x:iu} (h:J5 x f=ag) (K:∀ xs n,f xs n=ag->P (.seq xs n)):P x:=
 if q:x.ctorIdx=2 then PySem.Data.seq.elim (motive:=fun x=>J5 x f=ag->P x) x q (fun xs n h=>K xs n h) h else absurd ((da q).symm.trans h) cj
@[elab_as_elim] theorem Vk {f:f6->aj}{P:iu->Prop}{x:iu} (h:QF x f=ag) (K:∀ fd,f fd=ag->P (.func fd)):P x:=
 if q:x.ctorIdx=7 then PySem.Data.func.elim (motive:=fun x=>QF x f=ag->P x) x q (fun fd h=>K fd h) h else absurd ((da q).symm.trans h) cj
@[elab_as_elim] theorem QH {f:ClassData->aj}{P:iu->Prop}{x:iu} (h:J6 x f=ag) (K:∀ cd,f cd=ag->P (.cls cd)):P x:=
 if q:x.ctorIdx=8 then PySem.Data.cls.elim (motive:=fun x=>J6 x f=ag->P x) x q (fun cd h=>K cd h) h else absurd ((da q).symm.trans h) cj
@[elab_as_elim] theorem Vl {f:(bS av)->aj}{P:iu->Prop}{x:iu} (h:QG x f=ag) (K:∀ vs,f vs=ag->P (.fields vs)):P x:=
 if q:x.ctorIdx=9 then PySem.Data.fields.elim (motive:=fun x=>QG x f=ag->P x) x q (fun vs h=>K vs h) h else absurd ((da q).symm.trans h) cj
@[elab_as_elim] theorem Ow {α:Type}{P:ah α->Prop}{l:ah α}{f:α->ah α->aj} (h:lk l f=ag) (K:∀ x r,f x r=ag->P (x::r)):P l:=by
 cases l with
 |nil=>contradiction
 |cons x r=>exact K x r h
noncomputable def jM (fr:ah Env):ah ax:=fr.filterMap (·.frame)
noncomputable def ownOf (env:Env):ah ax:=env.locals::env.cells.map (·.2)
structure acM (K:cW) (T:Tab) (C:Cn):Prop where
 ga:findIn K (.ref (T.cA C)) "__getattribute__"=aa (aa (.builtin "object.__getattribute__"))
 sa:findIn K (.ref (T.cA C)) "__setattr__"=aa (aa (.builtin "object.__setattr__"))
 ng:findIn K (.ref (T.cA C)) "__getattr__"=aa au
 pl:plainOver K (T.cA C)=ag
 hd:(clsIn K (T.cA C)).any (·.hasDict)=ag
 fld:∀ f∈fieldsOf C,findIn K (.ref (T.cA C)) (dQ f)=aa au
 mks:makesIn K (T.cA C)=ag
 ini:∀ f,rB C=aa f->findIn K (.ref (T.cA C)) "__init__"=aa (aa (.ref (T.fA f)))
 bk:∀ m f,oU C m=aa f->findIn K (.ref (T.cA C)) (dQ m)=aa (aa (.ref (T.fA f)))
 clk:keepIn K (.ref (T.cA C))=ag
structure Gd (c:Cx) (K:cW):Prop where
 inb:K.In c.az
 cls:∀ C,fieldsOf C≠[]->acM K c.T C
 fnk:∀ f,isFn K (.ref (c.T.fA f))=ag/\keepIn K (.ref (c.T.fA f))=ag
 gk:∀ n i,HZ n=aa i->∃ t,nsIn K mainGlobals (dQ n)=aa (aa (.int i t))
 gf:∀ f,f.top=ag->nsIn K mainGlobals (Str.ofString f.s)=aa (aa (.ref (c.T.fA f)))
 gc:∀ C,nsIn K mainGlobals (Str.ofString (Cn.s C))=aa (aa (.ref (c.T.cA C)))
 gb:∀ b:Bi,nsIn K mainGlobals (Str.ofString b.s)=aa au/\nsIn K builtinsNs (Str.ofString b.s)=aa (aa b.v)
 gr:nsIn K mainGlobals "range"=aa au/\nsIn K builtinsNs "range"=aa (aa (.type "range"))
 exc:∀ C:Cn,C.isExc=ag->Zq K (c.T.cA C) Xq "Exception.__new__"=ag
 exk:∀ C:Cn,C.isExc=ag->keepIn K (.ref (c.T.cA C))=ag
 exm:∀ C D:Cn,C.isExc=ag->D.isExc=ag->exmOne K (.ref (c.T.cA C)) (.ref (c.T.cA D))=aa (C.under D)
inductive BU (env:Env) (h:bB) (n:Str) (u:av):Prop
 |loc (k:env.kindOf n=aa .local) (m:Str->aC av) (hn:h.Ns env.locals m) (e:m n=aa u)
 |cell (k:env.kindOf n=aa .cell∨env.kindOf n=aa .free) (a:ax) (e:env.cells.lookup n=aa a) (hc:h.IsCell a (aa u))
structure Th (c:Cx) (frs:ah ax) (σ τ:Sx) (s':aF):Prop where
 le:σ.g.le τ.g
 rep:Rep c τ
 k:∀ b o,σ.get b=aa o->σ.Off b->b∉frs->τ.get b=aa o
 sl:∀ b o,σ.get b=aa o->σ.Off b->b∈frs->∃ sl,s'.heap.get? b=aa {o with slots:=sl}
 off:∀ b o,σ.get b=aa o->σ.Off b->τ.Off b
 gens:s'.gens=σ.s.gens
 drawn:s'.drawn=σ.s.drawn
 os:s'.os=σ.s.os
inductive OkC (c:Cx) (fr:ah Env) (σ:Sx) (Q:PV) (v:av) (s':aF):Prop
 |mk (g:Gh) (H:Hp) (x:V) (e:er g v x) (r:Rel c (jM fr) [] σ ⟨s',g,H⟩) (q:Q x H)
inductive ExC (c:Cx) (fr:ah Env) (σ:Sx) (X:PX) (e:av) (s':aF):Prop
 |mk (ea:ax) (a0:av) (D:Cn) (τ:Sx) (he:e=.ref ea) (t:Th c (jM fr) σ τ s') (f:Heap.FlyingW τ.s.heap fr ea (.ref (c.T.cA D)) a0 s'.heap) (x:X D τ.H)
structure Yk (A:bF) (n:Nat):Prop where
 depth:A.depth+6*n<=900
 units:A.units+60*n+60<=cLine
structure WK (A:bF) (n:Nat):Prop where
 depth:A.depth+6*n<=903
 units:A.units+60*n+40<=cLine
theorem Yk.call {A:bF}{n:Nat} (h:Yk A n):WK A n:=⟨aK h.depth (by decide),aK (dW (by decide) _) h.units⟩
theorem Yk.u {A:bF}{n:Nat} (hb:Yk A n):A.units+6 < cLine:=ma (Nat.add_lt_add_of_le_of_lt (ft _ _) (by decide)) hb.units
def Back (Q:av->aF->Prop) (E:av->aF->Prop) (r:fp) (s':aF):Prop:=match r with
 |.ok f=>match f with
  |.ret v=>Q v s'
  |.next=>False
  |.brk=>False
  |.cont=>False
 |.error e=>E e s'
structure Ca (A:bF) (fr:ah Env):Prop where
 hd:A.handled=au
 gd:A.guards=aa []
 frames:A.frames=aa fr
 top:∃ f l,fr=f::l/\∃ a,f.frame=aa a
structure Fm (c:Cx) (fr:ah Env) (σ:Sx):Prop where
 ff:σ.s.heap.FunFrames c.az fr
 ffn:∀ b∈jM fr,σ.Off b
def sL (c:Cx) (n:Nat) (C:CC):Prop:=∀ f vs σ Q X,C f vs σ.H Q X->∀ (A:bF) (fr:ah Env) (us:ah av),WK A n->Ca A fr->Rep c σ->Fm c fr σ->
 dG (er σ.g) us vs->iJ (model c.prog c.w) A (.call (.ref (c.T.fA f)) ⟨us,[]⟩) (Back (OkC c fr σ Q) (ExC c fr σ X)) σ.s
structure Kx where
 c:Cx
 K:cW
 D:Gd c K
 A:bF
 env:Env
 fr:ah Env
 C:CC
 n:Nat
 own:ah ax
 st:Sx
 hC:sL c n C
 hb:Yk A n
 ca:Ca A fr
 sub:∀ a∈own,a∈ownOf env
 kind:env.scope.kind=.function
 gl:env.globals=mainGlobals
 bl:env.builtins=builtinsNs
 ob:∀ b∈ownOf env,c.az.get? b=au
 apart:∀ n n' a,(n,a)∈env.cells->(n',a)∈env.cells->n=n'
 lc:∀ n a,(n,a)∈env.cells->a≠env.locals
 co:∀ n,env.kindOf n=aa .cell∨env.kindOf n=aa .free->∃ a,env.cells.lookup n=aa a
 ef:∀ f l,fr=f::l->env.frame=f.frame
noncomputable abbrev Kx.M (k:Kx):eD:=model k.c.prog k.c.w
noncomputable abbrev Kx.frs (k:Kx):ah ax:=jM k.fr
noncomputable abbrev Kx.sc (k:Kx):b9:=k.env.scope
structure At (k:Kx) (L:bZ) (σ:Sx):Prop where
 rel:Rel k.c k.frs k.own k.st σ
 fm:Fm k.c k.fr σ
 loc:∀ x v,L x=aa v->∃ u,er σ.g u v/\BU k.env σ.s.heap (dQ x) u
 own:∀ b∈ownOf k.env,σ.Off b
 ns:∃ m,σ.s.heap.Ns k.env.locals m
 cl:∀ n a,(n,a)∈k.env.cells->∃ v,σ.s.heap.IsCell a v
theorem Al {h h':bB}{a:ax}{m:Str->aC av} (hn:h.Ns a m) (k:∀ o,h.get? a=aa o->∃ sl,h'.get? a=aa {o with slots:=sl}):h'.Ns a m:=
 have⟨o,es,ep,ho,hd,r⟩:=hn
 have⟨_,e⟩:=k o ho
 ⟨_,es,ep,e,hd,r⟩
theorem uE {h h':bB}{a:ax}{v:aC av} (hn:h.IsCell a v) (k:∀ o,h.get? a=aa o->∃ sl,h'.get? a=aa {o with slots:=sl}):h'.IsCell a v:=
 have⟨o,ho,hd⟩:=hn
 have⟨_,e⟩:=k o ho
 ⟨_,e,hd⟩
theorem jK {env:Env}{n:Str}{a:ax} (h:(n,a)∈env.cells):a∈ownOf env:=.tail _ (l9.mpr ⟨_,h,rfl⟩)
theorem BU.step {env:Env}{h h':bB}{n:Str}{u:av} (x:BU env h n u) (k:∀ b∈ownOf env,∀ o,h.get? b=aa o->∃ sl,h'.get? b=aa {o with slots:=sl}):BU env h' n u:=match x with
 |.loc a m hn e=>.loc a m (Al hn (k _ (.head _))) e
 |.cell a cc e hc=>.cell a cc e (uE hc (k _ (jK (mem_of_lookup e))))
theorem vC {f:Env}{l:ah Env}{La:ax} (hf:f.frame=aa La):jM (f::l)=La::jM l:=NC hf
theorem ny {az h h':bB}:∀ {l:ah Env},h.FunFrames az l->(∀ b∈jM l,∀ o,h.get? b=aa o->∃ sl,h'.get? b=aa {o with slots:=sl})->h'.FunFrames az l
 |[],_,_=>trivial
 |env::r,⟨a,⟨L,o,hf,hn,ho,hd⟩,b⟩,k=>
  have hm:=vC (l:=r) hf
  have⟨sl,e⟩:=k L (hm▸.head _) o ho
  ⟨a,⟨L,_,hf,hn,e,hd⟩,ny b fun b hb o e=>k b (hm▸.tail _ hb) o e⟩
theorem Fm.step {c:Cx}{fr:ah Env}{σ τ:Sx} (f:Fm c fr σ) (k:∀ b∈jM fr,∀ o,σ.get b=aa o->∃ sl,τ.get b=aa {o with slots:=sl}) (nf:∀ b∈jM fr,∀ o,σ.get b=aa o->τ.Off b):Fm c fr τ:=
 ⟨ny f.ff k,fun b hb=>have⟨_,o,e,_⟩:=f.ff.mem hb;nf b hb o e⟩
section
variable {k:Kx}{L:bZ}{σ τ:Sx}
theorem At.rep (z:At k L σ):Rep k.c σ:=z.rel.rep
theorem At.there (z:At k L σ):∀ b∈ownOf k.env,∃ o,σ.get b=aa o:=fun b hb=>(dS.mp hb).elim (fun e=>have⟨m,o,es,ep,ho,_⟩:=z.ns;⟨o,e▸ho⟩) fun hb=>
 have⟨⟨n,a⟩,hm,e⟩:=l9.mp hb
 have⟨v,o,ho,_⟩:=z.cl n a hm
 ⟨o,(show a=b from e)▸ho⟩
theorem At.move (z:At k L σ) (rel:Rel k.c k.frs k.own k.st τ) (le:σ.g.le τ.g) (kp:∀ b,b∈k.frs∨b∈ownOf k.env->σ.Off b->∀ o,σ.get b=aa o->(∃ sl,τ.get b=aa {o with slots:=sl})/\τ.Off b):At k L τ where
 rel:=rel
 fm:=z.fm.step (fun b hb o e=>(kp b (.inl hb) (z.fm.ffn b hb) o e).1) fun b hb o e=>(kp b (.inl hb) (z.fm.ffn b hb) o e).2
 loc x v e:=have⟨u,a,w⟩:=z.loc x v e;⟨u,a.le le,w.step fun b hb o e=>(kp b (.inr hb) (z.own b hb) o e).1⟩
 own b hb:=have⟨o,e⟩:=z.there b hb;(kp b (.inr hb) (z.own b hb) o e).2
 ns:=have⟨m,hn⟩:=z.ns;⟨m,Al hn fun o e=>(kp _ (.inr (.head _)) (z.own _ (.head _)) o e).1⟩
 cl n a e:=have⟨v,h⟩:=z.cl n a e;⟨v,uE h fun o e'=>(kp _ (.inr (jK e)) (z.own _ (jK e)) o e').1⟩
theorem At.step (z:At k L σ) (r:Rel k.c k.frs [] σ τ):At k L τ:=
 z.move (z.rel.trans r.wide fun b hb=>have⟨o,e⟩:=z.there b (k.sub b hb);r.off b o e (z.own b (k.sub b hb))) r.le fun b _ f o e=>⟨(r.keep b o e f nofun).slots,r.off b o e f⟩
theorem At.zp (z:At k L σ){a:ax} (h:σ.get a=au):a∉ownOf k.env:=fun m=>(z.there a m).elim fun _=>bP h
theorem At.ML (z:At k L σ){a:ax} (h:σ.get a=au):a∉k.frs:=fun m=>have⟨_,o,e,_⟩:=z.fm.ff.mem m;bP h e
structure Kx.Jm (k:Kx) (a:ax):Prop where
 st:∀ o,k.st.get a=aa o->¬ k.st.Off a
 az:k.c.az.get? a=au
 no:∀ b,b∈k.frs∨b∈ownOf k.env->b≠a
theorem At.new (z:At k L σ){a:ax} (h:σ.get a=au):k.Jm a where
 st o e f:=(z.rel.keep a o e f fun m=>z.zp h (k.sub a m)).slots.elim fun _=>bP h
 az:=z.rep.az h
 no b m e:=m.elim (fun m=>z.ML h (e▸m)) fun m=>z.zp h (e▸m)
theorem Kx.Jm.turn {a:ax} (n:k.Jm a) (w:At k L τ) (nf:τ.Off a){h':bB}{tk:Nat} (hs:∀ b o,b≠a->τ.get b=aa o->h'.get? b=aa o):At k L (τ.up h' tk):=
 w.move ⟨w.rel.le,w.rel.rep.keeps (fun b o e f=>hs b o (fun q=>f (q▸nf)) e) fun b o e=>hs b o (fun q=>bP n.az (q▸e)) (w.rel.rep.stays b o e),fun b o e f nb=>(w.rel.keep b o e f nb).trans fun o' e'=>.refl (hs b o' (fun q=>n.st o (q▸e) (q▸f)) e'),fun b o e f=>have v:=w.rel.off b o e f;⟨v.z,v.h,v.d⟩,w.rel.gens,w.rel.drawn,w.rel.os⟩
  (.refl _) fun b m f o e=>⟨⟨o.slots,hs b o (n.no b m) e⟩,f.z,f.h,f.d⟩
theorem Kx.Jm.adopt {a:ax} (n:k.Jm a) (w:At k L τ) (nf:τ.Off a){h':bB}{tk:Nat}{o:Mo} (hs:∀ b,b≠a->h'.get? b=τ.get b) (m:Ut k.c ⟨(τ.up h' tk).s,τ.g,τ.H.set a o⟩ a o):At k L ⟨(τ.up h' tk).s,τ.g,τ.H.set a o⟩:=by
 refine w.move (Rel.put w.rel n.st w.rel.Oj ⟨nf.z,nf.d,n.az,fun b o n _ e=>(hs b n).trans e,fun b q=>(w.rep.Jj b a q).elim fun x e=>⟨x,(hs b fun q'=>nf.d _ (q'▸q)).trans e⟩⟩ m) (.refl _) fun b m f x e=>?_
 have n:=n.no b m
 exact⟨⟨x.slots,(hs b n).trans e⟩,f.z,(Hp.zQ o n).trans f.h,f.d⟩
theorem At.tok (z:At k L σ){tk:Nat}:At k L (σ.up σ.s.heap tk):=z.step (.tok z.rep)
theorem At.grow (z:At k L σ){h':bB}{tk:Nat} (g:∀ b o,σ.get b=aa o->h'.get? b=aa o):At k L (σ.up h' tk):=z.step (.grow z.rep g)
theorem At.ab4 (z:At k L σ){L':bZ} (h:∀ x v,L' x=aa v->L x=aa v):At k L' σ:={z with loc:=fun x v e=>z.loc x v (h x v e)}
theorem At.here (z:At k L σ):k.K.In σ.s.heap:=k.D.inb.keeps z.rep.stays
end
inductive aao (k:Kx) (X:fj) (e:av) (s':aF):Prop
 |mk (L:bZ) (σ τ:Sx) (D:Cn) (ea:ax) (a0:av) (La:ax) (he:e=.ref ea) (hf:k.env.frame=aa La) (z:At k L σ) (t:Th k.c k.frs σ τ s') (f:Heap.HeldW τ.s.heap k.fr ea (.ref (k.c.T.cA D)) a0 La s'.heap) (x:X D L τ.H)
inductive Jo (k:Kx) (rz:aj) (X:fj) (e:av) (s':aF):Prop
 |Zo (L:bZ) (σ:Sx) (z:At k L σ) (f:ExC k.c k.fr σ (lZ X L) e s')
 |held (h:aao k X e s')
 |made (L:bZ) (σ:Sx) (D:Cn) (ea:ax) (vs:ah av) (hr:rz=ag) (he:e=.ref ea) (z:At k L σ) (m:Heap.MadeExcOf σ.s.heap s'.heap ea (.ref (k.c.T.cA D)) vs)
  (gens:s'.gens=σ.s.gens) (drawn:s'.drawn=σ.s.drawn) (os:s'.os=σ.s.os) (x:X D L σ.H)
inductive fM (Q:Sx->Prop) (s:aF):Prop
 |mk (g:Gh) (H:Hp) (q:Q ⟨s,g,H⟩)
def W (k:Kx) (rz:aj){α:Type} (t:Sem α) (Q:α->Sx->Prop) (X:fj) (σ:Sx):Prop:=ia k.M k.A t (fun a s'=>fM (Q a) s') (Jo k rz X) σ.s
namespace W
variable {k:Kx}{rz:aj}{α β:Type}{X:fj}{σ:Sx}{P:α->Sx->Prop}{Q:β->Sx->Prop}{m:Sem α}{f:α->Sem β}
theorem bind (h:W k rz m P X σ) (K:∀ a τ,P a τ->W k rz (f a) Q X τ):W k rz (m>>=f) Q X σ:=I.bind (I.bT h (fun a s' ⟨g,H,p⟩=>K a ⟨s',g,H⟩ p) fun _ _ z=>z)
theorem bT {P':α->Sx->Prop} (h:W k rz m P X σ) (K:∀ a τ,P a τ->P' a τ):W k rz m P' X σ:=I.bT h (fun a s' ⟨g,H,p⟩=>⟨g,H,K a _ p⟩) fun _ _ z=>z
theorem pure {a:α} (h:P a σ):W k rz (Pure.pure a) P X σ:=I.pure ⟨σ.g,σ.H,h⟩
theorem any (h:aO k.M k.A m (fun a s'=>fM (P a) s') (Jo k rz X) σ.s):W k rz m P X σ:=I.any h
theorem leaf (h:aO k.M k.A m (fun a s'=>fM (fun τ=>W k rz (f a) Q X τ) s') (Jo k rz X) σ.s):W k rz (m>>=f) Q X σ:=bind (any h) fun _ _ h=>h
theorem aeM (h:ia k.M k.A m (fun a s'=>fM (fun τ=>W k rz (f a) Q X τ) s') (Jo k rz X) σ.s):W k rz (m>>=f) Q X σ:=bind (P:=fun a τ=>W k rz (f a) Q X τ) h fun _ _ h=>h
theorem cY {pos:Pos}{f:cR->Sem β} (h:W k rz (f ()) Q X σ):W k rz (PySem.standAt pos>>=f) Q X σ:=I.cY h
theorem holding {vs:ah av} (h:W k rz m P X σ):W k rz (PySem.holding vs m) P X σ:=I.holding h
theorem operate {vs:ah av}{m:Sem av}{P:av->Sx->Prop} (h:W k rz m P X σ):W k rz (PySem.operate vs m) P X σ:=I.operate h
theorem point {P:cR->Sx->Prop} (h:P () σ):W k rz PySem.point P X σ:=I.point ⟨σ.g,σ.H,h⟩
theorem release {vs keep:ah av}{P:cR->Sx->Prop} (h:P () σ):W k rz (PySem.release vs keep) P X σ:=I.release ⟨σ.g,σ.H,h⟩
end W
inductive Ok (k:Kx) (L:bZ) (σ:Sx) (Q:PV) (v:av) (τ:Sx):Prop
 |mk (x:V) (e:er τ.g v x) (l:σ.g.le τ.g) (z:At k L τ) (q:Q x τ.H)
inductive Oks (k:Kx) (L:bZ) (σ:Sx) (Q:ah V->Hp->Prop) (v:ah av) (τ:Sx):Prop
 |mk (x:ah V) (e:dG (er τ.g) v x) (l:σ.g.le τ.g) (z:At k L τ) (q:Q x τ.H)
inductive WD (k:Kx) (L:bZ) (σ:Sx) (Q:aj->Hp->Prop) (b:aj) (τ:Sx):Prop
 |mk (l:σ.g.le τ.g) (z:At k L τ) (q:Q b τ.H)
inductive Oku (k:Kx) (L:bZ) (σ:Sx) (Q:Hp->Prop) (u:cR) (τ:Sx):Prop
 |mk (l:σ.g.le τ.g) (z:At k L τ) (q:Q τ.H)
section
variable {k:Kx}{L:bZ}{σ τ:Sx}{Q:PV}{v:av}{x:V}
theorem Ok.from (l:σ.g.le τ.g){ρ:Sx}:Ok k L τ Q v ρ->Ok k L σ Q v ρ
 |.mk x e l' z q=>.mk x e (l.trans l') z q
theorem At.now (z:At k L σ) (e:er σ.g v x) (q:Q x σ.H):Ok k L σ Q v σ:=.mk x e (.refl _) z q
theorem At.ok (z:At k L σ) (r:Rel k.c k.frs [] σ τ) (e:er τ.g v x) (q:Q x τ.H):Ok k L σ Q v τ:=.mk x e r.le (z.step r) q
theorem At.okN (z:At k L σ) (e:er σ.g v x) (q:Q x σ.H):fM (Ok k L σ Q v) σ.s:=⟨σ.g,σ.H,z.now e q⟩
theorem At.Pj (z:At k L σ){tk:Nat} (e:er σ.g v x) (q:Q x σ.H):fM (Ok k L σ Q v) {σ.s with toks:=tk}:=⟨σ.g,σ.H,z.ok (.tok z.rep) e q⟩
theorem At.okG (z:At k L σ){h':bB}{tk:Nat} (g:∀ b o,σ.get b=aa o->h'.get? b=aa o) (e:er σ.g v x) (q:Q x σ.H):fM (Ok k L σ Q v) {σ.s with heap:=h',toks:=tk}:=⟨σ.g,σ.H,z.ok (.grow z.rep g) e q⟩
theorem At.abc (z:At k L σ){P:aj->Hp->Prop}{b:aj} (q:P b σ.H):fM (WD k L σ P b) σ.s:=⟨σ.g,σ.H,.mk (.refl _) z q⟩
theorem At.adD (z:At k L σ){P:aj->Hp->Prop}{b:aj}{tk:Nat} (q:P b σ.H):fM (WD k L σ P b) {σ.s with toks:=tk}:=⟨σ.g,σ.H,.mk (.refl _) z.tok q⟩
end
theorem di (h:bB):h.get? h.objs.size=au:=lj fun _ e=>absurd (qw e) (sD _)
theorem Cb:sizeLine=line:=by rw[l8];rfl
section
variable {c:Cx}{frs own:ah ax}{σ τ:Sx}
theorem Rel.JL (r:Rel c frs own σ τ){s':aF}{a:ax}{x:V} (no:∀ o,σ.get a=aa o->¬ σ.Off a) (z:τ.g.Z a=au) (d:∀ b,τ.g.D a≠aa b) (k:∀ b o,τ.get b=aa o->s'.heap.get? b=aa o)
  (m:Wg c ⟨s',τ.g.yw a x,τ.H.drop a⟩ a x) (gens:s'.gens=τ.s.gens) (drawn:s'.drawn=τ.s.drawn) (os:s'.os=τ.s.os):Rel c frs own σ ⟨s',τ.g.yw a x,τ.H.drop a⟩ where
 le:=r.le.trans (Gh.ll z)
 rep:=r.rep.JL z d k m
 keep b x e f nb:=(r.keep b x e f nb).trans fun x' e'=>.refl (k b x' e')
 off b x e f:=have w:=r.off b x e f;have n:b≠a:=fun q=>no x (q▸e) (q▸f);⟨(Gh.sR n).trans w.z,(Hp.zz n).trans w.h,w.d⟩
 gens:=gens.trans r.gens
 drawn:=drawn.trans r.drawn
 os:=os.trans r.os
end
section
variable {k:Kx}{rz:aj}{X:fj}{L:bZ}{σ:Sx}{Q:PV}{v w:av}{x y:V}{xs:ah V}{A:bF}
theorem At.abh (z:At k L σ){o:Obj}{x:V} (hf:o.isFreed=ao) (e:er (σ.g.yw σ.s.heap.objs.size x) (.ref σ.s.heap.objs.size) x) (m:∀ τ:Sx,σ.g.le τ.g->τ.get σ.s.heap.objs.size=aa o->Wg k.c τ σ.s.heap.objs.size x) (q:Q x σ.H):
  fM (Ok k L σ Q (.ref σ.s.heap.objs.size)) {σ.s with heap:=σ.s.heap.push o}:=
 have F:=z.rep.fresh (di σ.s.heap)
 ⟨_,_,z.ok (Rel.JL (s':={σ.s with heap:=σ.s.heap.push o}) (.refl z.rep) (fun _ e=>bP (di _) e) F.z F.d (fun _ _ h=>jN _ h) (m _ (Gh.ll F.z) (jg _ hf)) rfl rfl rfl) e ((ux F.h).symm▸q)⟩
theorem RA {g:Gh}{a:ax}{xs:ah V}:er (g.yw a (.bE xs)) (.ref a) (.bE xs):=.mk a rfl (a8 rfl)
theorem At.abj (z:At k L σ){fz:aj}{a:ax}{h':bB}{tk n:Nat}{vs:bS av} (na:σ.get a=au) (g:∀ b o,σ.get b=aa o->h'.get? b=aa o) (e:h'.get? a=aa ⟨.type "list",au,.seq vs n,#[]⟩) (r:dG (er σ.g) vs.toList xs) (h:Mine.mk fz xs σ.H Q):
  fM (Ok k L σ Q (.ref a)) {σ.s with heap:=h',toks:=tk}:=
 have F:=z.rep.fresh na
 have no:∀ o,σ.get a=aa o->¬ σ.Off a:=fun _ e=>bP na e
 match fz,h with
 |true,h=>⟨_,_,z.ok (Rel.JL (s':={σ.s with heap:=h',toks:=tk}) (x:=.bE xs) (.refl z.rep) no F.z F.d g (.mk vs n e (r.bT fun _ _ e=>e.le (Gh.ll F.z))) rfl rfl rfl) RA ((ux F.h).symm▸h.2)⟩
 |false,h=>⟨_,_,z.ok (x:=.ref _) (Rel.put (h':=h') (tk:=tk) (o:=.bE xs) (.refl z.rep) no (Rel.Oj (frs:=k.frs) (own:=[]) (.refl z.rep)) ⟨F.z,F.d,z.rep.az na,fun b o _ _=>g b o,fun b q=>(z.rep.Jj b _ q).elim fun o e=>⟨o,g b o e⟩⟩ (.mk vs n e r)) rfl (h.2 _ F.h)⟩
theorem At.QV (z:At k L σ){fz:aj}{vs:bS av} (r:dG (er σ.g) vs.toList xs) (h:Mine.mk fz xs σ.H Q):fM (Ok k L σ Q (.ref σ.s.heap.objs.size)) {σ.s with heap:=σ.s.heap.push {cls:=.type "list",data:=.seq vs 0}}:=
 z.abj (tk:=σ.s.toks) (di _) (fun _ _ h=>jN _ h) (jg _ rfl) r h
@[elab_as_elim] theorem gI {g:Gh}{G:av->Prop}{p:Int->Prop} (e:er g v x) (h:Got (kq x) p) (K:∀ i t,p i->G (.int i t)):G v:=by
 obtain⟨i,h,q⟩:=h
 cases x with
 |int=>(injection h with h;cases h);obtain⟨t,rfl⟩:=e;exact K _ t q
 |_=>contradiction
@[elab_as_elim] theorem gB {g:Gh}{G:av->Prop}{p:ah aA->Prop} (e:er g v x) (h:Got (I0 x) p) (K:∀ i t,p i->G (.bytes i.toArray t)):G v:=by
 obtain⟨i,h,q⟩:=h
 cases x with
 |bytes=>(injection h with h;cases h);obtain⟨t,rfl⟩:=e;exact K _ t q
 |_=>contradiction
@[elab_as_elim] theorem gS {g:Gh}{G:av->Prop}{p:Str->Prop} (e:er g v x) (h:Got (XE x) p) (K:∀ i t,p i->G (.str i t)):G v:=by
 obtain⟨i,h,q⟩:=h
 cases x with
 |str=>(injection h with h;cases h);obtain⟨t,rfl⟩:=e;exact K _ t q
 |_=>contradiction
@[elab_as_elim] theorem g2 {g:Gh}{G:av->av->Prop}{p:Int->Int->Prop} (e:er g v x) (f:er g w y) (h:oY x y p) (K:∀ i t j u,p i j->G (.int i t) (.int j u)):G v w:=gI (G:=(G · w)) e h fun i t h=>gI f h fun j u h=>K i t j u h
theorem Q1 {H:Hp}{a:ax} (h:(H a).bind Mo.tj=aa xs):H a=aa (.bE xs):=by
 cases e:H a with
 |none=>rw[e] at h;contradiction
 |some o=>rw[e] at h;cases o with
  |bE=>cases h;rfl
  |_=>contradiction
theorem Rep.bE (R:Rep k.c σ){a:ax} (h:(σ.H a).bind Mo.tj=aa xs):SeqAt σ a "list" xs:=R.yB a _ (Q1 h)
@[elab_as_elim] theorem At.gL (z:At k L σ){G:av->Prop}{p:ah V->Prop} (e:er σ.g v x) (h:Got (listOf σ.H x) p) (K:∀ a xs,SeqAt σ a "list" xs->p xs->G (.ref a)):G v:=by
 obtain⟨xs,h,q⟩:=h
 cases x with
 |bE=>(injection h with h;cases h);obtain⟨a,rfl,h⟩:=e;exact K a xs (z.rep.yr _ _ h) q
 |ref a=>cases(show v=.ref a from e);exact K a xs (z.rep.bE h) q
 |_=>contradiction
theorem SeqAt.list {a:ax} (h:SeqAt σ a "list" xs):∃ vs,σ.s.heap.IsList a vs/\dG (er σ.g) vs.toList xs:=match h with
 |.mk vs n e r=>⟨vs,⟨_,e,rfl,n,rfl⟩,r⟩
theorem SeqAt.tuple {a:ax} (h:SeqAt σ a "tuple" xs):∃ vs,σ.s.heap.IsTuple a vs/\dG (er σ.g) vs.toList xs:=match h with
 |.mk vs n e r=>⟨vs,⟨_,e,rfl,n,rfl⟩,r⟩
theorem SeqAt.typeIs {a:ax}{cl:b_} (h:SeqAt σ a cl xs):σ.s.TypeIs (.ref a) cl:=match h with
 |.mk _ _ e _=>⟨_,e,rfl⟩
theorem uj {i:Int} (h:small i):Builtin.Int.intBits i<=200:=intBits_le_iff.mpr h
theorem uG (x:Int):Builtin.bitNot (Builtin.bitNot x)=x:=by simp only[Builtin.bitNot];exact lT [x] 0 [] rL 0x12120087875 aQ
theorem Bd {x:Int} (hx:0<=x):decide (0<=Builtin.bitNot x)=ao:=dU (by simp only[Builtin.bitNot];exact gh [x] 0 [] mD 0x1200870236 35 hx aQ)
theorem vV {i j:Int} (h:0<=i) (k:0<=j):Builtin.bitOr i j=Int.ofNat (i.toNat |||j.toNat):=by
 unfold Builtin.bitOr Builtin.bitAnd
 rw[Bd h,Bd k]
 show Builtin.bitNot (Builtin.bitNot _)=_
 rw[uG,uG,uG];rfl
theorem Cs {i j:Int} (h:0<=i) (k:0<=j):Builtin.bitAnd i j=Int.ofNat (i.toNat&&& j.toNat):=by
 unfold Builtin.bitAnd
 rw[c9 h,c9 k];rfl
theorem JG {i j:Int} (h:0<=i):i*2 ^ j.toNat=Int.ofNat (i.toNat <<< j.toNat):=by
 obtain⟨n,rfl⟩:=X3 h
 rw[TG]
 simp
theorem zP {i j:Int} (h:0<=i):i.fdiv (2 ^ j.toNat)=Int.ofNat (i.toNat >>> j.toNat):=by
 obtain⟨n,rfl⟩:=X3 h
 have p:(2:Int) ^ j.toNat=((2 ^ j.toNat:Nat):Int):=by simp
 rw[p,acp _ (gw _),DU]
 simp
theorem f_ {n:Nat} (h:n<=line):n<=sizeLine:=Cb▸h
theorem At.HD (z:At k L σ){i j:Int}{tk t:Nat} (e:i=j) (q:Q (.int j) σ.H):fM (Ok k L σ Q (.int i t)) {σ.s with toks:=tk}:=z.Pj (x:=.int j) ⟨t,aW (Value.int · t) e⟩ q
theorem At.okB (z:At k L σ){i:bS aA}{j:ah aA}{tk t:Nat} (e:i=j.toArray) (q:Q (.bytes j) σ.H):fM (Ok k L σ Q (.bytes i t)) {σ.s with toks:=tk}:=z.Pj (x:=.bytes j) ⟨t,aW (Value.bytes · t) e⟩ q
theorem At.acD (z:At k L σ){x y:V} (ex:er σ.g v x) (ey:er σ.g w y) (h:yq σ.H x y fun zs=>Q (.bE zs) σ.H):W k rz (binaryOp .Add v w) (Ok k L σ Q) X σ:=by
 obtain⟨xs,ys,h1,h2,h3,h4⟩:=h
 refine z.gL (p:=fun zs=>zs=xs) ex ⟨_,h1,rfl⟩ fun a _ hx e=>?_
 subst e
 refine z.gL (p:=fun zs=>zs=ys) ey ⟨_,h2,rfl⟩ fun b _ hy e=>?_
 subst e
 obtain⟨vs,n,e1,r1⟩:=hx
 obtain⟨ws,m,e2,r2⟩:=hy
 exact W.any (PySem.P.add_list e1 e2 (z.QV (fz:=true) (by rw[Array.toList_append];exact r1.append r2) ⟨by rw[bN];exact h3,h4⟩) (f_ (show vs.toList.length+ws.toList.length<=line from r1.length▸r2.length▸h3)))
theorem At.R5 (z:At k L σ){op:Bo} (ex:er σ.g v x) (ey:er σ.g w y) (h:binOp op x y σ.H Q):W k rz (binaryOp op.op v w) (Ok k L σ Q) X σ:=by
 cases op with
 |add=>
  cases x with
  |int i=>obtain⟨t,rfl⟩:=ex;exact gI ey h fun j u q=>W.any (PySem.P.add_int (z.HD rfl q))
  |bytes b=>obtain⟨t,rfl⟩:=ex;exact gB ey h fun c u q=>W.any (KBy.add_bytes (aK q.1 (by decide)) fun t' k=>z.okB (T_ b c) q.2)
  |str a=>
   obtain⟨t,rfl⟩:=ex
   refine gS ey h fun b u q=>W.any (PySem.P.add_str ?_)
   split
   ·exact z.okN (x:=.str b) ⟨u,rfl⟩ (q.2 b (j_ _ _))
   ·split
    ·exact z.okN (x:=.str a) ⟨t,rfl⟩ (q.2 a (ft _ _))
    ·have e:=L5 a b
     exact⟨aK (gY e) (aK q.1 (by rw[l8];decide)),z.Pj (x:=.str _) ⟨_,rfl⟩ (q.2 _ (gY e))⟩
  |bE=>exact z.acD ex ey h
  |ref=>exact z.acD ex ey h
  |_=>exact h.elim
 |sub=>exact g2 ex ey h fun i t j u q=>W.any (PySem.P.sub_int (z.HD rfl q))
 |mul=>
  cases x with
  |int i=>obtain⟨t,rfl⟩:=ex;exact gI ey h fun j u q=>W.any (PySem.P.mul_int (z.HD rfl q.2.2) (IntMulOk.of_le (uj q.1) (uj q.2.1) (by decide)))
  |bytes b=>obtain⟨t,rfl⟩:=ex;exact gI ey h fun j u ⟨h1,h2,h3,h4,q⟩=>W.any (bytes_mul_any h3 (by lia) (by lia) h4 fun t' k=>z.okB rfl q)
  |_=>exact h.elim
 |fdiv=>exact g2 ex ey h fun i t j u ⟨h1,h2,q⟩=>W.any (acC (SH h1) (z.HD (acp _ (xf h1)) q) (.inl (PyProof.noPylong_small (by lia))))
 |mod=>exact g2 ex ey h fun i t j u ⟨h1,q⟩=>W.any (aco (SH h1) (z.HD (Int.fmod_eq_emod_of_nonneg _ (xf h1)) q))
 |band=>exact g2 ex ey h fun i t j u ⟨h1,h2,q⟩=>W.any (Z1 (z.HD (Cs h1 h2) q))
 |bor=>exact g2 ex ey h fun i t j u ⟨h1,h2,q⟩=>W.any (ZY (z.HD (vV h1 h2) q))
 |shl=>exact g2 ex ey h fun i t j u ⟨h0,h1,h2,h3,q⟩=>W.any (acx h2 (by have:=uj h1;lia) (z.HD (JG h0) q))
 |shr=>exact g2 ex ey h fun i t j u ⟨h0,h1,h2,q⟩=>W.any (acw h1 (z.HD (zP h0) q))
 |bxor=>exact h.elim
end
theorem C_ {f:V->V->aC aj} (hf:∀ x c,f x x=aa c->c=ag):∀ (xs:ah V){b:aj},oR f xs xs=aa b->b=ag
 |[],b,h=>(eH h).symm
 |x::xs,b,h=>by
  replace h:((f x x).bind fun a=>(oR f xs xs).map (a&& ·))=aa b:=h
  cases e:f x x with
  |none=>rw[e] at h;contradiction
  |some a=>
   cases e2:oR f xs xs with
   |none=>rw[e,e2] at h;contradiction
   |some d=>rw[e,e2] at h;(injection h with h;subst h);rw[hf x a e,C_ hf xs e2];rfl
theorem Hl:∀ (n:Nat) (x:V){b:aj},tI n x x=aa b->b=ag
 | 0,x,b,h=>by contradiction
 |n+1,x,b,h=>by
  have d:∀ {p:Prop} [cN p],p->aa (decide p)=aa b->b=ag:=fun hp h=>by rw[c9 hp] at h;exact(eH h).symm
  have l:∀ {xs:ah V}{o:aC aj},(if xs.length=xs.length then oR (tI n) xs xs else o)=aa b->b=ag:=fun{xs o} h=>C_ (fun x c=>Hl n x) xs ((a8 rfl).symm.trans h)
  cases x with
  |none=>exact(eH h).symm
  |int i=>exact d rfl h
  |bool i=>exact d rfl h
  |bytes i=>exact d rfl h
  |tup=>exact l h
  |bE=>exact l h
  |_=>contradiction
theorem Hk (f:V->V->aC aj):∀ (xs ys:ah V){b:aj},xs.length=ys.length->oR f xs ys=aa b->
  ∃ e:Nat->aj,(List.range xs.length).all e=b/\∀ (j:Nat) (x y:V),xs[j]? =aa x->ys[j]? =aa y->f x y=aa (e j)
 |[],[],b,_,h=>⟨fun _=>ag,eH h,nofun⟩
 |x::xs,y::ys,b,l,h=>by
  replace h:((f x y).bind fun a=>(oR f xs ys).map (a&& ·))=aa b:=h
  cases e:f x y with
  |none=>rw[e] at h;contradiction
  |some a=>
   cases e2:oR f xs ys with
   |none=>rw[e,e2] at h;contradiction
   |some d=>
    rw[e,e2] at h;cases h
    obtain⟨e',h2,h3⟩:=Hk f xs ys (xd l) e2
    refine⟨fun j=>Nat.casesOn j a e',?_,fun j x' y' hx hy=>?_⟩
    ·rw[<- h2,jf,XW,LO,LF];rfl
    ·cases j with
     |zero=>(injection hx with hx;subst hx);(injection hy with hy;subst hy);exact e
     |succ j=>exact h3 j x' y' hx hy
 |[],_::_,_,l,_=>by contradiction
 |_::_,[],_,l,_=>by contradiction
theorem in1_units (A:bF):A.in1.units=A.units+1:=rfl
theorem DR {vs:bS av}{j:Nat} (h:j < vs.size):vs.toList[j]? =aa vs[j]:=by
 rw[BA];exact Array.getElem?_eq_getElem h
theorem fC {α:Type}{R:av->α->Prop}{vs:bS av}{xs:ah α} (r:dG R vs.toList xs):vs.size=xs.length:=r.length
theorem Bb (i j:ah aA):(i.toArray.toList==j.toArray.toList)=decide (i=j):=Gk.mpr (uM.trans L7.symm)
section
variable {c:Cx}{A:bF}{σ:Sx}{g:Gh}
structure Cm (A:bF) (s:aF) (v w:av) (b:aj):Prop where
 eq:(∀ a,v=.ref a->w=.ref a->b=ag)->PySem.SeqAt.EqAt A s v w b
 rc:PySem.SeqAt.RcAt A s v w b
 ne:PySem.SeqAt.RcNeAt A s v w (!b)
theorem Cm.refs {s:aF}{a a':ax}{b:aj} (rc:PySem.SeqAt.RcAt A s (.ref a) (.ref a') b) (ne:PySem.SeqAt.RcNeAt A s (.ref a) (.ref a') (!b)):Cm A s (.ref a) (.ref a') b:=
 ⟨fun h=>if e:a=a' then by
  subst e;rw[h a rfl rfl];exact .same _ else .of_refs e rc,rc,ne⟩
theorem Cm.bytes {s:aF}{i j:ah aA}{t u:Tok}:Cm A s (.bytes i.toArray t) (.bytes j.toArray u) (decide (i=j)) where
 eq _:=fun prog w E Q hq=>by
  unfold PySem.eqBool
  refine Ga ?_
  refine wpAny_ite_split (fun Ku=>?_) (fun _=>?_)
  ·have e:i=j:=by have:=eq_of_beq Ku;injection this with h;exact aW Array.toList h
   rw[c9 e] at hq
   exact bf (sm (bW hq))
  ·exact bf (eq_bytes (xu (Bb i j▸hq)))
 rc:=fun prog w E Q hq=>eq_bytes (Bb i j▸hq)
 ne:=fun prog w E Q hq=>ne_bytes (by rw[show(i.toArray.toList != j.toArray.toList)=!(i.toArray.toList==j.toArray.toList) from rfl,Bb];exact hq)
def ek (σ:Sx) (v:av):V->Prop
 |.bE xs=>∃ a,v=.ref a/\SeqAt σ a "list" xs
 |.none=>er σ.g v .none |.bool b=>er σ.g v (.bool b) |.int i=>er σ.g v (.int i) |.str s=>er σ.g v (.str s) |.bytes b=>er σ.g v (.bytes b) |.ref a=>er σ.g v (.ref a) |.tup xs=>er σ.g v (.tup xs) |.obj C fs=>er σ.g v (.obj C fs)
theorem RB (R:Rep c σ){v:av}{x:V} (e:er σ.g v x):ek σ v x:=by
 cases x with
 |bE=>exact match e with |.mk a e h=>⟨a,e,R.yr _ _ h⟩
 |_=>exact e
theorem P8 {a:ax}{x y:V}{n:Nat}{b:aj} (ex:er g (.ref a) x) (ey:er g (.ref a) y) (h:tI n x y=aa b):b=ag:=by
 have k:∀ {x y:V},Jb g x (.ref a)->Jb g y (.ref a)->x=y:=fun⟨_,e1,h1⟩ ⟨_,e2,h2⟩=>by cases e1;cases e2;exact eH (h1.symm.trans h2)
 have t:x=y->b=ag:=fun e=>by subst e;exact Hl n x h
 cases n with
 |zero=>contradiction
 |succ n=>cases x with
  |tup=>cases y with
   |tup=>exact t (k ex ey)
   |none=>contradiction
   |_=>contradiction
  |bE=>cases y with
   |bE=>exact t (k ex ey)
   |_=>contradiction
  |none=>contradiction
  |bool=>contradiction
  |int=>exact nomatch ex
  |bytes=>exact nomatch ex
  |_=>contradiction
theorem Qj (R:Rep c σ):∀ (n:Nat) (x y:V) (b:aj) (A:bF) (v w:av),tI n x y=aa b->A.units+n < cLine->ek σ v x->ek σ w y->Cm A σ.s v w b
 | 0,_,_,_,_,_,_,h,_,_,_=>by contradiction
 |n+1,x,y,b,A,v,w,h,hu,ex,ey=>by
  have Kn:A.units < cLine:=cE (ft _ _) hu
  have hu1:A.in1.units+n < cLine:=by rw[in1_units,dT,nP 1];exact hu
  have items:∀ {xs ys:ah V}{vs ws:bS av},dG (er σ.g) vs.toList xs->dG (er σ.g) ws.toList ys->xs.length=ys.length->oR (tI n) xs ys=aa b->
    ∃ e:Nat->aj,(List.range vs.size).all e=b/\vs.size=ws.size/\∀ j (h1:j < vs.size) (h2:j < ws.size),PySem.SeqAt.EqAt A.in1 σ.s vs[j] ws[j] (e j):=fun{xs ys vs ws} r r' hl h=>by
   obtain⟨e,h1,h2⟩:=Hk _ _ _ hl h
   refine⟨e,by rw[fC r];exact h1,(fC r).trans (hl.trans (fC r').symm),fun j k1 k2=>?_⟩
   obtain⟨x',hx,q1⟩:=r.get' (DR k1)
   obtain⟨y',hy,q2⟩:=r'.get' (DR k2)
   have h3:=h2 j x' y' hx hy
   exact(Qj R n x' y' (e j) A.in1 _ _ h3 hu1 (RB R q1) (RB R q2)).eq fun a e1 e2=>P8 (e1▸q1) (e2▸q2) h3
  cases x with
  |none=>
   cases(show v=.none from ex)
   cases y with
   |none=>cases(show w=.none from ey);(injection h with h;subst h);exact⟨fun _=>.same _,.none_none,.none_none⟩
   |int=>obtain⟨t,rfl⟩:=ey;(injection h with h;subst h);exact⟨fun _=>.none_int _ _,.none_int _ _,.none_int _ _⟩
   |tup=>
    obtain⟨a,rfl,z⟩:=ey;(injection h with h;subst h)
    obtain⟨vs,hv,_⟩:=(R.yr _ _ z:SeqAt _ _ _ _).tuple
    exact⟨fun _=>.none_tuple hv Kn,.none_tuple hv Kn,.none_tuple hv Kn⟩
   |_=>contradiction
  |int i=>
   obtain⟨t,rfl⟩:=ex
   cases y with
   |none=>cases(show w=.none from ey);(injection h with h;subst h);exact⟨fun _=>.int_none _ _,.int_none _ _,.int_none _ _⟩
   |int=>obtain⟨u,rfl⟩:=ey;(injection h with h;subst h);exact⟨fun _=>.int_int _ _ _ _,.int_int _ _ _ _,.int_int _ _ _ _⟩
   |_=>contradiction
  |bool=>
   cases(show v=.bool _ from ex)
   cases y with
   |bool=>cases(show w=.bool _ from ey);(injection h with h;subst h);exact⟨fun _=>.bool_bool _ _,.bool_bool _ _,.bool_bool _ _⟩
   |_=>contradiction
  |bytes=>
   obtain⟨t,rfl⟩:=ex
   cases y with
   |bytes=>obtain⟨u,rfl⟩:=ey;cases h;exact .bytes
   |_=>contradiction
  |tup xs=>
   obtain⟨a,rfl,z1⟩:=ex
   obtain⟨vs,hv,r⟩:=(R.yr _ _ z1:SeqAt _ _ _ _).tuple
   cases y with
   |none=>cases(show w=.none from ey);(injection h with h;subst h);exact⟨fun _=>.tuple_none hv Kn,.tuple_none hv Kn,.tuple_none hv Kn⟩
   |tup ys=>
    obtain⟨a',rfl,z2⟩:=ey
    obtain⟨ws,hw,r'⟩:=(R.yr _ _ z2:SeqAt _ _ _ _).tuple
    refine c7 h (fun hl h=>?_) fun _ h=>by contradiction
    obtain⟨e,h1,h2,he⟩:=items r r' hl h
    have t1:=acv (e:=e) hv hw Kn he
    have t2:=acB (e:=e) hv hw Kn he
    rw[<- h2,Nat.min_self,TF,S9,h1] at t1 t2
    exact .refs t1 t2
   |_=>contradiction
  |bE xs=>
   obtain⟨a,rfl,z1⟩:=ex
   obtain⟨vs,hv,r⟩:=z1.list
   cases y with
   |bE ys=>
    obtain⟨a',rfl,z2⟩:=ey
    obtain⟨ws,hw,r'⟩:=z2.list
    refine c7 h (fun hl h=>?_) fun hl h=>?_
    ·obtain⟨e,h1,h2,he⟩:=items r r' hl h
     have t1:=acq (e:=e) hv hw h2 Kn he
     have t2:=acA (e:=e) hv hw h2 Kn he
     rw[h1] at t1 t2
     exact .refs t1 t2
    ·cases h
     have hn:¬ vs.size=ws.size:=fun q=>hl ((fC r).symm.trans (q.trans (fC r')))
     exact .refs (.lists_lengths hv hw (l7.mpr hn) Kn) (.lists_lengths hv hw (l7.mpr hn) Kn)
   |_=>contradiction
  |_=>contradiction
theorem MJ (R:Rep c σ){v:av}{x:V} (e:er σ.g v x):ek σ v (norm σ.H x):=by
 cases x with
 |ref a=>
  cases(show v=.ref a from e)
  show ek σ _ (((σ.H a).bind Mo.tj).elim _ _)
  cases h:(σ.H a).bind Mo.tj with
  |none=>exact e
  |some xs=>exact⟨a,rfl,R.yB _ _ (Q1 h)⟩
 |_=>exact RB R e
end
section
variable {k:Kx}{rz:aj}{X:fj}{L:bZ}{σ:Sx}{v w:av}{x y:V}{A':bF}{E:av->aF->Prop}
theorem s8 {g:Gh} (h:er g v x):(v==.none)=isNone x:=by
 cases x with
 |none=>subst h;rfl
 |bool=>subst h;rfl
 |ref=>subst h;rfl
 |int=>obtain⟨t,rfl⟩:=h;rfl
 |str=>obtain⟨t,rfl⟩:=h;rfl
 |bytes=>obtain⟨t,rfl⟩:=h;rfl
 |tup=>obtain⟨t,rfl,_⟩:=h;rfl
 |bE=>obtain⟨t,rfl,_⟩:=h;rfl
 |obj=>obtain⟨t,rfl,_⟩:=h;rfl
theorem At.rN (z:At k L σ){Q:aj->Prop}{P:av->aF->Prop}{op:Co} (h:yb op x y σ.H Q) (ex:er σ.g v x) (ey:er σ.g w y)
  (q:∀ b,Q b->P (.bool b) σ.s):aO k.M k.A (compareOp op.op v w) P E σ.s:=by
 have cm:∀ {b},tI 6 (norm σ.H x) (norm σ.H y)=aa b->Cm k.A σ.s v w b:=fun{b} h=>Qj z.rep 6 _ _ _ _ _ _ h k.hb.u (MJ z.rep ex) (MJ z.rep ey)
 cases op with
 |lt=>exact g2 ex ey h fun i t j u h=>lt_int (q _ h)
 |le=>exact g2 ex ey h fun i t j u h=>le_int (q _ h)
 |gt=>exact g2 ex ey h fun i t j u h=>gt_int (q _ h)
 |ge=>exact g2 ex ey h fun i t j u h=>ge_int (q _ h)
 |eq=>exact match h with |.mk b h1 h2=>(cm h1).rc _ _ _ _ (q _ h2)
 |ne=>exact match h with |.mk b h1 h2=>(cm h1).ne _ _ _ _ (q _ h2)
 |is_=>
  cases eq_of_beq ((s8 ey).trans h.1)
  exact is_none_gen ((s8 ex).symm▸q _ h.2)
 |lH=>
  cases eq_of_beq ((s8 ey).trans h.1)
  exact isnot_none_gen (by rw[s8 ex];exact q _ h.2)
theorem Oy {xs:ah V}{t:aj} (h:Kh xs=aa t):xs.length<=line/\(!xs.isEmpty)=t:=c7 h (fun hl e=>⟨hl,eH e⟩) fun _ e=>by contradiction
theorem At.xN (z:At k L σ){a:ax}{xs:ah V}{t:aj} (hz:SeqAt σ a "list" xs) (h:Kh xs=aa t){P:aj->aF->Prop} (q:∀ tk,P t {σ.s with toks:=tk}):aO k.M k.A (truthy (.ref a)) P E σ.s:=by
 obtain⟨vs,hv,r⟩:=hz.list
 obtain⟨hl,rfl⟩:=Oy h
 refine wpAny_truthy_list hv (by rw[fC r];unfold line at hl;exact cw [xs.length] bJ 0x8000000000000000830014 pT hl aQ) ?_
 rw[show vs.isEmpty=xs.isEmpty by
  have:=fC r
  cases xs with
  |nil=>exact c9 this
  |cons=>exact dU (this▸nofun)]
 exact q _
theorem At.wD (z:At k L σ){t:aj} (h:truth σ.H x=aa t) (ex:er σ.g v x){P:aj->aF->Prop} (q:∀ tk,P t {σ.s with toks:=tk}):aO k.M k.A (truthy v) P E σ.s:=by
 cases x with
 |none=>subst ex;cases h;exact truthy_none (q σ.s.toks)
 |bool b=>subst ex;cases h;exact xu (q σ.s.toks)
 |int i=>
  obtain⟨u,rfl⟩:=ex;cases h
  refine acu ?_
  rw[show(i != 0)=decide (i≠0) from Gk.mpr (l7.trans L7.symm)]
  exact q σ.s.toks
 |bE xs=>obtain⟨a,rfl,h2⟩:=ex;exact z.xN (z.rep.yr _ _ h2) h q
 |ref a=>
  cases(show v=.ref a from ex)
  cases e:(σ.H a).bind Mo.tj with
  |none=>rw[show truth σ.H (.ref a)=((σ.H a).bind Mo.tj).bind Kh from rfl,e] at h;contradiction
  |some xs=>
   rw[show truth σ.H (.ref a)=((σ.H a).bind Mo.tj).bind Kh from rfl,e] at h
   exact z.xN (z.rep.bE e) h q
 |_=>contradiction
end
section
variable {k:Kx}{rz:aj}{X:fj}{L:bZ}{σ:Sx}{Q:PV}{v w l u:av}{x y lo hi:V}{E:av->aF->Prop}
theorem xV {n:Nat}{i:Int}{j:Nat} (h:zY n i=aa j):(0<=i/\i < n/\i.toNat=j)∨(i < 0/\-(n:Int)<=i/\(i+n).toNat=j):=
 c7 h (fun h0 h=>c7 h (fun h1 h=>.inl ⟨h0,h1,eH h⟩) fun _ h=>by contradiction) fun h0 h=>c7 h (fun h1 h=>.inr ⟨Sy.mp h0,h1,eH h⟩) fun _ h=>by contradiction
theorem G_ (i:Int) (n:Nat):seqIndex? i n=if 0<=(if i < 0 then i+(n:Int) else i)/\(if i < 0 then i+(n:Int) else i) < n then aa (if i < 0 then i+(n:Int) else i).toNat else au:=by
 unfold seqIndex?;simp
theorem C9 {n:Nat}{i:Int}{j:Nat} (h:zY n i=aa j):seqIndex? i n=aa j:=by
 rw[G_]
 rcases xV h with ⟨h0,h1,rfl⟩ |⟨h0,h1,rfl⟩
 ·rw[bb (F4.mpr h0),a8 ⟨h0,h1⟩]
 ·rw[a8 h0,a8 ⟨by exact gh [i] 0 [n] bJ 0x1004023 387 h1 aQ,by exact gh [i] 0 [n] bJ 0x10010044 0x2004 h0 aQ⟩]
theorem yu (slice:ay) (o i:av):∃ ops,subscripted slice ao o i=PySem.operate ops (getItem o i):=by
 cases slice with
 |Slice a b d p=>cases d<;>exact⟨_,rfl⟩
 |_=>exact⟨_,rfl⟩
theorem sP {value slice:ay}{o i:av}{T id:b_}{P:av->aF->Prop}{s:aF}{c:Cx}{A:bF} (hT:s.TypeIs o T) (hl:typeLookup (.type T) "__getitem__"=pure (aa (.builtin id)))
  (h:aO (model c.prog c.w) A (getItem o i) P E s):aO (model c.prog c.w) A (subscriptTail value slice o i) P E s:=by
 unfold subscriptTail
 refine bf ?_
 rw[getitemInPython_of_ne hT.not_modules]
 refine bf (kU hT hl ?_)
 obtain⟨ops,e⟩:=yu slice o i
 have fin:aO (model c.prog c.w) A (subscripted slice ao o i) (fun r s₃=>aO (model c.prog c.w) A (letTemporaryGo value o r>>=fun _=>pure r) P E s₃) E s:=by
  rw[e]
  exact wpAny_operating (pj h (fun r s₃ h₃=>bf (XJ (bW h₃))) fun _ _ x=>x)
 first
  |exact bW (bf fin)
  |exact bf (bW (bf fin))
  |exact bf fin
theorem VP {i:Int} (h:fits i):Builtin.Bytes.fitsIndex i=ag:=by
 simp only[Builtin.Bytes.fitsIndex,Bool.and_eq_true,L4];unfold fits at h;exact gh [i] 0 [] 0x11011000050011001100050001011 0x80000000000000008300400800000000000000083837 Iq h aQ
theorem At.HT (z:At k L σ){a:ax}{xs:ah V}{i:Int}{t:Nat}{value slice:ay} (hz:SeqAt σ a "list" xs) (h:Idx xs i fun u=>Q u σ.H):aO k.M k.A (subscriptTail value slice (.ref a) (.int i t)) (fun v s'=>fM (Ok k L σ Q v) s') E σ.s:=by
 obtain⟨j,d,hf,hi,hd,q⟩:=h
 obtain⟨vs,hv,r⟩:=hz.list
 obtain⟨x',hx,ex'⟩:=r.get hd
 refine sP hz.typeIs TP.lookup ?_
 unfold fits at hf
 have l1:=fC r
 rw[BA] at hx
 rcases xV hi with ⟨h0,_,rfl⟩ |⟨h0,h1,rfl⟩
 ·exact wpAny_getItem_list hv h0 (gh [i] 0 [] 0x1100011040011 0x800000000000000083004 Iq hf aQ) hx (z.okN ex' q)
 ·exact wpAny_getItem_list_neg hv h0 (nk [i] 0 [vs.size,xs.length] 0x11019011030 387 pS 0x10183 l1 h1 aQ) (gh [i] 0 [] oZ 0x80000000000000008383 Iq hf aQ) (by rw[l1];exact hx) (z.okN ex' q)
theorem At.Y1 (z:At k L σ){value slice:ay} (h:MQ x y σ.H Q) (ex:er σ.g v x) (ey:er σ.g w y):aO k.M k.A (subscriptTail value slice v w) (fun v s'=>fM (Ok k L σ Q v) s') E σ.s:=by
 refine gI ey h fun i t h=>?_
 cases x with
 |bytes b=>
  obtain⟨tk,rfl⟩:=ex
  obtain⟨j,d,hf,hi,hd,q⟩:=h
  exact sP (kT _ _ _) Ny.lookup (getItem_gives (kT σ.s _ tk) (by decide) Ny XU (X2 _ _) (gives_bytes_getitem _ _ tk t d (VP hf) (by rw[uR,C9 hi];exact(List.getElem?_toArray ..).trans hd)) (z.Pj (x:=.int _) ⟨_,rfl⟩ q))
 |tup xs=>
  obtain⟨a,rfl,hz⟩:=ex
  obtain⟨j,d,hf,hi,hd,q⟩:=h
  have hz:SeqAt σ a "tuple" xs:=z.rep.yr _ _ hz
  obtain⟨vs,hv,r⟩:=hz.tuple
  obtain⟨x',hx,ex'⟩:=r.get hd
  unfold fits at hf
  exact sP hz.typeIs slot_tuple_getitem.lookup (getItem_tuple hv (gh [i] 0 [] oZ 0x80000000000000008383 Iq hf aQ) (gh [i] 0 [] 0x1100011040011 0x800000000000000083004 Iq hf aQ) (j:=j) (by rw[fC r];exact C9 hi) (x:=x') ((BA ..).symm.trans hx) (z.okN ex' q))
 |bE xs=>obtain⟨a,rfl,hz⟩:=ex;exact z.HT (z.rep.yr _ _ hz) h
 |ref a=>cases(show v=.ref a from ex);obtain⟨xs,e,h⟩:=h;exact z.HT (z.rep.bE e) h
 |_=>exact h.elim
theorem qp {g:Gh}{n d j:Nat} (h:bound n d x=aa j) (e:er g v x):∃ o:aC Int,IsPart v o/\o.elim d (clipAt n)=j:=by
 cases x with
 |none=>cases(show v=.none from e);cases h;exact⟨_,.none,rfl⟩
 |int i=>obtain⟨t,rfl⟩:=e;exact c7 h (fun _ h=>by cases h;exact⟨_,.int _ _,rfl⟩) fun _ h=>by contradiction
 |_=>contradiction
theorem At.slice_list (z:At k L σ){a i:ax}{xs:ah V}{fz:aj}{value slice:ay} (hz:SeqAt σ a "list" xs) (h:Sl xs lo hi fun c=>Mine.mk fz c σ.H Q) (el:er σ.g l lo) (eu:er σ.g u hi)
  (hs:σ.s.heap.IsSliceOf i l u .none):aO k.M k.A (subscriptTail value slice (.ref a) (.ref i)) (fun v s'=>fM (Ok k L σ Q v) s') E σ.s:=by
 obtain⟨k1,k2,hn,h1,h2,q⟩:=h
 obtain⟨o1,p1,e1⟩:=qp h1 el
 obtain⟨o2,p2,e2⟩:=qp h2 eu
 obtain⟨vs,hv,r⟩:=hz.list
 have l1:=fC r
 refine sP hz.typeIs TP.lookup (wpAny_getItem_list_slice hv hs p1 p2 .none nofun ?_ (by rw[l1];exact f_ hn))
 rw[slicePick_plain,l1,e1,e2]
 refine z.QV (xs:=cut xs k1 k2) ?_ q
 simpa [cut] using (r.drop k1).take (k2-k1)
theorem At.P5 (z:At k L σ){i:ax}{fz:aj}{value slice:ay} (h:vh fz x lo hi σ.H Q) (ex:er σ.g v x) (el:er σ.g l lo) (eu:er σ.g u hi) (hs:σ.s.heap.IsSliceOf i l u .none):aO k.M k.A (subscriptTail value slice v (.ref i)) (fun v s'=>fM (Ok k L σ Q v) s') E σ.s:=by
 cases x with
 |bytes b=>
  obtain⟨t,rfl⟩:=ex
  obtain⟨k1,k2,hl,h1,h2,q⟩:=h
  obtain⟨o1,p1,e1⟩:=qp h1 el
  obtain⟨o2,p2,e2⟩:=qp h2 eu
  refine sP (kT _ _ _) Ny.lookup (getItem_meets (kT _ _ _) (by decide) Ny XU (X2 _ _) (KBc.meets_slice2 _ t _ p1 p2)
   ⟨hs,aK (KBc.size_picked_le _ _ _) (by rw[uR];exact f_ hl),fun t' k=>z.okB ?_ q⟩)
  rw[KBc.picked_eq]
  simp only[uR,e1,e2]
  rfl
 |bE xs=>obtain⟨a,rfl,hz⟩:=ex;exact z.slice_list (z.rep.yr _ _ hz) h el eu hs
 |ref a=>cases(show v=.ref a from ex);obtain⟨xs,e,h⟩:=h;exact z.slice_list (z.rep.bE e) h el eu hs
 |_=>exact h.elim
end
theorem wd:∀ {n:Nat}{p:(m:Nat)->Nat.ble m n=ag->aj},allB n p=ag->∀ m h,p m h=ag
 | 0,p,a,m,h=>by cases Nat.eq_zero_of_le_zero (aT h);exact a
 |n+1,p,a,m,h=>by
  have a:=eU.mp a
  rcases Nat.lt_or_eq_of_le (aT h) with l |l
  ·exact wd a.2 m (Nat.ble_eq_true_of_le (xq l))
  ·subst l;exact a.1
theorem FW {p:Nm->aj} (h:allB 190 (fun m h=>p ⟨m,h⟩)=ag) (x:Nm):p x=ag:=wd h x.n x.h
theorem Bv {p:Cn->aj} (h:allB 23 (fun m h=>p ⟨m,h⟩)=ag) (x:Cn):p x=ag:=wd h x.n x.h
theorem Sm {p:Fn->aj} (h:allB 112 (fun m h=>p ⟨m,h⟩)=ag) (x:Fn):p x=ag:=wd h x.n x.h
noncomputable def QS (s:Str):ah b_->Nat->Nat
 |[],_=>0
 |x::r,n=>cond (Str.ofString x==s) n (QS s r (n+1))
theorem MK (x:Nm):QS (dQ x) QR 0=x.n:=eq_of_beq (FW (p:=fun x=>QS (dQ x) QR 0==x.n) (by decide+kernel) x)
theorem qi {x y:Nm} (h:dQ x=dQ y):x=y:=by
 have e:x.n=y.n:=by rw[<- MK x,h,MK y]
 obtain⟨n,p⟩:=x;obtain⟨m,q⟩:=y
 cases(show n=m from e);rfl
noncomputable def U3 (s:Str):aj:=!(s==("__debug__":Str))&&!(s==("__classdict__":Str))
theorem An (x:Nm):(dQ x==("__debug__":Str))=ao/\(dQ x==("__classdict__":Str))=ao:=
 have h:=eU.mp (FW (p:=fun x=>U3 (dQ x)) (by decide+kernel) x)
 ⟨(Gr _).mp h.1,(Gr _).mp h.2⟩
structure WE (g:Gh) (kv:Str×av) (p:Nm×V):Prop where
 k:kv.1=dQ p.1
 v:er g kv.2 p.2
theorem Q7 {fs:ah (Nm×V)}{pH:ah (Str×av)}{g:Gh} (r:dG (WE g) pH fs):pH.map (·.1)=(fs.map (·.1)).map dQ:=by
 induction r with
 |nil=>rfl
 |cons h _ ih=>rw[gv,gv,gv,ih,h.k]
theorem QQ {l:ah Nm}:(l.map dQ).Nodup↔l.Nodup:=⟨fun h=>((Gq).mp h).imp fun Dq he=>Dq (by rw[he]),fun h=>(Gq).mpr (h.imp fun Dq he=>Dq (qi he))⟩
theorem ro {fs:ah (Nm×V)}{pH:ah (Str×av)}{g:Gh} (r:dG (WE g) pH fs):(pH.map (·.1)).Nodup↔(fs.map (·.1)).Nodup:=Q7 r▸QQ
section
variable {c:Cx}{σ:Sx}{d:ax}{fs:ah (Nm×V)}{pH:ah (Str×av)}
noncomputable abbrev sk (c:Cx):=strKind c.prog c.w
theorem DictAt.of (x:σ.s.heap.DictOf (sk c) d pH) (r:dG (WE σ.g) pH fs):DictAt c σ d fs:=by
 obtain⟨o,es,ep,ho,⟨e1,e2,e3⟩,hd,hk,hp,hn⟩:=x
 obtain⟨oc,od,dt,sl⟩:=o
 subst e1;subst e2;subst e3;subst hd
 refine⟨es,ep,ho,?_,(ro r).mp hn⟩
 have Za:∀ e∈es.toList,∃ k,(sk c).is k e.key=ag/\e.hash=hashStr c.w k:=fun e he=>hk e (XI.mp he)
 clear hk ho hn
 generalize es.toList=l at Za hp
 induction hp generalizing fs with
 |nil=>rw[(show fs=[] by cases r;rfl)];exact .nil
 |cons h1 h2 ht ih=>
  cases r with
  |cons q1 q2=>
   refine .cons ?_ (ih q2 fun e he=>Za e (.tail _ he))
   obtain⟨k,k1,k2⟩:=Za _ (.head _)
   obtain⟨t,e⟩:=Value.isStrOf_shape h1
   have:k=_:=(sk c).inj _ _ _ k1 h1
   subst this
   exact⟨⟨t,by rw[e,q1.k]⟩,by rw[k2,q1.k];rfl,by rw[h2];exact q1.v⟩
theorem abt {l:ah cI} (r:dG (y_ c σ) l fs):∃ pH,(∀ e∈l,∃ k,(sk c).is k e.key=ag/\e.hash=(sk c).hash k)/\Pairs (sk c) l pH/\dG (WE σ.g) pH fs:=by
 induction r with
 |nil=>exact⟨[],fun e he=>absurd he uP,.nil,.nil⟩
 | @cons e p l m q _ ih=>
  obtain⟨pH,i1,i2,i3⟩:=ih
  obtain⟨t,k1⟩:=q.key
  have hk:(sk c).is (dQ p.1) e.key=ag:=by rw[k1];exact c9 rfl
  exact⟨(dQ p.1,e.val)::pH,fun e' he=>(dS.mp he).elim (fun h=>h▸⟨dQ p.1,hk,q.hash⟩) (i1 e'),.cons hk rfl i2,.cons ⟨rfl,q.val⟩ i3⟩
theorem DictAt.to (x:DictAt c σ d fs):∃ pH,σ.s.heap.DictOf (sk c) d pH/\dG (WE σ.g) pH fs:=by
 obtain⟨es,n,ho,r,hn⟩:=x
 obtain⟨pH,k1,k2,k3⟩:=abt r
 exact⟨pH,⟨_,es,n,ho,⟨rfl,rfl,rfl⟩,rfl,fun e he=>k1 e (XI.mpr he),k2,(ro k3).mpr hn⟩,k3⟩
theorem VO (r:dG (WE σ.g) pH fs){f:Nm}{x:V} (h:eF fs f=aa x):∃ v,valueAt pH (dQ f)=aa v/\er σ.g v x:=by
 induction r with
 |nil=>contradiction
 | @cons kv p l m q _ ih=>
  obtain⟨k,v⟩:=kv
  obtain⟨n,y⟩:=p
  cases(show k=dQ n from q.k)
  have ev:∀ b,decide (dQ n=dQ f)=b->valueAt ((dQ n,v)::l) (dQ f)=cond b (aa v) (valueAt l (dQ f)):=fun b e=>by
   simp only[valueAt,LV,e];cases b<;>rfl
  refine c7 h (fun e h=>?_) fun e h=>?_
  ·cases h;exact⟨v,ev ag (c9 (aW dQ e)),q.v⟩
  ·exact(ev ao (dU fun z=>e (qi z))).symm▸ih h
theorem vm {f n:Nm}{x y:V} (e:n=f):cL ((n,y)::fs) f x=(n,x)::fs:=a8 e
theorem vl {f n:Nm}{x y:V} (e:¬ n=f):cL ((n,y)::fs) f x=(n,y)::cL fs f x:=bb e
theorem G9 (r:dG (WE σ.g) pH fs) (hn:(pH.map (·.1)).Nodup){f:Nm}{x:V}{v:av} (h:er σ.g v x):dG (WE σ.g) (stored pH (dQ f) v) (cL fs f x):=by
 induction r with
 |nil=>exact .cons ⟨rfl,h⟩ .nil
 | @cons kv p l m q hr ih=>
  obtain⟨k,v'⟩:=kv
  obtain⟨n,y⟩:=p
  cases(show k=dQ n from q.k)
  rw[gv,qy] at hn
  have ih:=ih hn.2
  by_cases e:n=f
  ·subst e
   rw[vm rfl]
   unfold stored
   rw[a8 (by rw[LN,c9 rfl];rfl),gv,a8 rfl,map_store_of_not_mem _ _ _ hn.1]
   exact .cons ⟨rfl,h⟩ hr
  ·have ne:¬ dQ n=dQ f:=fun z=>e (qi z)
   rw[vl e]
   unfold stored at ih ⊢
   rw[LN,dU ne,Bool.false_or]
   by_cases abW:(l.any fun p=>decide (p.1=dQ f))=ag
   ·rw[a8 abW] at ih ⊢
    rw[gv,bb ne]
    exact .cons ⟨rfl,q.v⟩ ih
   ·rw[bb abW] at ih ⊢
    exact .cons ⟨rfl,q.v⟩ ih
theorem P6 (fs:ah (Nm×V)) (f:Nm) (y:V):(cL fs f y).length<=fs.length+1:=by
 induction fs with
 |nil=>exact bD _
 |cons p r ih=>
  obtain⟨k,v⟩:=p
  by_cases e:k=f
  ·rw[vm e];exact F5 _
  ·rw[vl e];exact eG ih
theorem AH {α:Type}:∀ {fs:ah (Nm×α)}{f:Nm}{y:α},eF fs f=aa y->(f,y)∈fs
 |(k,v)::r,f,y,h=>c7 h (fun e h=>by cases h;exact e▸.head _) fun _ h=>.tail _ (AH h)
theorem HI {f:Nm}{y:V}{p:Nm×V} (h:p∈cL fs f y):p.1=f∨p∈fs:=by
 induction fs with
 |nil=>exact .inl (by rw[eR.mp h])
 |cons q r ih=>
  obtain⟨k,v⟩:=q
  by_cases e:k=f
  ·rw[vm e] at h
   exact(dS.mp h).imp (fun q=>by rw[q];exact e) (.tail _)
  ·rw[vl e] at h
   exact(dS.mp h).elim (fun q=>.inr (q▸.head _)) fun h=>(ih h).imp id (.tail _)
theorem Kb {f:Nm}{y:V} (h:(fs.map (·.1)).Nodup):((cL fs f y).map (·.1)).Nodup:=by
 induction fs with
 |nil=>exact qy.mpr ⟨nofun,.nil⟩
 |cons q r ih=>
  obtain⟨k,v⟩:=q
  rw[gv,qy] at h
  by_cases e:k=f
  ·rw[vm e,gv,qy];exact h
  ·rw[vl e,gv,qy]
   refine⟨fun hm=>?_,ih h.2⟩
   obtain⟨p,hp,e2⟩:=l9.mp hm
   exact(HI hp).elim (fun z=>e (e2.symm.trans z)) fun z=>h.1 (l9.mpr ⟨p,z,e2⟩)
theorem AA {f k:Nm}{t:Tok}:(Value.str (dQ k) t).isStr (dQ f)=decide (k=f):=Gk.mpr (uM.trans ⟨fun e=>c9 (qi e),fun e=>by rw[ij e]⟩)
theorem VQ {l:ah cI} (r:dG (y_ c σ) l fs){f:Nm}{y:V} (h:eF fs f=aa y):∃ e,l.find? (·.key.isStr (dQ f))=aa e/\er σ.g e.val y:=by
 induction r with
 |nil=>contradiction
 | @cons e p l m q _ ih=>
  obtain⟨k,v⟩:=p
  obtain⟨t,q1⟩:=q.key
  rw[LV,q1,AA]
  refine c7 h (fun z h=>?_) fun z h=>?_
  ·cases h;rw[c9 z];exact⟨e,rfl,q.val⟩
  ·rw[dU z];exact ih h
theorem Ov {es:bS cI}{n:Nat} (r:dG (y_ c σ) es.toList fs){f:Nm}{y:V} (h:eF fs f=aa y):∃ v,lookIn (dQ f) ⟨.type "dict",au,.dict es n,#[]⟩=aa (aa v)/\er σ.g v y:=by
 obtain⟨e,h1,h2⟩:=VQ r h
 refine⟨e.val,?_,h2⟩
 unfold lookIn
 simp only[h1]
theorem Dk {es:bS cI} (r:dG (y_ c σ) es.toList fs):es.any (·.refKey)=ao:=by
 rw[<- TC]
 generalize es.toList=l at r
 induction r with
 |nil=>rfl
 |cons q _ ih=>
  obtain⟨t,q1⟩:=q.key
  rw[LN,ih,Ge]
  unfold DictEntry.refKey;rw[q1]
noncomputable def putL (c:Cx) (l:ah cI) (f:Nm) (t:Tok) (v:av):ah cI:=match l.findIdx? (·.key.isStr (dQ f)) with
 |some i=>l.modify i fun e=>{e with val:=v}
 |none=>l++[⟨PyData.keyHash c.w.params (dQ f),.str (dQ f) t,v⟩]
theorem U1 {l:ah cI} (r:dG (y_ c σ) l fs){f:Nm}{y:V}{v:av}{t:Tok} (ey:er σ.g v y):dG (y_ c σ) (putL c l f t v) (cL fs f y):=by
 induction r with
 |nil=>exact .cons ⟨⟨t,rfl⟩,rfl,ey⟩ .nil
 | @cons e p l m q hr ih=>
  obtain⟨k,u⟩:=p
  obtain⟨t',q1⟩:=q.key
  unfold putL at ih ⊢
  rw[TZ,q1,AA]
  by_cases z:k=f
  ·subst z
   rw[vm rfl,c9 rfl]
   exact .cons ⟨⟨t',q1⟩,q.hash,ey⟩ hr
  ·rw[vl z,dU z]
   cases hi:l.findIdx? (·.key.isStr (dQ f)) with
   |none=>rw[hi] at ih;exact .cons ⟨⟨t',q1⟩,q.hash,q.val⟩ ih
   |some i=>rw[hi] at ih;exact .cons ⟨⟨t',q1⟩,q.hash,q.val⟩ ih
theorem JM {es:bS cI}{n:Nat} (r:dG (y_ c σ) es.toList fs){f:Nm}{y:V}{v:av}{t:Tok} (ey:er σ.g v y):
  ∃ UE n',Obj.putName (dQ f) (PyData.keyHash c.w.params (dQ f)) (.str (dQ f) t) v ⟨.type "dict",au,.dict es n,#[]⟩=⟨.type "dict",au,.dict UE n',#[]⟩/\dG (y_ c σ) UE.toList (cL fs f y):=by
 have k:=U1 r ey (f:=f) (t:=t)
 rw[Obj.putName_eq]
 unfold putL at k
 simp only[Obj.putNameByArray]
 rw[show es.findIdx? (·.key.isStr (dQ f))=es.toList.findIdx? (·.key.isStr (dQ f)) by obtain⟨l⟩:=es;simp]
 cases hi:es.toList.findIdx? (·.key.isStr (dQ f)) with
 |some i=>rw[hi] at k;exact⟨_,_,rfl,by simpa using k⟩
 |none=>rw[hi] at k;exact⟨_,_,rfl,by simpa using k⟩
end
theorem any_some {α:Type}{o:aC α}{p:α->aj} (h:o.any p=ag):∃ a,o=aa a/\p a=ag:=by
 cases o with
 |none=>contradiction
 |some a=>exact⟨a,rfl,h⟩
theorem Rd {H:Hp}{a:ax}{fs:ah (Nm×V)} (h:(H a).bind Mo.Rr=aa fs):∃ C,H a=aa (.inst C fs):=by
 cases e:H a with
 |none=>rw[e] at h;contradiction
 |some o=>rw[e] at h;cases o with
  |inst C=>cases h;exact⟨C,rfl⟩
  |_=>contradiction
theorem VW {H:Hp}{a:ax}{C:Cn} (h:(H a).bind Mo.cls?=aa C):∃ fs,H a=aa (.inst C fs):=by
 cases e:H a with
 |none=>rw[e] at h;contradiction
 |some o=>rw[e] at h;cases o with
  |inst C fs=>cases h;exact⟨fs,rfl⟩
  |_=>contradiction
theorem VS {H:Hp}{a:ax}{fs:ah (Nm×V)} (h:(H a).bind Mo.Zu=aa fs):H a=aa (.i_ fs):=by
 cases e:H a with
 |none=>rw[e] at h;contradiction
 |some o=>rw[e] at h;cases o with
  |i_ fs=>cases h;rfl
  |_=>contradiction
theorem bind_some {α β:Type}{o:aC α}{f:α->aC β}{b:β} (h:o.bind f=aa b):∃ a,o=aa a/\f a=aa b:=by
 cases o with
 |none=>contradiction
 |some a=>exact⟨a,rfl,h⟩
theorem N_ {α:Type}{R:cI->α->Prop}{vs:bS cI}{xs:ah α} (r:dG R vs.toList xs):vs.size=xs.length:=r.length
theorem OJ {g:Gh}{v:av}{x:V} (h:er g v x):handedIn v=ag:=by
 cases x with
 |none=>subst h;rfl
 |bool=>subst h;rfl
 |ref=>subst h;rfl
 |int=>obtain⟨t,rfl⟩:=h;rfl
 |str=>obtain⟨t,rfl⟩:=h;rfl
 |bytes=>obtain⟨t,rfl⟩:=h;rfl
 |tup=>obtain⟨t,rfl,_⟩:=h;rfl
 |bE=>obtain⟨t,rfl,_⟩:=h;rfl
 |obj=>obtain⟨t,rfl,_⟩:=h;rfl
theorem Ds {C:Cn}{f:Nm} (h:f∈fieldsOf C):fieldsOf C≠[]:=fun e=>by rw[e] at h;cases h
section
variable {k:Kx}{rz:aj}{X:fj}{L:bZ}{σ:Sx}{Q:PV}{v w:av}{x y:V}{f:Nm}{A:bF}{E:av->aF->Prop}
theorem At.VF (z:At k L σ) (h:Ro σ.H f x=aa y) (e:er σ.g v x):∃ a C fs,v=.ref a/\iZ k.c σ a C fs/\eF fs f=aa y:=by
 cases x with
 |obj C fs=>obtain⟨a,rfl,h2⟩:=e;exact⟨a,C,fs,rfl,z.rep.yr _ _ h2,h⟩
 |ref a=>
  cases(show v=.ref a from e)
  obtain⟨fs,h1,h2⟩:=bind_some h
  obtain⟨C,h3⟩:=Rd h1
  exact⟨a,C,fs,rfl,z.rep.yB _ _ h3,h2⟩
 |_=>contradiction
theorem At.Zy (z:At k L σ){C:Cn} (h:AW σ.H x=aa C) (e:er σ.g v x):∃ a fs,v=.ref a/\iZ k.c σ a C fs:=by
 cases x with
 |obj C fs=>cases h;obtain⟨a,rfl,h2⟩:=e;exact⟨a,fs,rfl,z.rep.yr _ _ h2⟩
 |ref a=>
  cases(show v=.ref a from e)
  obtain⟨fs,h3⟩:=VW h
  exact⟨a,fs,rfl,z.rep.yB _ _ h3⟩
 |_=>contradiction
theorem iZ.Qy {c:Cx}{a:ax}{C:Cn}{fs:ah (Nm×V)} (I:iZ c σ a C fs):
  ∃ d es n,InstAt σ.s.heap a ⟨.ref (c.T.cA C),aa d,.plain,#[]⟩ (c.T.cA C) (aa ⟨.type "dict",au,.dict es n,#[]⟩)/\σ.get d=aa ⟨.type "dict",au,.dict es n,#[]⟩/\σ.g.D d=aa a/\dG (y_ c σ) es.toList fs/\(fs.map (·.1)).Nodup/\∀ p∈fs,p.1∈fieldsOf C:=match I with
 |.mk d e1 e2 (.mk es n e3 e4 e5) e6=>⟨d,es,n,⟨e1,rfl,rfl,e3⟩,e3,e2,e4,e5,e6⟩
theorem At.MY (z:At k L σ){b:aj} (h:Ro σ.H f x=aa y) (ex:er σ.g v x) (q:Q y σ.H):aO k.M A (getAttr v (dQ f) b) (fun v s'=>fM (Ok k L σ Q v) s') E σ.s:=by
 obtain⟨a,C,fs,rfl,I,hy⟩:=z.VF h ex
 obtain⟨d,es,n,I',e3,e2,r,nd,hf⟩:=I.Qy
 have Jg:=hf _ (AH hy)
 have F:=k.D.cls C (Ds Jg)
 obtain⟨u,h1,h2⟩:=Ov (n:=n) r hy
 obtain⟨cd,Zj,hdd⟩:=any_some F.hd
 refine get_value z.here I' F.ga ?_ (OJ h2) (z.Pj h2 q)
 unfold findObj
 rw[Zj,pk,F.fld _ Jg]
 show((if cd.hasDict=ag then _ else _:aC _)).bind _=_
 rw[a8 hdd]
 show(lookIn (dQ f) ⟨.type "dict",au,.dict es n,#[]⟩).bind _=_
 rw[h1];rfl
theorem At.M7 (z:At k L σ) (h:OF σ.H f x=aa y) (ex:er σ.g v x):∃ a pH u,v=.ref a/\σ.s.heap.DictOf (sk k.c) a pH/\valueAt pH (dQ f)=aa u/\er σ.g u y:=by
 cases x with
 |ref a=>
  cases(show v=.ref a from ex)
  obtain⟨fs,h1,h2⟩:=bind_some h
  obtain⟨pH,hd,r⟩:=(z.rep.yB _ _ (VS h1):DictAt _ _ _ _).to
  obtain⟨u,h3,h4⟩:=VO r h2
  exact⟨a,pH,u,rfl,hd,h3,h4⟩
 |_=>contradiction
theorem At.Rn (z:At k L σ){t:Nat} (h:OF σ.H f x=aa y) (ex:er σ.g v x) (q:Q y σ.H):aO k.M A (getItem v (.str (dQ f) t)) (fun v s'=>fM (Ok k L σ Q v) s') E σ.s:=by
 obtain⟨a,pH,u,rfl,hd,h1,h2⟩:=z.M7 h ex
 exact TB (K:=Str) (knd:=sk k.c) (k:=dQ f) (c9 rfl) hd.mapOf h1 (z.Pj h2 q)
theorem At.VN (z:At k L σ){t:Nat}{value slice:ay} (h:OF σ.H f x=aa y) (ex:er σ.g v x) (q:Q y σ.H):aO k.M A (subscriptTail value slice v (.str (dQ f) t)) (fun v s'=>fM (Ok k L σ Q v) s') E σ.s:=by
 obtain⟨a,pH,u,rfl,hd,h1,h2⟩:=z.M7 h ex
 exact sP hd.mapOf.typeIs slot_dict_getitem.lookup (TB (K:=Str) (knd:=sk k.c) (k:=dQ f) (c9 rfl) hd.mapOf h1 (z.Pj h2 q))
theorem At.oku (z:At k L σ){H':Hp}{s':aF}{Q:Hp->Prop}{u:cR} (r:Rel k.c k.frs [] σ ⟨s',σ.g,H'⟩) (q:Q H'):fM (Oku k L σ Q u) s':=⟨_,_,.mk r.le (z.step r) q⟩
theorem Rep.EM {c:Cx} (R:Rep c σ){a:ax}{o:Mo} (h:σ.H a=aa o):¬ σ.Off a:=fun f=>bP f.h h
theorem Rep.noD {c:Cx} (R:Rep c σ){a:ax}{o:Mo} (h:σ.H a=aa o):∀ b,σ.g.D a≠aa b:=fun _ q=>bP (R.dz _ _ q).2 h
theorem Rep.noZ {c:Cx} (R:Rep c σ){a:ax}{o:Mo} (h:σ.H a=aa o):σ.g.Z a=au:=lj fun _ q=>bP (R.zm _ _ q) h
theorem Rel.WQ {c:Cx}{frs:ah ax} (R:Rep c σ){a:ax}{o p:Mo}{h':bB}{tk:Nat} (h:σ.H a=aa o) (hs:∀ b,b≠a->h'.get? b=σ.get b) (m:Ut c ⟨(σ.up h' tk).s,σ.g,σ.H.set a p⟩ a p):
  Rel c frs [] σ ⟨(σ.up h' tk).s,σ.g,σ.H.set a p⟩:=
 .put (.refl R) (fun _ _=>R.EM h) (Rel.Oj (frs:=frs) (own:=[]) (.refl R)) ⟨R.noZ h,R.noD h,R.EP a o h,fun b _ n _ e=>(hs b n).trans e,fun b q=>(R.Jj b a q).elim fun x e=>⟨x,(hs b fun w=>R.noD h a (w▸q)).trans e⟩⟩ m
theorem At.Mq (z:At k L σ){t:Nat}{Q:Hp->Prop} (h:y8 x σ.H f y Q) (ex:er σ.g v x) (ey:er σ.g w y):aO k.M A (setItem v (.str (dQ f) t) w) (fun u s'=>fM (Oku k L σ Q u) s') E σ.s:=by
 obtain⟨a,fs,rfl,hz,hl,q⟩:=h
 cases(show v=.ref a from ex)
 obtain⟨pH,hd,r⟩:=(z.rep.yB _ _ hz:DictAt _ _ _ _).to
 have hn:=hd.choose_spec.choose_spec.choose_spec.2.2.2.2.2
 refine wpAny_setItem_pairs (K:=Str) (knd:=sk k.c) (k:=dQ f) (c9 rfl) hd (fun h' Zg hs=>?_) (by have le:pH.length=fs.length:=r.length;rw[l8];exact fu [pH.length,fs.length] eI pT 0x6413101 pS hl le aQ)
 exact z.oku (H':=σ.H.set a (.i_ (cL fs f y))) (Rel.WQ (tk:=σ.s.toks+1) (p:=.i_ (cL fs f y)) z.rep hz hs.2 (DictAt.of (σ:=⟨(σ.up h' (σ.s.toks+1)).s,σ.g,σ.H.set a (.i_ (cL fs f y))⟩) Zg (G9 r hn ey))) q
theorem At.adw (z:At k L σ){a d:ax}{C:Cn}{fs gs:ah (Nm×V)}{es:bS cI}{n:Nat}{h':bB}{tk:Nat}{Q:Hp->Prop}{u:cR} (hz:σ.H a=aa (.inst C fs)) (hx:σ.get a=aa ⟨.ref (k.c.T.cA C),aa d,.plain,#[]⟩) (e2:σ.g.D d=aa a)
  (e5:h'.get? d=aa ⟨.type "dict",au,.dict es n,#[]⟩) (hs:∀ b,b≠d->h'.get? b=σ.get b) (r:dG (y_ k.c σ) es.toList gs) (nd:(gs.map (·.1)).Nodup) (hf:∀ p∈gs,p.1∈fieldsOf C) (q:Q (σ.H.set a (.inst C gs))):fM (Oku k L σ Q u) (σ.up h' tk).s:=by
 have R:=z.rep
 have nad:a≠d:=fun e=>R.noD hz a (e▸e2)
 refine z.oku (H':=σ.H.set a (.inst C gs)) (Rel.put (o:=.inst C gs) (.refl R) (fun _ _=>R.EM hz) (Rel.Oj (frs:=k.frs) (own:=[]) (.refl R)) ⟨R.noZ hz,R.noD hz,R.EP a _ hz,fun b _ _ n e=>(hs b fun w=>n (w▸e2)).trans e,fun b q=>?_⟩ ?_) q
 ·by_cases e:b=d
  ·subst e;exact⟨_,e5⟩
  ·exact(R.Jj b a q).elim fun x w=>⟨x,(hs b e).trans w⟩
 ·exact .mk d ((hs a nad).trans hx) e2 (.mk es n e5 (r.bT fun _ _ e=>⟨e.key,e.hash,e.val⟩) nd) hf
theorem At.Mp (z:At k L σ){Q:Hp->Prop} (h:xB x σ.H f y Q) (ex:er σ.g v x) (ey:er σ.g w y):aO k.M A (setAttr v (dQ f) w) (fun u s'=>fM (Oku k L σ Q u) s') E σ.s:=by
 obtain⟨a,C,fs,rfl,hz,hl,Jg,q⟩:=h
 cases(show v=.ref a from ex)
 have R:=z.rep
 obtain⟨d,es,n,I',e3,e2,r,nd,hf⟩:=iZ.Qy (R.yB _ _ hz)
 have F:=k.D.cls C (Ds Jg)
 obtain⟨cd,Zj,hdd⟩:=any_some F.hd
 have ht:takerIn k.K (k.c.T.cA C) (dQ f)=aa au:=by unfold takerIn;rw[F.fld _ Jg];rfl
 have X':k.K.In ({σ.s with toks:=σ.s.toks+1}:aF).heap:=z.here
 have I'':InstAt ({σ.s with toks:=σ.s.toks+1}:aF).heap a ⟨.ref (k.c.T.cA C),aa d,.plain,#[]⟩ (k.c.T.cA C) (aa ⟨.type "dict",au,.dict es n,#[]⟩):=I'
 refine set_plain z.here I' F.sa (osa_open X' I'' F.pl ht fun b=>?_)
 have hx:=I'.at_
 obtain⟨UE,n',e4,r'⟩:=JM (n:=n) (t:=σ.s.toks+1) r ey
 have Y3:UE.size<=100:=aK (gY (N_ r')) (aK (P6 fs f y) hl)
 refine bf (bW (bf (bf (Tj hx (bf ((looks_clsIn X' Zj).here ?_))))))
 rw[hdd]
 refine bW (a:=some d) (bf (bW (bf ?_)))
 unfold nsSet
 refine bf (bf (TA (bW (bf (wpAny_mkText (bf (Tj e3 ?_)))))))
 dsimp only
 rw[aRefKeyMayBeTheName_at,Dk r,LR]
 refine wpAny_updatePart e3 ?_
 have e5:(σ.s.heap.update d (Obj.putName (dQ f) (PyData.keyHash k.c.w.params (dQ f)) (.str (dQ f) (σ.s.toks+1)) w)).get? d=aa ⟨.type "dict",au,.dict UE n',#[]⟩:=by
  rw[<- e4];exact Nw _ e3 (by rw[e4];rfl)
 have hs:∀ b,b≠d->(σ.s.heap.update d (Obj.putName (dQ f) (PyData.keyHash k.c.w.params (dQ f)) (.str (dQ f) (σ.s.toks+1)) w)).get? b=σ.get b:=fun b hb=>I9 _ _ (l6 hb)
 refine bf (Tz e5 (pastItsLine_dict (by rw[l8];exact cw [UE.size] bJ 0x100000143000 0x6413000 Y3 aQ)) ?_)
 exact bW (z.adw hz hx e2 e5 hs r' (Kb nd) (fun p hp=>(HI hp).elim (fun w=>w▸Jg) (hf p)) q)
end
@[elab_as_elim] theorem Oi {f:aj}{P:d8->Prop}{x:d8} (h:EH x f=ag) (K:f=ag->P (.none)):P x:=
 if q:x.ctorIdx=0 then PySem.Const.none.elim (motive:=fun x=>EH x f=ag->P x) x q (fun h=>K h) h else absurd ((da q).symm.trans h) cj
@[elab_as_elim] theorem wM {f:aj->aj}{P:d8->Prop}{x:d8} (h:EI x f=ag) (K:∀ (a:aj),f a=ag->P (.bool a)):P x:=
 if q:x.ctorIdx=1 then PySem.Const.bool.elim (motive:=fun x=>EI x f=ag->P x) x q (fun a h=>K a h) h else absurd ((da q).symm.trans h) cj
@[elab_as_elim] theorem QI {f:Int->aj}{P:d8->Prop}{x:d8} (h:J7 x f=ag) (K:∀ (a:Int),f a=ag->P (.int a)):P x:=
 if q:x.ctorIdx=2 then PySem.Const.int.elim (motive:=fun x=>J7 x f=ag->P x) x q (fun a h=>K a h) h else absurd ((da q).symm.trans h) cj
@[elab_as_elim] theorem vx {f:Str->aj}{P:d8->Prop}{x:d8} (h:wL x f=ag) (K:∀ (a:Str),f a=ag->P (.str a)):P x:=
 if q:x.ctorIdx=5 then PySem.Const.str.elim (motive:=fun x=>wL x f=ag->P x) x q (fun a h=>K a h) h else absurd ((da q).symm.trans h) cj
@[elab_as_elim] theorem J_ {f:(ah aA)->aj}{P:d8->Prop}{x:d8} (h:Ag x f=ag) (K:∀ (a:ah aA),f a=ag->P (.bytes a)):P x:=
 if q:x.ctorIdx=6 then PySem.Const.bytes.elim (motive:=fun x=>Ag x f=ag->P x) x q (fun a h=>K a h) h else absurd ((da q).symm.trans h) cj
@[elab_as_elim] theorem Ah {f:BoolOp->(ah ay)->aj}{P:ay->Prop}{x:ay} (h:Ai x f=ag) (K:∀ (a:BoolOp) (b:ah ay) (p:Pos),f a b=ag->P (.BoolOp a b p)):P x:=
 if q:x.ctorIdx=0 then PySem.Expr.BoolOp.elim (motive_1:=fun x=>Ai x f=ag->P x) x q (fun a b p h=>K a b p h) h else absurd ((da q).symm.trans h) cj
@[elab_as_elim] theorem Dh {f:ay->ig->ay->aj}{P:ay->Prop}{x:ay} (h:EJ x f=ag) (K:∀ (a:ay) (b:ig) (d:ay) (p:Pos),f a b d=ag->P (.BinOp a b d p)):P x:=
 if q:x.ctorIdx=2 then PySem.Expr.BinOp.elim (motive_1:=fun x=>EJ x f=ag->P x) x q (fun a b d p h=>K a b d p h) h else absurd ((da q).symm.trans h) cj
@[elab_as_elim] theorem oB {f:UnaryOp->ay->aj}{P:ay->Prop}{x:ay} (h:sW x f=ag) (K:∀ (a:UnaryOp) (b:ay) (p:Pos),f a b=ag->P (.UnaryOp a b p)):P x:=
 if q:x.ctorIdx=3 then PySem.Expr.UnaryOp.elim (motive_1:=fun x=>sW x f=ag->P x) x q (fun a b p h=>K a b p h) h else absurd ((da q).symm.trans h) cj
@[elab_as_elim] theorem De {f:ay->ay->ay->aj}{P:ay->Prop}{x:ay} (h:EG x f=ag) (K:∀ (a:ay) (b:ay) (d:ay) (p:Pos),f a b d=ag->P (.IfExp a b d p)):P x:=
 if q:x.ctorIdx=5 then PySem.Expr.IfExp.elim (motive_1:=fun x=>EG x f=ag->P x) x q (fun a b d p h=>K a b d p h) h else absurd ((da q).symm.trans h) cj
@[elab_as_elim] theorem HA {f:(ah (aC ay))->(ah ay)->aj}{P:ay->Prop}{x:ay} (h:J4 x f=ag) (K:∀ (a:ah (aC ay)) (b:ah ay) (p:Pos),f a b=ag->P (.Dict a b p)):P x:=
 if q:x.ctorIdx=6 then PySem.Expr.Dict.elim (motive_1:=fun x=>J4 x f=ag->P x) x q (fun a b p h=>K a b p h) h else absurd ((da q).symm.trans h) cj
@[elab_as_elim] theorem qh {f:ay->(ah Comprehension)->b9->aj}{P:ay->Prop}{x:ay} (h:um x f=ag) (K:∀ (a:ay) (b:ah Comprehension) (d:b9) (p:Pos),f a b d=ag->P (.ListComp a b d p)):P x:=
 if q:x.ctorIdx=8 then PySem.Expr.ListComp.elim (motive_1:=fun x=>um x f=ag->P x) x q (fun a b d p h=>K a b d p h) h else absurd ((da q).symm.trans h) cj
@[elab_as_elim] theorem oC {f:ay->(ah CmpOp)->(ah ay)->aj}{P:ay->Prop}{x:ay} (h:sX x f=ag) (K:∀ (a:ay) (b:ah CmpOp) (d:ah ay) (p:Pos),f a b d=ag->P (.Compare a b d p)):P x:=
 if q:x.ctorIdx=15 then PySem.Expr.Compare.elim (motive_1:=fun x=>sX x f=ag->P x) x q (fun a b d p h=>K a b d p h) h else absurd ((da q).symm.trans h) cj
@[elab_as_elim] theorem rm {f:ay->(ah ay)->(ah Keyword)->Pos->aj}{P:ay->Prop}{x:ay} (h:uo x f=ag) (K:∀ (a:ay) (b:ah ay) (d:ah Keyword) (p:Pos),f a b d p=ag->P (.Call a b d p)):P x:=
 if q:x.ctorIdx=16 then PySem.Expr.Call.elim (motive_1:=fun x=>uo x f=ag->P x) x q (fun a b d p h=>K a b d p h) h else absurd ((da q).symm.trans h) cj
@[elab_as_elim] theorem nj {f:ay->Int->(aC ay)->aj}{P:ay->Prop}{x:ay} (h:kK x f=ag) (K:∀ (a:ay) (b:Int) (d:aC ay) (p:Pos),f a b d=ag->P (.FormattedValue a b d p)):P x:=
 if q:x.ctorIdx=17 then PySem.Expr.FormattedValue.elim (motive_1:=fun x=>kK x f=ag->P x) x q (fun a b d p h=>K a b d p h) h else absurd ((da q).symm.trans h) cj
@[elab_as_elim] theorem tJ {f:(ah ay)->aj}{P:ay->Prop}{x:ay} (h:rl x f=ag) (K:∀ (a:ah ay) (p:Pos),f a=ag->P (.JoinedStr a p)):P x:=
 if q:x.ctorIdx=18 then PySem.Expr.JoinedStr.elim (motive_1:=fun x=>rl x f=ag->P x) x q (fun a p h=>K a p h) h else absurd ((da q).symm.trans h) cj
@[elab_as_elim] theorem eQ {f:d8->aj}{P:ay->Prop}{x:ay} (h:gj x f=ag) (K:∀ (a:d8) (b:Nat) (p:Pos),f a=ag->P (.Constant a b p)):P x:=
 if q:x.ctorIdx=19 then PySem.Expr.Constant.elim (motive_1:=fun x=>gj x f=ag->P x) x q (fun a b p h=>K a b p h) h else absurd ((da q).symm.trans h) cj
@[elab_as_elim] theorem lb {f:ay->Str->Pos->aj}{P:ay->Prop}{x:ay} (h:lD x f=ag) (K:∀ (a:ay) (b:Str) (p:Pos),f a b p=ag->P (.Attribute a b p)):P x:=
 if q:x.ctorIdx=20 then PySem.Expr.Attribute.elim (motive_1:=fun x=>lD x f=ag->P x) x q (fun a b p h=>K a b p h) h else absurd ((da q).symm.trans h) cj
@[elab_as_elim] theorem jm {f:ay->ay->aj}{P:ay->Prop}{x:ay} (h:iQ x f=ag) (K:∀ (a:ay) (b:ay) (p:Pos),f a b=ag->P (.Subscript a b p)):P x:=
 if q:x.ctorIdx=21 then PySem.Expr.Subscript.elim (motive_1:=fun x=>iQ x f=ag->P x) x q (fun a b p h=>K a b p h) h else absurd ((da q).symm.trans h) cj
@[elab_as_elim] theorem QD {f:Str->aj}{P:ay->Prop}{x:ay} (h:EF x f=ag) (K:∀ (a:Str) (p:Pos),f a=ag->P (.Name a p)):P x:=
 if q:x.ctorIdx=23 then PySem.Expr.Name.elim (motive_1:=fun x=>EF x f=ag->P x) x q (fun a p h=>K a p h) h else absurd ((da q).symm.trans h) cj
@[elab_as_elim] theorem Hy {f:(ah ay)->aj}{P:ay->Prop}{x:ay} (h:JZ x f=ag) (K:∀ (a:ah ay) (p:Pos),f a=ag->P (.List a p)):P x:=
 if q:x.ctorIdx=24 then PySem.Expr.List.elim (motive_1:=fun x=>JZ x f=ag->P x) x q (fun a p h=>K a p h) h else absurd ((da q).symm.trans h) cj
@[elab_as_elim] theorem pD {f:(ah ay)->aj}{P:ay->Prop}{x:ay} (h:vw x f=ag) (K:∀ (a:ah ay) (b:Nat) (p:Pos),f a=ag->P (.Tuple a b p)):P x:=
 if q:x.ctorIdx=25 then PySem.Expr.Tuple.elim (motive_1:=fun x=>vw x f=ag->P x) x q (fun a b p h=>K a b p h) h else absurd ((da q).symm.trans h) cj
@[elab_as_elim] theorem Of {f:(aC ay)->(aC ay)->(aC ay)->aj}{P:ay->Prop}{x:ay} (h:EB x f=ag) (K:∀ (a:aC ay) (b:aC ay) (d:aC ay) (p:Pos),f a b d=ag->P (.Slice a b d p)):P x:=
 if q:x.ctorIdx=26 then PySem.Expr.Slice.elim (motive_1:=fun x=>EB x f=ag->P x) x q (fun a b d p h=>K a b d p h) h else absurd ((da q).symm.trans h) cj
@[elab_as_elim] theorem rk {f:(aC ay)->aj}{P:aZ->Prop}{x:aZ} (h:pE x f=ag) (K:∀ (a:aC ay) (p:Pos),f a=ag->P (.Return a p)):P x:=
 if q:x.ctorIdx=3 then PySem.Stmt.Return.elim (motive_2:=fun x=>pE x f=ag->P x) x q (fun a p h=>K a p h) h else absurd ((da q).symm.trans h) cj
@[elab_as_elim] theorem Hx {f:(ah ay)->ay->aj}{P:aZ->Prop}{x:aZ} (h:wK x f=ag) (K:∀ (a:ah ay) (b:ay) (p:Pos),f a b=ag->P (.Assign a b p)):P x:=
 if q:x.ctorIdx=5 then PySem.Stmt.Assign.elim (motive_2:=fun x=>wK x f=ag->P x) x q (fun a b p h=>K a b p h) h else absurd ((da q).symm.trans h) cj
@[elab_as_elim] theorem ni {f:ay->ig->ay->aj}{P:aZ->Prop}{x:aZ} (h:jY x f=ag) (K:∀ (a:ay) (b:ig) (d:ay) (p:Pos),f a b d=ag->P (.AugAssign a b d p)):P x:=
 if q:x.ctorIdx=7 then PySem.Stmt.AugAssign.elim (motive_2:=fun x=>jY x f=ag->P x) x q (fun a b d p h=>K a b d p h) h else absurd ((da q).symm.trans h) cj
@[elab_as_elim] theorem Hw {f:ay->ay->(ah aZ)->(ah aZ)->aj}{P:aZ->Prop}{x:aZ} (h:ED x f=ag) (K:∀ (a:ay) (b:ay) (d:ah aZ) (e:ah aZ) (p:Pos),f a b d e=ag->P (.For a b d e p)):P x:=
 if q:x.ctorIdx=9 then PySem.Stmt.For.elim (motive_2:=fun x=>ED x f=ag->P x) x q (fun a b d e p h=>K a b d e p h) h else absurd ((da q).symm.trans h) cj
@[elab_as_elim] theorem JV {f:ay->(ah aZ)->(ah aZ)->aj}{P:aZ->Prop}{x:aZ} (h:Ac x f=ag) (K:∀ (a:ay) (b:ah aZ) (d:ah aZ) (p:Pos),f a b d=ag->P (.While a b d p)):P x:=
 if q:x.ctorIdx=11 then PySem.Stmt.While.elim (motive_2:=fun x=>Ac x f=ag->P x) x q (fun a b d p h=>K a b d p h) h else absurd ((da q).symm.trans h) cj
@[elab_as_elim] theorem Vj {f:ay->(ah aZ)->(ah aZ)->aj}{P:aZ->Prop}{x:aZ} (h:QC x f=ag) (K:∀ (a:ay) (b:ah aZ) (d:ah aZ) (p:Pos),f a b d=ag->P (.If a b d p)):P x:=
 if q:x.ctorIdx=12 then PySem.Stmt.If.elim (motive_2:=fun x=>QC x f=ag->P x) x q (fun a b d p h=>K a b d p h) h else absurd ((da q).symm.trans h) cj
@[elab_as_elim] theorem JX {f:(aC ay)->(aC ay)->aj}{P:aZ->Prop}{x:aZ} (h:Ae x f=ag) (K:∀ (a:aC ay) (b:aC ay) (p:Pos),f a b=ag->P (.Raise a b p)):P x:=
 if q:x.ctorIdx=16 then PySem.Stmt.Raise.elim (motive_2:=fun x=>Ae x f=ag->P x) x q (fun a b p h=>K a b p h) h else absurd ((da q).symm.trans h) cj
@[elab_as_elim] theorem QB {f:(ah aZ)->(ah ExceptHandler)->(ah aZ)->(ah aZ)->aj}{P:aZ->Prop}{x:aZ} (h:JW x f=ag) (K:∀ (a:ah aZ) (b:ah ExceptHandler) (d:ah aZ) (e:ah aZ) (p:Pos),f a b d e=ag->P (.Try a b d e p)):P x:=
 if q:x.ctorIdx=17 then PySem.Stmt.Try.elim (motive_2:=fun x=>JW x f=ag->P x) x q (fun a b d e p h=>K a b d e p h) h else absurd ((da q).symm.trans h) cj
@[elab_as_elim] theorem Oh {f:PySem.Expr->aj}{P:aZ->Prop}{x:aZ} (h:EE x f=ag) (K:∀ (a:PySem.Expr) (p:Pos),f a=ag->P (.Expr a p)):P x:=
 if q:x.ctorIdx=24 then PySem.Stmt.Expr.elim (motive_2:=fun x=>EE x f=ag->P x) x q (fun a p h=>K a p h) h else absurd ((da q).symm.trans h) cj
@[elab_as_elim] theorem Og {f:aj}{P:aZ->Prop}{x:aZ} (h:EC x f=ag) (K:∀ (p:Pos),f=ag->P (.Pass p)):P x:=
 if q:x.ctorIdx=25 then PySem.Stmt.Pass.elim (motive_2:=fun x=>EC x f=ag->P x) x q (fun p h=>K p h) h else absurd ((da q).symm.trans h) cj
@[elab_as_elim] theorem JY {f:aj}{P:aZ->Prop}{x:aZ} (h:Af x f=ag) (K:∀ (p:Pos),f=ag->P (.Break p)):P x:=
 if q:x.ctorIdx=26 then PySem.Stmt.Break.elim (motive_2:=fun x=>Af x f=ag->P x) x q (fun p h=>K p h) h else absurd ((da q).symm.trans h) cj
@[elab_as_elim] theorem gR {n:Str}{P:ay->Prop}{y:ay} (h:nq n y=ag) (K:∀ p,P (.Name n p)):P y:=QD (P:=P) h fun id p h=>(eq_of_beq h:id=n)▸K p
@[elab_as_elim] theorem mM {n:Str}{g:ah ay->aj}{P:ay->Prop}{y:ay} (h:sY n y g=ag) (K:∀ q xs p,g xs=ag->P (.Call (.Name n q) xs [] p)):P y:=
 rm (P:=P) h fun f xs Kj p h=>gR (P:=fun f=>P (.Call f xs Kj p)) (aU (aU h)) fun q=>tp (P:=fun Kj=>P (.Call (.Name n q) xs Kj p)) (bx (aU h)) (K q xs p (bx h))
@[elab_as_elim] theorem lF {sc:b9}{e:E}{es:Es}{l:ah ay}{P:ah ay->Prop} (h:uV sc (.cons e es) l=ag) (K:∀ x xs,mE sc e x=ag->uV sc es xs=ag->x.ctorIdx≠22->P (x::xs)):P l:=match l,h with
 |[],h=>by contradiction
 |x::xs,h=>K x xs (bx (aU h)) (bx h) (l7.mp (aU (aU h)))
def SE (e:E):Prop:=∀ {k:Kx}{rz:aj}{L:bZ}{σ:Sx}{x:ay}{P:PV}{X:fj},At k L σ->mE k.sc e x=ag->wE k.C e L σ.H P (lZ X L)->W k rz (eval x k.env) (Ok k L σ P) X σ
def Me (e:Es):Prop:=∀ {k:Kx}{rz:aj}{L:bZ}{σ:Sx}{x:ah ay}{P:ah V->Hp->Prop}{X:fj}{pos:Pos},At k L σ->uV k.sc e x=ag->wEs k.C e L σ.H P (lZ X L)->W k rz (spliced (backTo pos (starEach x k.env))) (Oks k L σ P) X σ
def ST (e:E):Prop:=∀ {k:Kx}{rz:aj}{L:bZ}{σ:Sx}{x:ay}{R:PV}{P:aj->Hp->Prop}{X:fj},At k L σ->mE k.sc e x=ag->wE k.C e L σ.H R (lZ X L)->(∀ v H,R v H->Got (truth H v) fun t=>P t H)->
 W k rz (isTrue x k.env (eval x k.env)) (WD k L σ P) X σ
def SB (e:Es):Prop:=∀ {k:Kx}{rz j:aj}{L:bZ}{σ:Sx}{x:ah ay}{P:PV}{X:fj}{pos:Pos},At k L σ->uV k.sc e x=ag->wB k.C j e L σ.H P (lZ X L)->W k rz (boolOp pos (cond j .And .Or) (evalEach x k.env)) (Ok k L σ P) X σ
def SBt (e:Es):Prop:=∀ {k:Kx}{rz j:aj}{L:bZ}{σ:Sx}{x:ah ay}{R:PV}{P:aj->Hp->Prop}{X:fj},At k L σ->uV k.sc e x=ag->wB k.C j e L σ.H R (lZ X L)->(∀ v H,R v H->Got (truth H v) fun t=>P t H)->
 W k rz (allTrue (cond j .And .Or) x k.env) (WD k L σ P) X σ
section
variable {k:Kx}{rz:aj}{L:bZ}{σ ρ:Sx}{x:ay}{P Q':PV}{X:fj}{α:Type}{e:E}{Q:α->Sx->Prop}
namespace W
theorem nE {m:Sem av}{f:av->Sem α} (h:W k rz m (Ok k L σ P) X ρ) (K:∀ v τ x,er τ.g v x->σ.g.le τ.g->At k L τ->P x τ.H->W k rz (f v) Q X τ):W k rz (m>>=f) Q X ρ:=bind h fun v τ o=>match o with |.mk x e l z q=>K v τ x e l z q
theorem YS {m:Sem av}{Q:av->Sx->Prop} (h:W k rz m (Ok k L σ P) X ρ) (K:∀ v τ x,er τ.g v x->σ.g.le τ.g->At k L τ->P x τ.H->Q v τ):W k rz m Q X ρ:=bT h fun v τ o=>match o with |.mk x e l z q=>K v τ x e l z q
theorem Fx {m:Sem (ah av)}{f:ah av->Sem α}{P:ah V->Hp->Prop} (h:W k rz m (Oks k L σ P) X ρ) (K:∀ v τ x,dG (er τ.g) v x->σ.g.le τ.g->At k L τ->P x τ.H->W k rz (f v) Q X τ):W k rz (m>>=f) Q X ρ:=bind h fun v τ o=>match o with |.mk x e l z q=>K v τ x e l z q
theorem qr {m:Sem aj}{f:aj->Sem α}{P:aj->Hp->Prop} (h:W k rz m (WD k L σ P) X ρ) (K:∀ v τ,σ.g.le τ.g->At k L τ->P v τ.H->W k rz (f v) Q X τ):W k rz (m>>=f) Q X ρ:=bind h fun v τ o=>match o with |.mk l z q=>K v τ l z q
theorem Vr {m:Sem aj}{Q:aj->Sx->Prop}{P:aj->Hp->Prop} (h:W k rz m (WD k L σ P) X ρ) (K:∀ v τ,σ.g.le τ.g->At k L τ->P v τ.H->Q v τ):W k rz m Q X ρ:=bT h fun v τ o=>match o with |.mk l z q=>K v τ l z q
theorem vW {m:Sem cR}{f:cR->Sem α}{P:Hp->Prop} (h:W k rz m (Oku k L σ P) X ρ) (K:∀ τ,σ.g.le τ.g->At k L τ->P τ.H->W k rz (f ()) Q X τ):W k rz (m>>=f) Q X ρ:=bind h fun v τ o=>match o with |.mk l z q=>K τ l z q
theorem later {m:Sem av} (l:σ.g.le ρ.g){τ:Sx} (h:W k rz m (Ok k L ρ P) X τ):W k rz m (Ok k L σ P) X τ:=bT h fun _ _=>Ok.from l
theorem EU {m:Sem av}{hp:bB}{tk:Nat} (l:σ.g.le ρ.g){τ:Sx} (h:W k rz m (Ok k L (ρ.up hp tk) P) X τ):W k rz m (Ok k L σ P) X τ:=bT h fun _ _=>Ok.from (τ:=ρ.up hp tk) l
theorem uv {m:Sem aj}{P:aj->Hp->Prop} (l:σ.g.le ρ.g){τ:Sx} (h:W k rz m (WD k L ρ P) X τ):W k rz m (WD k L σ P) X τ:=Vr h fun _ _ l' z q=>.mk (l.trans l') z q
theorem eq {m m':Sem α} (e:m=m') (h:W k rz m' Q X σ):W k rz m Q X σ:=e▸h
theorem rel {vs keep:ah av}{f:cR->Sem α} (h:W k rz (f ()) Q X σ):W k rz (PySem.release vs keep>>=f) Q X σ:=bind (P:=fun _ τ=>τ=σ) (release rfl) fun _ _ e=>e▸h
theorem ite {c:Prop} [cN c] {a b:Sem α} (h:c->W k rz a Q X σ) (h':¬ c->W k rz b Q X σ):W k rz (if c then a else b) Q X σ:=if q:c then eq (a8 q) (h q) else eq (bb q) (h' q)
end W
theorem SE.step (S:SE e){f:av->Sem α} (z:At k L σ) (hm:mE k.sc e x=ag) (h:wE k.C e L σ.H P (lZ X L)) (K:∀ v τ x,er τ.g v x->σ.g.le τ.g->At k L τ->P x τ.H->W k rz (f v) Q X τ):W k rz (eval x k.env>>=f) Q X σ:=W.nE (S z hm h) K
theorem SE.pA (S:SE e){f:av->Sem α}{vs:ah av} (z:At k L σ) (hm:mE k.sc e x=ag) (h:wE k.C e L σ.H P (lZ X L)) (K:∀ v τ x,er τ.g v x->σ.g.le τ.g->At k L τ->P x τ.H->W k rz (f v) Q X τ):W k rz (holding vs (eval x k.env)>>=f) Q X σ:=W.nE (W.holding (S z hm h)) K
theorem Wr:SE .none:=fun{k rz L σ x P X} z hm h=>eQ hm fun c n p hc=>Oi hc fun _=>W.pure (z.now (x:=.none) rfl h)
theorem Wz {b:aj}:SE (.bool b):=fun{k rz L σ x P X} z hm h=>eQ hm fun c n p hc=>wM hc fun d hd=>W.pure (z.now (x:=.bool b) (aW Value.bool (eq_of_beq hd)) h)
theorem aaj {i:Int}:SE (.int i):=fun{k rz L σ x P X} z hm h=>eQ hm fun c n p hc=>QI hc fun d hd=>W.any (wpAny_Constant_int (z.HD (eq_of_beq hd) h))
theorem GC:SE .cK:=fun{k rz L σ x P X} z hm h=>eQ hm fun c n p hc=>vx hc fun s hs=>W.any (Gx (z.Pj (x:=.str s) ⟨_,rfl⟩ (h s (ij hs))))
theorem HM (z:At k L σ){x:Nm}{v:V} (h:L x=aa v){P:av->Sx->Prop} (K:∀ u,er σ.g u v->P u σ):W k rz (loadName k.env (dQ x)) P X σ:=by
 obtain⟨u,e,a⟩:=z.loc x v h
 have q:fM (P u) σ.s:=⟨σ.g,σ.H,K u e⟩
 cases a with
 |loc a m hn hv=>exact W.any (wpAny_loadName_local k.kind a hn hv q)
 |cell a c hc hi=>
  rcases a with a |a
  ·exact W.any (wpAny_loadName_cell k.kind a hc hi q)
  ·exact W.any (wpAny_loadName_free k.kind a hc hi q (An x).2)
theorem W.Name {n:Str}{p:Pos}{Q:av->Sx->Prop} (hd:(n==("__debug__":Str))=ao) (h:W k rz (loadName k.env n) Q X σ):W k rz (eval (.Name n p) k.env) Q X σ:=.eq (eval_Name k.env n p hd) (.cY h)
theorem aad {x:Nm}:SE (.aB x):=fun{k rz L σ y P X} z hm h=>gR hm fun p=>W.Name (An x).1 (match h with |.mk v e q=>HM z e fun u eu=>z.now eu q)
theorem Dl {n:Str} (hg:oX k.sc n=ag):loadName k.env n=loadGlobal k.env n:=by
 have hk:k.env.kindOf n=aa .globalImplicit:=eq_of_beq hg
 unfold loadName Env.blockKind
 rw[hk,k.kind]
 rfl
theorem kM {A':bF}{E':av->aF->Prop} (z:At k L σ){n:Str}{v:av} (hg:oX k.sc n=ag) (h:nsIn k.K mainGlobals n=aa (aa v)){P:av->aF->Prop} (q:P v σ.s):aO k.M A' (loadName k.env n) P E' σ.s:=by
 rw[Dl hg]
 unfold loadGlobal
 rw[k.gl]
 exact bf ((Lu z.here h).here (bW q))
theorem Ar {A':bF}{E':av->aF->Prop} (z:At k L σ){n:Str}{v:av} (hg:oX k.sc n=ag) (h:nsIn k.K mainGlobals n=aa au/\nsIn k.K builtinsNs n=aa (aa v)){P:av->aF->Prop} (q:P v σ.s):aO k.M A' (loadName k.env n) P E' σ.s:=by
 rw[Dl hg]
 unfold loadGlobal
 rw[k.gl,k.bl]
 exact bf ((Lu z.here h.1).here (bf ((Lu z.here h.2).here (bW q))))
theorem Wu {g:Nm}:SE (.glob g):=fun{k rz L σ y P X} z hm h=>gR (aU hm) fun p=>W.Name (An g).1 (match h with |.mk i e q=>(k.D.gk g i e).elim fun t ht=>W.any (kM z (bx hm) ht (z.okN (x:=.int i) ⟨t,rfl⟩ q)))
theorem Uq {bs:ah Nat}:SE (.bytes bs):=fun{k rz L σ x P X} z hm h=>eQ hm fun c n p hc=>J_ hc fun d hd=>by
 rw[eq_of_beq hd]
 exact W.any (PySem.W.Constant_bytes (z.okB rfl h))
theorem aam {op:Bo}{a b:E} (S:SE a) (T:SE b):SE (.bR op a b):=fun{k rz L σ x P X} z hm h=>Dh hm fun l o r p hh=>by
 obtain rfl:=eq_of_beq (aU (aU hh))
 rw[eval_BinOp]
 exact S.step z (bx (aU hh)) h fun v τ y e l z q=>T.pA z (bx hh) q fun w τ' y' e' l' z q=>W.cY (W.operate ((z.R5 (e.le l') e' q).later (l.trans l')))
theorem aag {a:E} (S:SE a):SE (.neg a):=fun{k rz L σ x P X} z hm h=>oB hm fun o y p hh=>by
 obtain rfl:=eq_of_beq (aU hh)
 rw[Tx]
 refine S.step z (bx hh) h fun v τ y e l z q=>W.cY (W.holding ?_)
 obtain⟨i,rfl,q⟩:=q
 obtain⟨t,rfl⟩:=e
 exact(W.any (Z0 (z.HD rfl q))).later l
theorem aae {a:E} (S:SE a):SE (.kL a):=fun{k rz L σ x P X} z hm h=>oB hm fun o y p hh=>by
 obtain rfl:=eq_of_beq (aU hh)
 rw[Tx]
 refine S.step z (bx hh) h fun v τ y e l z q=>W.cY (W.holding ?_)
 obtain⟨t,ht,q⟩:=q
 exact(W.any (PySem.not_value (z.wD ht e fun tk=>z.Pj (x:=.bool (!t)) rfl q))).later l
theorem P2 (S:SE e){R:PV}{P:aj->Hp->Prop} (z:At k L σ) (hm:mE k.sc e x=ag) (h:wE k.C e L σ.H R (lZ X L)) (hR:∀ v H,R v H->Got (truth H v) fun t=>P t H)
  (he:isTrue x k.env (eval x k.env)=(do let v <- eval x k.env;standAt x.pos;holding [v] (truthy v))):W k rz (isTrue x k.env (eval x k.env)) (WD k L σ P) X σ:=by
 rw[he]
 refine S.step z hm h fun v τ y e l z q=>W.cY (W.holding ?_)
 obtain⟨t,ht,q⟩:=hR _ _ q
 exact(W.any (z.wD ht e fun tk=>z.adD (b:=t) q)).uv l
theorem Z6 {a:E} (S:ST a):ST (.kL a):=fun{k rz L σ x R P X} z hm h hR=>oB hm fun o y p hh=>by
 obtain rfl:=eq_of_beq (aU hh)
 rw[arm_isTrue_UnaryOp]
 refine W.qr (S (P:=fun t H=>P (!t) H) z (bx hh) h fun v H q=>?_) fun b τ l z q=>W.pure (.mk l z q)
 obtain⟨t,ht,q⟩:=q
 obtain⟨t',ht',q⟩:=hR _ _ q
 cases ht'
 exact⟨t,ht,q⟩
theorem aai {d a b:E} (S:ST d) (T:SE a) (U:SE b):SE (.ite d a b):=fun{k rz L σ x P X} z hm h=>De hm fun t u v p hh=>by
 rw[arm_eval_IfExp]
 refine W.qr (S (P:=fun t H=>cond t (wE k.C a L H P (lZ X L)) (wE k.C b L H P (lZ X L))) z (aU (aU hh)) h fun v H q=>q) fun t τ l z q=>?_
 cases t
 ·exact W.eq (bb cj) ((U z (bx hh) q).later l)
 ·exact W.eq (a8 rfl) ((T z (bx (aU hh)) q).later l)
theorem Z7 {d a b:E} (S:ST d) (T:ST a) (U:ST b):ST (.ite d a b):=fun{k rz L σ x R P X} z hm h hR=>De hm fun t u v p hh=>by
 rw[arm_isTrue_IfExp]
 refine W.qr (S (P:=fun t H=>cond t (wE k.C a L H R (lZ X L)) (wE k.C b L H R (lZ X L))) z (aU (aU hh)) h fun v H q=>q) fun t τ l z q=>?_
 cases t
 ·exact W.eq (bb cj) ((U z (bx hh) q hR).uv l)
 ·exact W.eq (a8 rfl) ((T z (bx (aU hh)) q hR).uv l)
theorem aal {op:Co}{a b:E} (S:SE a) (T:SE b):SE (.cB a op b):=fun{k rz L σ x P X} z hm h=>oC hm fun l os rs p hh=>ry hh fun o hh=>ry hh fun r hh=>by
 obtain rfl:=eq_of_beq (aU (aU (aU hh)))
 rw[eval_Compare1,X1 (not_of (bx hh))]
 exact S.step z (bx (aU (aU hh))) h fun v τ y e l z q=>T.pA z (bx (aU hh)) q fun w τ' y' e' l' z q=>W.cY (W.operate ((W.any (z.rN q (e.le l') e' fun b q=>z.okN (x:=.bool b) rfl q)).later (l.trans l')))
theorem Z8 {op:Co}{a b:E} (S:SE a) (T:SE b):ST (.cB a op b):=fun{k rz L σ x R P X} z hm h hR=>oC hm fun l os rs p hh=>ry hh fun o hh=>ry hh fun r hh=>by
 obtain rfl:=eq_of_beq (aU (aU (aU hh)))
 rw[PySem.isTrue_Compare1,X1 (not_of (bx hh))]
 refine S.step z (bx (aU (aU hh))) h fun v τ y e l z q=>T.pA z (bx (aU hh)) q fun w τ' y' e' l' z q=>W.cY ?_
 refine W.bind (W.operate (W.any (z.rN (P:=fun v s'=>fM (fun ρ=>ρ=τ'/\∃ b,v=.bool b/\R (.bool b) τ'.H) s') q (e.le l') e' fun b q=>⟨τ'.g,τ'.H,rfl,b,rfl,q⟩))) fun c ρ hc=>W.holding ?_
 obtain⟨rfl,b,rfl,q⟩:=hc
 obtain⟨t,ht,q⟩:=hR _ _ q
 cases ht
 exact(W.any (xu (z.abc q))).uv (l.trans l')
end
section
variable {k:Kx}{rz:aj}{L:bZ}{σ ρ:Sx}{x:ay}{P Q':PV}{X:fj}{α:Type}{e:E}
theorem Aw {o o2:CmpOp}{r r2:ay} (h:behindInMarks o2 r2=ao):lastMarks [o,o2] [r,r2]=ao:=h
theorem At.aca (z:At k L σ){op:Co}{x y:V}{v w:av}{R:aj->Prop} (h:yb op x y σ.H R) (ex:er σ.g v x) (ey:er σ.g w y){α:Type}{f:av->Sem α}{Q:α->Sx->Prop} (K:∀ b,R b->W k rz (f (.bool b)) Q X σ):
  W k rz (PySem.holding [v,w] (compareOp op.op v w)>>=f) Q X σ:=
 W.bind (W.holding (W.any (z.rN (P:=fun c s'=>fM (fun ρ=>ρ=σ/\∃ b,c=.bool b/\R b) s') h ex ey fun b q=>⟨σ.g,σ.H,rfl,b,rfl,q⟩))) fun c ρ hc=>match hc with |⟨e1,b,e2,q⟩=>by subst e1 e2;exact K b q
theorem W.aaR (z:At k L σ){b:aj}{vs:ah av}{α:Type}{f:aj->Sem α}{Q:α->Sx->Prop} (h:W k rz (f b) Q X σ):W k rz (PySem.holding vs (truthy (.bool b))>>=f) Q X σ:=
 W.bind (P:=fun t ρ=>t=b/\ρ=σ) (W.holding (W.any (xu ⟨σ.g,σ.H,rfl,rfl⟩))) fun t ρ hc=>match hc with |⟨e1,e2⟩=>by subst e1 e2;exact h
theorem Wy {op Vh:Co}{a b d:E} (S:SE a) (T:SE b) (U:SE d):SE (.KC a op b Vh d):=fun{k rz L σ x P X} z hm h=>oC hm fun l os rs p hh=>Oz hh fun o o2 hh=>Oz hh fun r r2 hh=>by
 obtain rfl:=eq_of_beq (fG (aU hh))
 obtain rfl:=eq_of_beq (bx (fG hh))
 rw[arm_eval_Compare,T9 _ _ _ (Aw (not_of (bx hh)))]
 refine S.step z (bx (aU (aU (aU hh)))) h fun v τ y e l z q=>?_
 refine T.pA z (bx (aU (aU hh))) q fun w τ' y' e' l' z q=>W.cY (z.aca q (e.le l') e' fun b q=>W.rel (W.aaR z ?_))
 cases b
 ·exact W.pure (.mk (.bool ao) rfl (l.trans l') z q)
 ·exact U.pA z (bx (aU hh)) q fun u τ3 y3 e3 l3 z q=>W.cY (W.operate (W.later (l.trans (l'.trans l3)) (W.any (z.rN q (e'.le l3) e3 fun b q=>z.okN (x:=.bool b) rfl q))))
theorem Wi {op Vh:Co}{a b d:E} (S:SE a) (T:SE b) (U:SE d):ST (.KC a op b Vh d):=fun{k rz L σ x R P X} z hm h hR=>oC hm fun l os rs p hh=>Oz hh fun o o2 hh=>Oz hh fun r r2 hh=>by
 obtain rfl:=eq_of_beq (fG (aU hh))
 obtain rfl:=eq_of_beq (bx (fG hh))
 rw[arm_isTrue_Compare,T9 _ _ _ (Aw (not_of (bx hh)))]
 have fin:∀ {b:aj}{H:Hp},R (.bool b) H->P b H:=fun q=>match hR _ _ q with |.mk t e q=>eH e▸q
 refine S.step z (bx (aU (aU (aU hh)))) h fun v τ y e l z q=>?_
 refine T.pA z (bx (aU (aU hh))) q fun w τ' y' e' l' z q=>W.cY (z.aca q (e.le l') e' fun b q=>W.rel (W.aaR z ?_))
 cases b
 ·exact W.pure (.mk (l.trans l') z (fin q))
 ·exact U.pA z (bx (aU hh)) q fun u τ3 y3 e3 l3 z q=>W.cY (W.bind (P:=fun c ρ=>ρ=τ3/\∃ b,c=.bool b/\R (.bool b) τ3.H) (W.operate (W.any (z.rN q (e'.le l3) e3 fun b q=>⟨τ3.g,τ3.H,rfl,b,rfl,q⟩))) fun c ρ hc=>W.holding (by
   obtain⟨rfl,b,rfl,q⟩:=hc
   exact(W.any (xu (z.abc (fin q)))).uv (l.trans (l'.trans l3))))
theorem qj {sc:b9}{l:ah ay} (h:uV sc .nil l=ag):l=[]:=tp (P:=fun l=>l=[]) h rfl
theorem WB {e:E}{es:Es} (S:SE e) (T:SB es):SB (.cons e es):=fun{k rz j L σ x P X pos} z hm h=>lF hm fun x xs h1 h2 h0=>by
 cases es with
 |nil=>obtain rfl:=qj h2;exact S z h1 h
 |cons e' UE=>
  refine lF (P:=fun xs=>W k rz (boolOp pos (cond j .And .Or) (evalEach (x::xs) k.env)) (Ok k L σ P) X σ) h2 fun x' xs h3 h4 h5=>?_
  have t:∀ {τ:Sx},At k L τ->wB k.C j (.cons e' UE) L τ.H P (lZ X L)->W k rz (boolOp pos (cond j .And .Or) (evalEach (x'::xs) k.env)) (Ok k L τ P) X τ:=fun z h=>T z (eU.mpr ⟨eU.mpr ⟨l7.mpr h5,h3⟩,h4⟩) h
  refine S.step z h1 h fun v τ y e l z q=>W.cY ?_
  obtain⟨b,hb,q⟩:=q
  refine W.bind (P:=fun c ρ=>c=b/\∃ tk,ρ=τ.up τ.s.heap tk) (W.holding (W.any (z.wD hb e fun tk=>⟨τ.g,τ.H,rfl,tk,rfl⟩))) fun c ρ hc=>?_
  obtain⟨rfl,tk,rfl⟩:=hc
  cases j<;>cases c
  ·exact W.EU l (t (z.tok (tk:=tk)) q)
  ·exact W.pure (.mk y e l z.tok q)
  ·exact W.pure (.mk y e l z.tok q)
  ·exact W.EU l (t (z.tok (tk:=tk)) q)
theorem Ur {e:E}{es:Es} (S:ST e) (T:SBt es):SBt (.cons e es):=fun{k rz j L σ x R P X} z hm h hR=>lF hm fun x xs h1 h2 h0=>by
 rw[arm_allTrue_cons]
 cases es with
 |nil=>
  obtain rfl:=qj h2
  refine W.qr (S z h1 h hR) fun b τ l z q=>?_
  cases j<;>cases b<;>exact W.pure (.mk l z q)
 |cons e' UE=>
  refine W.qr (S (P:=fun t H=>cond (t==j) (wB k.C j (.cons e' UE) L H R (lZ X L)) (P t H)) z h1 h fun v H q=>?_) fun b τ l z q=>?_
  ·obtain⟨t,ht,q⟩:=q
   refine⟨t,ht,?_⟩
   generalize (t==j)=b at q ⊢
   cases b
   ·obtain⟨t',ht',q⟩:=hR _ _ q
    rw[ht] at ht';cases ht';exact q
   ·exact q
  ·cases j<;>cases b
   ·exact(T z h2 q hR).uv l
   ·exact W.pure (.mk l z q)
   ·exact W.pure (.mk l z q)
   ·exact(T z h2 q hR).uv l
theorem Pe {j:aj}{es:Es} (T:SB es):SE (.b6 j es):=fun{k rz L σ x P X} z hm h=>Ah hm fun o xs p hh=>by
 obtain rfl:=eq_of_beq (aU hh)
 exact T z (bx hh) h
theorem Pa {j:aj}{es:Es} (T:SBt es):ST (.b6 j es):=fun{k rz L σ x R P X} z hm h hR=>Ah hm fun o xs p hh=>by
 obtain rfl:=eq_of_beq (aU hh)
 rw[arm_isTrue_BoolOp]
 exact T z (bx hh) h hR
theorem Be {v:ay}{a:Str}{env:Env}{t:Sem av} (h:Am v=ag):attributeBase v a env t=t:=by
 cases v with
 |Call f xs Kj p=>
  cases f with
  |Name id q=>
   cases xs with
   |nil=>
    cases Kj with
    |nil=>
     have n:(id==("super":Str))=ao:=not_of h
     unfold attributeBase
     exact a8 (by rw[show(id != ("super":Str))=!(id==("super":Str)) from rfl,n];rfl)
    |cons=>rfl
   |cons=>rfl
  |_=>rfl
 |_=>rfl
theorem WA {e:E}{f:Nm} (S:SE e):SE (.aV e f):=fun{k rz L σ x P X} z hm h=>lb hm fun v a p hh=>by
 obtain rfl:=eq_of_beq (aU (aU hh))
 rw[arm_eval_Attribute,Be (bx hh)]
 refine S.step z (bx (aU hh)) h fun v τ y e l z q=>W.cY ?_
 obtain⟨u,hu,q⟩:=q
 exact W.nE (W.holding (W.any (z.MY hu e q))) fun r τ' y' e' l' z q=>W.leaf (XJ ⟨τ'.g,τ'.H,W.pure (.mk y' e' (l.trans l') z q)⟩)
theorem W.sub {a b:ay}{p:Pos}{Q:av->Sx->Prop} (h:W k rz (eval a k.env>>=fun o=>PySem.holding [o] (eval b k.env)>>=fun i=>PySem.standAt p>>=fun _=>subscriptTail a b o i) Q X σ):W k rz (eval (.Subscript a b p) k.env) Q X σ:=.eq (arm_eval_Subscript ..) h
theorem aah {e:E}{f:Nm} (S:SE e):SE (.key e f):=fun{k rz L σ x P X} z hm h=>jm hm fun v sl p hh=>eQ (aU hh) fun c n q hc=>vx hc fun s hs=>W.sub (S.step z (bx hh) h fun o τ y e l z q=>match q with
 |.mk u hu q=>by
  obtain rfl:=eq_of_beq hs
  refine W.bind (P:=fun i ρ=>i=.str (dQ f) τ.s.toks/\ρ=τ.up τ.s.heap (τ.s.toks+1)) (W.holding (W.any (Gx ⟨τ.g,τ.H,rfl,rfl⟩))) fun i ρ hi=>?_
  obtain⟨rfl,rfl⟩:=hi
  exact W.cY (W.EU l (W.any (z.tok.VN hu e q))))
theorem aak {e i:E} (S:SE e) (T:SE i):SE (.idx e i):=fun{k rz L σ x P X} z hm h=>jm hm fun v sl p hh=>W.sub (S.step z (aU hh) h fun o τ y e l z q=>T.pA z (bx hh) q fun i τ' y' e' l' z q=>W.cY ((W.any (z.Y1 q (e.le l') e')).later (l.trans l')))
theorem Uw {e:E} (h:e.yD=ag):e=.none:=by cases e with
 |none=>rfl
 |_=>exact absurd h cj
theorem Qx (S:SE e){lo:aC ay} (z:At k L σ) (hm:mO (mE k.sc e) e.yD lo=ag) (h:wE k.C e L σ.H P (lZ X L)):W k rz (valueOrNone (evalOpt lo k.env)) (Ok k L σ P) X σ:=by
 cases lo with
 |none=>obtain rfl:=Uw hm;exact W.pure (z.now (x:=.none) rfl h)
 |some x=>exact S z (bx hm) h
theorem Um {fz:aj}{e a b:E} (S:SE e) (T:SE a) (U:SE b):SE (.slice fz e a b):=fun{k rz L σ x P X} z hm h=>jm hm fun v0 sl p hh=>Of hh fun lo hi st p2 hh=>QL (aU (aU (aU hh))) (by
 refine W.sub (W.eq (aW (fun t=>eval v0 k.env>>=t) (funext fun o=>by rw[arm_eval_Slice])) ?_)
 refine S.step z (bx (aU (aU hh))) h fun v τ y e l z q=>?_
 refine W.bind (P:=fun i ρ=>∃ τ3:Sx,σ.g.le τ3.g/\At k L τ3/\∃ l' u' lo' Pn,er τ3.g v y/\er τ3.g l' lo'/\er τ3.g u' Pn/\vh fz y lo' Pn τ3.H P/\i=.ref τ3.s.heap.objs.size/\ρ=τ3.up (τ3.s.heap.push {cls:=.type "slice",data:=.fields #[l',u',.none]}) τ3.s.toks) (W.holding ?_) fun i ρ hi=>W.cY ?_
 ·refine W.nE (Qx T z (bx (aU hh)) q) fun l' τ2 lo' e2 l2 z q=>W.nE (W.holding (Qx U z (bx hh) q)) fun u' τ3 Pn e3 l3 z q=>W.bind (P:=fun s ρ=>s=.none/\ρ=τ3) (W.holding (W.pure ⟨rfl,rfl⟩)) fun s ρ hs=>?_
  obtain⟨rfl,rfl⟩:=hs
  exact W.any (bf (Lz (bW ⟨ρ.g,ρ.H,ρ,l.trans (l2.trans l3),z,l',u',lo',Pn,e.le (l2.trans l3),e2.le l3,e3,q,rfl,rfl⟩)))
 ·obtain⟨τ3,l3,z,l',u',lo',Pn,e,e2,e3,q,rfl,rfl⟩:=hi
  exact W.EU l3 (W.any ((z.grow fun _ _ h=>jN _ h).P5 q e e2 e3 (ZX _ _ _ _))))
end
theorem wG {x:ay}{xs:ah ay}{env:Env} (h:x.ctorIdx≠22):starEach (x::xs) env=(ao,eval x env)::starEach xs env:=by
 cases x<;>first |rfl |exact absurd rfl h
section
variable {k:Kx}{rz:aj}{L:bZ}{σ ρ:Sx}{x:ay}{P Q':PV}{X:fj}{α:Type}{e:E}{es:Es}{pos:Pos}
theorem At.oks (z:At k L σ){vs:ah av}{xs:ah V}{P:ah V->Hp->Prop} (e:dG (er σ.g) vs xs) (q:P xs σ.H):Oks k L σ P vs σ:=.mk xs e (.refl _) z q
theorem zC:Me .nil:=fun{k rz L σ x P X pos} z hm h=>by
 obtain rfl:=qj hm
 exact W.pure (z.oks .nil h)
theorem sF (S:SE e) (T:Me es):Me (.cons e es):=fun{k rz L σ x P X pos} z hm h=>lF hm fun x xs h1 h2 h0=>by
 rw[wG h0]
 refine S.step (f:=fun v=>_) z h1 h fun v τ y e l z q=>?_
 refine W.eq (bb cj) (W.bind (P:=fun b ρ=>b=[v]/\ρ=τ) (W.pure ⟨rfl,rfl⟩) fun b ρ hb=>?_)
 obtain⟨rfl,rfl⟩:=hb
 exact W.Fx (W.holding (T (pos:=pos) z h2 q)) fun vs τ' ys e' l' z q=>W.pure (.mk (y::ys) (.cons (e.le l') e') (l.trans l') z q)
theorem Wt {fz:aj} (S:Me es):SE (.list fz es):=fun{k rz L σ x P X} z hm h=>Hy hm fun xs p hh=>W.eq (arm_eval_List ..) (W.cY (W.Fx (S z hh h) fun vs τ ys e l z q=>
 W.later l (W.any (S5 (z.QV (vs:=vs.toArray) e q) (e.length▸f_ q.1)))))
theorem Ul (S:Me es):SE (.tuple es):=fun{k rz L σ x P X} z hm h=>pD hm fun xs n p hh=>W.eq (Ti ..) (W.cY (W.Fx (S z hh h) fun vs τ ys e l z q=>
 W.later l (W.any (Tg (z.abh (x:=.tup ys) rfl (.mk _ rfl (a8 rfl)) (fun τ l h=>.mk vs.toArray 0 h (e.bT fun _ _ e=>e.le l)) q.2) (e.length▸f_ q.1)))))
theorem ti {f:av}{xs:ah ay}{P:ah V->Hp->Prop} (S:Me es) (z:At k L σ) (hm:uV k.sc es xs=ag) (h:wEs k.C es L σ.H P (lZ X L)):W k rz (evalArgs f ag (backTo pos (starEach xs k.env)) []) (fun a τ=>a.kw=[]/\Oks k L σ P a.pos τ) X σ:=by
 have s:=S (rz:=rz) (pos:=pos) z hm h
 cases es with
 |nil=>
  obtain rfl:=qj hm
  exact W.any (evalArgs_nil3 ⟨σ.g,σ.H,rfl,z.oks .nil h⟩)
 |cons e es=>
  revert s
  refine lF (P:=fun xs=>W k rz (spliced (backTo pos (starEach xs k.env))) (Oks k L σ P) X σ->W k rz (evalArgs f ag (backTo pos (starEach xs k.env)) []) (fun a τ=>a.kw=[]/\Oks k L σ P a.pos τ) X σ) hm fun x xs _ _ h0 s=>?_
  rw[wG h0] at s ⊢
  exact I.evalArgs_plain (I.bT s (fun vs s' q=>match q with |.mk g H q=>⟨g,H,rfl,q⟩) fun _ _ z=>z)
theorem iO {sc:b9}{env:Env}:∀ {es:Es}{xs:ah ay},uV sc es xs=ag->(backTo pos (starEach xs env)).any (·.1)=ao
 |.nil,xs,hm=>by obtain rfl:=qj hm;rfl
 |.cons e es,xs,hm=>lF (P:=fun xs=>(backTo pos (starEach xs env)).any (·.1)=ao) hm fun x xs h1 h2 h0=>by
  rw[wG h0]
  exact iO h2
theorem At.spec (z:At k L σ){f:Fn}{vs:ah V}{us:ah av} (h:k.C f vs σ.H P (lZ X L)) (e:dG (er σ.g) us vs):W k rz (call (.ref (k.c.T.fA f)) us) (Ok k L σ P) X σ:=
 I.call (I.pN (k.hC f vs σ P (lZ X L) h k.A k.fr us k.hb.call k.ca z.rep z.fm e) fun r s' q=>match r,q with
  |.error e,q=>.Zo L σ z q
  |.ok (.ret v),.mk g H x e r q=>⟨g,H,.mk x e r.le (z.step r) q⟩)
theorem W.Jc {n:Str}{p:Pos}{args:ah ay}{Q:av->Sx->Prop} (hd:(n==("__debug__":Str))=ao) (h:W k rz (loadName k.env n) (fun f τ=>W k rz (callWith pos f [] (backTo pos (starEach args k.env)) []) Q X τ) X σ):W k rz (eval (.Call (.Name n p) args [] pos) k.env) Q X σ:=W.bind (W.Name hd h) fun _ _ h=>h
theorem W.callWith {f:av} {first:ah av}{args:ah (aj×Sem av)}{Q:av->Sx->Prop} (hp:args.any (·.1)=ao) (hk:keepIn k.K f=ag) (h:W k rz (evalArgs f ag args []) (fun a τ=>k.K.In τ.s.heap/\W k rz (call f (first++a.pos) a.kw) Q X τ) X σ):W k rz (PySem.callWith pos f first args []) Q X σ:=
 I.callWith_of (P:=fun h=>k.K.In h) hp (keeps_K hk) (I.bT h (fun a s' q=>match q with |.mk g H q=>q) fun _ _ z=>z)
theorem At.XB (z:At k L σ){f:Fn}{us:ah av}{vs:ah V}{xs:ah ay} (S:Me es) (hm:uV k.sc es xs=ag) (e:dG (er σ.g) us vs) (h:wEs k.C es L σ.H (fun ws H=>k.C f (vs++ws) H P (lZ X L)) (lZ X L)):
  W k rz (PySem.callWith pos (.ref (k.c.T.fA f)) us (backTo pos (starEach xs k.env)) []) (Ok k L σ P) X σ:=
 W.callWith (iO hm) (k.D.fnk f).2 (W.bT (ti S z hm h) fun a τ ha=>match ha with
  |⟨ek,.mk ws ew l z q⟩=>⟨z.here,by rw[ek];exact W.later l (z.spec q ((e.bT fun _ _ e=>e.le l).append ew))⟩)
noncomputable def plainS (s:b_):aj:=!(Str.ofString s==("__debug__":Str))
theorem Rq (f:Fn):(Str.ofString f.s==("__debug__":Str))=ao:=not_of (Sm (p:=fun f=>plainS f.s) (by decide+kernel) f)
theorem rM (f:Cn):(Str.ofString f.s==("__debug__":Str))=ao:=not_of (Bv (p:=fun f=>plainS f.s) (by decide+kernel) f)
theorem Uo {f:Fn} (S:Me es):SE (.bL f es):=fun{k rz L σ x P X} z hm h=>mM hm fun q xs p hh=>
 W.Jc (Rq f) (W.any (kM z (bx (aU hh)) (k.D.gf f (aU (aU hh))) ⟨σ.g,σ.H,z.XB (us:=[]) (vs:=[]) S (bx hh) .nil h⟩))
theorem N4 (C:ax) (us:ah av):(Code.builtin "type.__call__" ⟨.ref C::us,[]⟩).weight=1/\(Code.builtin "type.__call__" ⟨.ref C::us,[]⟩).cUnits=1/\(Code.builtin "type.__call__" ⟨.ref C::us,[]⟩).envs=[]:=by
 have g:guardIds.contains "type.__call__"=ao:=by decide+kernel
 refine⟨?_,rfl,rfl⟩
 show 0+1+(if guardIds.contains "type.__call__"=ag then 1 else 0)+0=1
 rw[g];rfl
theorem N5 (C:ax) (us:ah av):(Code.builtin "type.__call__" ⟨.ref C::us,[]⟩).guards=[]:=by
 have g:guardIds.contains "type.__call__"=ao:=by decide+kernel
 show(if guardIds.contains "type.__call__"=ag then _ else[])=[]
 rw[g];rfl
theorem PN {A:bF}{fr:ah Env}{n:Nat} (hb:Yk A n) (ca:Ca A fr) (C:ax) (us:ah av):WK (A.under (.builtin "type.__call__" ⟨.ref C::us,[]⟩)) n/\Ca (A.under (.builtin "type.__call__" ⟨.ref C::us,[]⟩)) fr:=by
 obtain⟨w1,w2,w3⟩:=N4 C us
 refine⟨⟨?_,?_⟩,ca.hd,?_,?_,ca.top⟩
 ·show A.depth+Code.weight _+6*n<=903
  rw[w1];have:=hb.depth;exact cw [A.depth,n] bJ 0x387231006151200440 0x384231006150040 this aQ
 ·show A.units+Code.cUnits _+60*n+40<=cLine
  rw[w2];have:=hb.units;exact cw [A.units,n] bJ 0x26ac232813103c1512004440 0x26ac233c13103c1500440 this aQ
 ·show pushGuards (Code.guards (.builtin "type.__call__" ⟨.ref C::us,[]⟩)) A.guards=aa []
  rw[N5,ca.gd];rfl
 ·show pushEnvs (Code.envs (.builtin "type.__call__" ⟨.ref C::us,[]⟩)) A.frames=aa fr
  rw[w3];exact ca.frames
noncomputable def yA (c:Cx) (σ:Sx) (C:Cn):Sx:=⟨{σ.s with heap:=(σ.s.heap.push emptyDict).push (instObj (c.T.cA C) σ.s.heap.objs.size)},σ.g.N' σ.s.heap.objs.size (σ.s.heap.objs.size+1),σ.H.set (σ.s.heap.objs.size+1) (.inst C [])⟩
theorem nu (h:bB):h.get? (h.objs.size+1)=au:=lj fun _ e=>absurd (Nat.lt_of_succ_lt (qw e)) (sD _)
theorem Rel.yA {c:Cx}{frs:ah ax} (R:Rep c σ){C:Cn}:Rel c frs [] σ (yA c σ C):=by
 have n0:=di σ.s.heap
 have n1:=nu σ.s.heap
 have k:∀ b o,σ.get b=aa o->((σ.s.heap.push emptyDict).push (instObj (c.T.cA C) σ.s.heap.objs.size)).get? b=aa o:=fun b o e=>jN _ (jN _ e)
 have gd:((σ.s.heap.push emptyDict).push (instObj (c.T.cA C) σ.s.heap.objs.size)).get? σ.s.heap.objs.size=aa emptyDict:=jN _ (jg _ rfl)
 have gi:((σ.s.heap.push emptyDict).push (instObj (c.T.cA C) σ.s.heap.objs.size)).get? (σ.s.heap.objs.size+1)=aa (instObj (c.T.cA C) σ.s.heap.objs.size):=by
  have:=jg (σ.s.heap.push emptyDict) (o:=instObj (c.T.cA C) σ.s.heap.objs.size) rfl
  rwa [LQ] at this
 have F0:=R.fresh n0
 have F1:=R.fresh n1
 have R1:=R.putD (a:=σ.s.heap.objs.size+1) n0 (s':=(Mine.yA c σ C).s) k ⟨_,gd⟩
 have ne:σ.s.heap.objs.size+1≠σ.s.heap.objs.size:=TH _
 have r1:Rel c frs [] σ ⟨(Mine.yA c σ C).s,σ.g.N' σ.s.heap.objs.size (σ.s.heap.objs.size+1),σ.H⟩:=⟨Gh.MN F0.d,R1,fun b o e _ _=>.refl (k b o e),fun b o e f=>⟨f.z,f.h,fun a q=>f.d a ((Gh.Eh fun q:b=_=>bP n0 (q▸e)).symm.trans q)⟩,rfl,rfl,rfl⟩
 exact r1.put (tk:=σ.s.toks) (o:=.inst C []) (fun _ e=>bP n1 e) r1.Oj ⟨F1.z,fun b q=>F1.d b ((Gh.Eh ne).symm.trans q),R.az n1,fun b o _ _ e=>e,fun b q=>R1.Jj b _ q⟩ (.mk _ gi (a8 rfl) (.mk #[] 0 gd .nil .nil) nofun)
theorem OG {α:Type}{l:ah (Nm×α)}{P:Nm->α->aj} (h:l.all (fun p=>P p.1 p.2)=ag){f:Nm}{y:α} (e:eF l f=aa y):P f y=ag:=l_.mp h _ (AH e)
theorem HR {C:Cn}{f:Fn} (h:rB C=aa f):fieldsOf C≠[]:=by
 have:=Bv (p:=fun C=>(rB C).isNone || !(fieldsOf C).isEmpty) (by decide+kernel) C
 rw[h] at this
 exact fun e=>by rw[e] at this;contradiction
theorem HG {C:Cn}{m:Nm}{f:Fn} (h:oU C m=aa f):fieldsOf C≠[]/\m∉fieldsOf C:=by
 have:=Bv (p:=fun C=>(Ak MM C.n []).all fun p=>!(fieldsOf C).isEmpty&&!(fieldsOf C).contains p.1) (by decide+kernel) C
 have:=OG (P:=fun m _=>!(fieldsOf C).isEmpty&&!(fieldsOf C).contains m) this h
 exact⟨fun e=>(by rw[e] at this;contradiction),fun hm=>by rw[XQ.mpr hm,S_,LR] at this;contradiction⟩
end
namespace FA
theorem z6:PlainAttrs "bytearray":=⟨⟨"bytearray.__getattribute__",by rw[jG,nO];kernel_rfl,by decide+kernel⟩,by rw[jG,nO];kernel_rfl⟩
theorem xS:Slot "bytearray" "append" "bytearray.append":=
 .of (owner:="bytearray") (n:="append") (by rw[jG,nO];kernel_rfl) (by decide+kernel) (by decide+kernel) (by decide+kernel)
  (by first |exact .inl (by decide+kernel) |exact .inr (by decide+kernel)) (by rw[BK];kernel_rfl)
theorem xR:Slot "bytearray" "extend" "bytearray.extend":=
 .of (owner:="bytearray") (n:="extend") (by rw[jG,nO];kernel_rfl) (by decide+kernel) (by decide+kernel) (by decide+kernel)
  (by first |exact .inl (by decide+kernel) |exact .inr (by decide+kernel)) (by rw[BK];kernel_rfl)
theorem GW:typeOf (.builtin "bytearray.append")=pure (.type "method_descriptor"):=by show builtinType _=_;rw[T8];kernel_rfl
theorem GV:typeOf (.builtin "bytearray.extend")=pure (.type "method_descriptor"):=by show builtinType _=_;rw[T8];kernel_rfl
theorem Fe:entryFor table "bytearray.append"=aa Builtin.«bytearray.append»:=LX (by kernel_rfl)
theorem Fd:entryFor table "bytearray.extend"=aa Builtin.«bytearray.extend»:=LX (by kernel_rfl)
theorem I4 (a b:av):argsOk "bytearray.append" ⟨[a,b],[]⟩:=by unfold argsOk;kernel_rfl
theorem I3 (a b:av):argsOk "bytearray.extend" ⟨[a,b],[]⟩:=by unfold argsOk;kernel_rfl
theorem Fv:typeLookup (.type "bytes") "__buffer__"=pure (aa (.builtin "bytes.__buffer__")):=by rw[jG,nO];kernel_rfl
theorem Cr:typeLookup (.type "bytes") "__release_buffer__"=pure au:=by rw[jG,nO];kernel_rfl
theorem K8:mroOf (.type "bytearray")=pure [.type "bytearray",.type "object"]:=by rw[mroOf_type];kernel_rfl
theorem Cu:typeLookup (.type "bytearray") "__new__"=pure (aa (.builtin "bytearray.__new__")):=by rw[jG,nO];kernel_rfl
theorem mF:Slot "bytearray" "__init__" "bytearray.__init__":=
 .of (owner:="bytearray") (n:="__init__") (by rw[jG,nO];kernel_rfl) (by decide+kernel) (by decide+kernel) (by decide+kernel)
  (by first |exact .inl (by decide+kernel) |exact .inr (by decide+kernel)) (by rw[BK];kernel_rfl)
theorem tg:TypeCalled "bytearray" "bytearray.__new__" "bytearray.__init__":=
 ⟨by decide+kernel,by decide+kernel,⟨_,_,K8⟩,madeBy_type K8 Cu (by decide+kernel),by decide+kernel,by rw[BK];kernel_rfl,mF⟩
theorem FD:checkTypeCall "bytearray" ⟨[],[]⟩=pure ():=by kernel_rfl
theorem Fz (a:av):checkTypeCall "bytearray" ⟨[a],[]⟩=pure ():=by kernel_rfl
theorem IP:checkBuiltinCall "bytearray.__new__" ⟨[.type "bytearray"],[]⟩=pure ():=by kernel_rfl
theorem IM (a:av):checkBuiltinCall "bytearray.__new__" ⟨[.type "bytearray",a],[]⟩=pure ():=by kernel_rfl
theorem FF:entryFor table "bytearray.__new__"=aa Builtin.«list.__new__»:=entryFor_alias (id':="list.__new__") (by kernel_rfl) rfl (by decide+kernel) (by kernel_rfl)
theorem Cy:entryFor table "bytearray.__init__"=aa Builtin.«bytearray.__init__»:=LX (by kernel_rfl)
theorem Cw (a:av):argsOk "bytearray.__init__" ⟨[a],[]⟩:=by unfold argsOk;kernel_rfl
theorem Cv (a b:av):argsOk "bytearray.__init__" ⟨[a,b],[]⟩:=by unfold argsOk;kernel_rfl
theorem Sa:Builtin.Bytes.bindOptional "bytearray.__init__" "bytearray" ["source","encoding","errors"] [] []=pure [au,au,au]:=by kernel_rfl
theorem R_ (v:av):Builtin.Bytes.bindOptional "bytearray.__init__" "bytearray" ["source","encoding","errors"] [v] []=pure [aa v,au,au]:=by kernel_rfl
theorem Bg:typeLookup (.type "bytearray") "__release_buffer__"=pure (aa (.builtin "bytearray.__release_buffer__")):=by rw[jG,nO];kernel_rfl
theorem Bf:isSubtype (.type "bytearray") (.type "bytearray")=pure ag:=by rw[BK];kernel_rfl
theorem R7:("bytearray.__new__".splitOn ".__new__").headD ""="bytearray":=by simp+decide [String.splitOn,String.splitOnAux]
theorem II:typeLookup (.type "bytes") "__index__"=pure au:=by rw[jG,nO];kernel_rfl
end FA
noncomputable def yN (bs:ah aA):Obj:=⟨.type "bytearray",au,.bytearray bs.toArray 0,#[]⟩
section
variable {prog:dx}{w:dy}{M:eD}{A:bF}{s:aF}{E':av->aF->Prop}{a:ax}{bs:ah aA}
theorem gW (h:s.heap.get? a=aa (yN bs)):s.TypeIs (.ref a) "bytearray":=⟨_,h,rfl⟩
theorem FE (h:s.heap.get? a=aa (yN bs)){P:aj->aF->Prop} (q:P ao s):ia M A (Builtin.Bytes.exported (.ref a) <||> (do return (<- Builtin.Bytes.exportsOf (.ref a)) > 0)) P E' s:=
 I.bind (I.exported (I.bind (I.bind (I.any (xc h (I.pure (I.pure q)))))))
theorem rP (h:s.heap.get? a=aa (yN bs)){P:cR->aF->Prop} (q:P () s):ia M A (Builtin.Bytes.checkResize (.ref a)) P E' s:=I.bind (FE h (I.pure q))
theorem q8 {f:bS aA->bS aA}{bs':ah aA} (h:s.heap.get? a=aa (yN bs)) (e:f bs.toArray=bs'.toArray) (hz:bs'.length<=line){P:cR->aF->Prop}
  (q:∀ h',h'.get? a=aa (yN bs')->(∀ b,b≠a->h'.get? b=s.heap.get? b)->P () {s with heap:=h'}):aO M A (Builtin.Bytes.write (.ref a) f) P E' s:=by
 have e2:(s.heap.update a (Obj.mapBytearray f)).get? a=aa (yN bs'):=(Nw (Obj.mapBytearray f) h rfl).trans (aW (fun x=>aa (⟨.type "bytearray",au,.bytearray x 0,#[]⟩:Obj)) e)
 refine bf (xc h (bf (wpAny_update h (Tz e2 (bb (FZ.mpr (f_ hz))) (q _ e2 fun b hb=>I9 _ _ (l6 hb))))))
theorem z_ (h:s.heap.get? a=aa (yN bs)){P:bS aA->aF->Prop} (q:P bs.toArray s):aO M A (Builtin.Bytes.payload (.ref a)) P E' s:=bf (bf (xc h (bW (bW q))))
theorem Fw {i:Int}{t:Tok} (h0:0<=i) (h1:i<=255){P:aA->aF->Prop} (q:P i.toNat.toUInt8 s):aO M A (Builtin.Bytes.byteValue (.int i t)) P E' s:=
 pZ (a:=i) rfl (fW (by simp only[Bool.or_eq_true,L4,not_or];exact nk [i] 0 [] 0x11001100050031000011000110050031001 0x10023360200467 35 0xff13003 h0 h1 aQ) (bW q))
theorem RR {T:b_}{name:Str}{id:b_}{b:si}{self:av}{rest:ah av}{P:av->aF->Prop} (slot:Slot T name id) (hT:s.TypeIs self T) (entry:entryFor table id=aa b) (args:argsOk id ⟨self::rest,[]⟩)
  (hd:rn (.builtin id ⟨self::rest,[]⟩)) (h:ia (model prog w) A.in1 (b ⟨self::rest,[]⟩) (fun fin s'=>∃ v,fin=.done (.ret v)/\P v s') E' s):ia (model prog w) A (call (.builtin id) (self::rest)) P E' s:=by
 refine I.call (I.tree (fun _ _=>rfl) ?_)
 show ia _ A.in1 (do checkBuiltinCall id ⟨self::rest,[]⟩;again (.builtin id ⟨self::rest,[]⟩)) _ _ s
 refine I.bind (I.any (slot.check _ _ _ _ _ _ _ _ hT args ?_))
 refine I.pure ⟨SY slot.plain _,I.builtin entry hd ?_⟩
 rw[Around.under_plainId slot.plain _]
 exact I.bT h (fun fin s' z=>by obtain⟨v,rfl,z⟩:=z;exact z) fun _ _ z=>z
theorem O4 {i:Int}{t:Tok} (hz:s.heap.get? a=aa (yN bs)) (h0:0<=i) (h1:i<=255) (hl:bs.length < line){P:av->aF->Prop}
  (q:∀ h',h'.get? a=aa (yN (bs++[UInt8.ofNat i.toNat]))->(∀ b,b≠a->h'.get? b=s.heap.get? b)->P .none {s with heap:=h'}):ia (model prog w) A (call (.builtin "bytearray.append") [.ref a,.int i t]) P E' s:=
by
 refine RR FA.xS (gW hz) FA.Fe (FA.I4 _ _) (I.pF (by decide+kernel) fun _ _=>rfl) (I.eq (a:=(.ref a,.int i t)) rfl ?_)
 refine I.bind (I.any (Fw h0 h1 ?_))
 refine I.bind (rP hz ?_)
 refine I.bind (I.any (q8 (bs':=bs++[UInt8.ofNat i.toNat]) hz (List.push_toArray ..) (by rw[bN];exact hl) fun h' hb hs=>?_))
 exact I.pure ⟨_,rfl,q h' hb hs⟩
theorem pB {P:aC av->aF->Prop}{b:bS aA}{t:Tok} (q:P (aa (.builtin "bytes.__buffer__")) s):aO M A (specialOf (.bytes b t) "__buffer__") P E' s:=kU (kT s b t) FA.Fv q
theorem Dd {P:aj->aF->Prop}{b:bS aA}{t:Tok} (q:P ag s):aO M A (Builtin.Bytes.slotIsOwn (.bytes b t) "__buffer__") P E' s:=
 bf (pB (fW (by decide+kernel) (BM (kT s b t) (by show isSubtype (.type "bytes") (.type _)=pure ag;rw[show(String.dropRight "bytes.__buffer__" (String.length "__buffer__"+1))="bytes" by decide+kernel];exact F.sub_bytes_bytes) q)))
theorem vU {id:b_}{b:bS aA}{t:Tok}{full:aj}{P:aC (bS aA)->aF->Prop} (q:P (aa b) s):aO M A (Builtin.Bytes.buffer? id (.bytes b t) full) P E' s:=by
 unfold Builtin.Bytes.buffer?
 refine bf (pB (bf (Dd (fW (by decide) (bf (pB ?_))))))
 refine bf (bf (bf (kU (kT s b t) FA.Cr ?_)))
 exact bW (bW (fW (by decide) (bf (bW (bW q)))))
theorem O2 {b:ah aA}{t:Tok} (hz:s.heap.get? a=aa (yN bs)) (hl:bs.length+b.length<=line){P:av->aF->Prop}
  (q:∀ h',h'.get? a=aa (yN (bs++b))->(∀ b,b≠a->h'.get? b=s.heap.get? b)->P .none {s with heap:=h'}):ia (model prog w) A (call (.builtin "bytearray.extend") [.ref a,.bytes b.toArray t]) P E' s:=by
 refine RR FA.xR (gW hz) FA.Fd (FA.I3 _ _) (I.pF (by decide+kernel) fun _ _=>rfl) ?_
 have wr:ia (model prog w) A.in1 (Builtin.Bytes.write (.ref a) (· ++b.toArray)>>=fun _=>ret .none) (fun fin s'=>∃ v,fin=.done (.ret v)/\P v s') E' s:=
  I.bind (I.any (q8 (bs':=bs++b) hz (T_ ..) (by rw[bN];exact hl) fun h' hb hs=>I.pure ⟨_,rfl,q h' hb hs⟩))
 have tb:∀ {P':aC (bS aA×aC av)->aF->Prop},P' (aa (b.toArray,au)) s->ia (model prog w) A.in1 (Builtin.Bytes.takeBufferQuiet? "bytearray.extend" (.bytes b.toArray t) 0) P' E' s:=fun q=>by
  unfold Builtin.Bytes.takeBufferQuiet?
  refine I.bind (I.attempt ?_)
  unfold Builtin.Bytes.takeBuffer?
  exact I.bind (I.any (pB (I.bind (I.any (Dd (I.HS (by decide) (I.bind (I.any (pB (I.bind (I.any (vU (I.pure (I.pure q))))))))))))))
 refine I.eq (a:=(.ref a,.bytes b.toArray t)) rfl (I.bind (I.any (pB (I.ifT (by decide) (I.bind (I.any (sm (I.bind (I.any (z_ hz (I.bind (tb (I.ifT (by decide) ?_)))))))))))))
 exact if e:(!b.toArray.isEmpty)=ag then I.ifT e (I.bind (rP hz wr)) else I.HS e wr
end
namespace FA
theorem IJ:typeLookup (.type "bytes") "__bytes__"=pure (aa (.builtin "bytes.__bytes__")):=by rw[jG,nO];kernel_rfl
theorem int_bytes:typeLookup (.type "int") "__bytes__"=pure au:=by rw[jG,nO];kernel_rfl
theorem R9:typeLookup (.type "bytearray") "__bytes__"=pure au:=by rw[jG,nO];kernel_rfl
theorem R8:typeLookup (.type "bytearray") "__index__"=pure au:=by rw[jG,nO];kernel_rfl
theorem O3:typeLookup (.type "bytearray") "__buffer__"=pure (aa (.builtin "bytearray.__buffer__")):=by rw[jG,nO];kernel_rfl
end FA
section
variable {prog:dx}{w:dy}{M:eD}{A:bF}{s:aF}{E':av->aF->Prop}{a:ax}{bs:ah aA}
theorem ZN {rest:ah av}{R:fp->aF->Prop} (hcn:checkBuiltinCall "bytearray.__new__" ⟨.type "bytearray"::rest,[]⟩=pure ())
  (q:R (.ok (.ret (.ref s.heap.objs.size))) {s with heap:=s.heap.push (yN [])}):codeAny (model prog w) A (.call (.builtin "bytearray.__new__") ⟨.type "bytearray"::rest,[]⟩) R s:=by
 refine codeAny_call_builtin_own (SY FA.tg.plain _) FA.FF (Ly hcn ?_)
 unfold Builtin.«list.__new__»
 refine wpOwn_bind (wpOwn_stack fun p below _ _ _=>?_)
 dsimp only
 rw[FA.R7]
 refine wpOwn_of_wpAny (pZ (show isType (.type "bytearray")=pure ag from rfl) (fW (by decide) (pZ FA.Bf (fW (by decide) (bf (bW ?_))))))
 exact Ug (by decide+kernel) (bf (wpAny_newObj_type (bW q) (bX _)))
inductive GJ:ah av->ah aA->Prop
 |no:GJ [] []
 |one (l:ah aA) (t:Tok):GJ [.bytes l.toArray t] l
theorem Wb {pos:ah av}{l:ah aA} (hz:s.heap.get? a=aa (yN [])) (hp:GJ pos l) (hl:l.length<=line){P:Fin->aF->Prop}
  (q:∀ h',h'.get? a=aa (yN l)->(∀ x,x≠a->h'.get? x=s.heap.get? x)->P (.done (.ret .none)) {s with heap:=h'}):ia (model prog w) A (Builtin.«bytearray.__init__» ⟨.ref a::pos,[]⟩) P E' s:=by
 have hT:=gW hz
 have rel:∀ {P':aj->aF->Prop}{E'':av->aF->Prop},P' ao s->aO (model prog w) A (Builtin.Bytes.ownRelease (.ref a)) P' E'' s:=fun h=>
  bf (bf (kU hT FA.Bg (fW (by decide+kernel) (BM hT (by show isSubtype (.type "bytearray") (.type _)=pure ag;rw[show(String.dropRight "bytearray.__release_buffer__" (String.length "__release_buffer__"+1))="bytearray" by decide+kernel];exact FA.Bf) (by exact bW h)))))
 refine I.bind (I.any (rel (I.HS (by decide) ?_)))
 cases hp with
 |no=>
  refine I.eq FA.Sa (I.eq (a:=()) rfl (I.eq (a:=()) rfl (I.bind (FE hz (I.HS (by decide) ?_)))))
  refine I.bind (I.any (q8 (bs':=[]) hz rfl (bX _) fun h' hb hs=>?_))
  exact I.pure (q h' hb hs)
 |one l t=>
  refine I.eq (FA.R_ _) (I.eq (a:=()) rfl (I.eq (a:=()) rfl (I.bind (FE hz (I.HS (by decide) ?_)))))
  refine I.bind (I.any (q8 (bs':=[]) hz rfl (bX _) fun h' hb hs=>?_))
  refine I.eq (a:=none) rfl (I.HS (by decide) (I.bind (I.HS (by decide) (I.HS (by decide) (I.pure ?_)))))
  refine I.bind (I.any (kU (kT _ _ _) FA.II (I.HS (by decide) ?_)))
  refine I.bind (I.any (vU ?_))
  refine I.bind (I.any (sm (I.bind (I.any (q8 (s:={s with heap:=h'}) (bs':=l) hb rfl hl fun h2 AD Ko=>?_)))))
  exact I.pure (q h2 AD fun x hx=>(Ko x hx).trans (hs x hx))
end
section
variable {k:Kx}{rz:aj}{X:fj}{L:bZ}{σ:Sx}{Q:PV}
theorem At.Nq (z:At k L σ){pos:ah av}{l:ah aA} (hp:GJ pos l) (hl:l.length<=line) (q:∀ a,σ.H a=au->Q (.ref a) (σ.H.set a (.ba l))):W k rz (call (.type "bytearray") pos) (Ok k L σ Q) X σ:=by
 have UD:checkTypeCall "bytearray" ⟨pos,[]⟩=pure ():=by cases hp with
  |no=>exact FA.FD
  |one l t=>exact FA.Fz _
 have hcn:checkBuiltinCall "bytearray.__new__" ⟨.type "bytearray"::pos,[]⟩=pure ():=by cases hp with
  |no=>exact FA.IP
  |one l t=>exact FA.IM _
 have hai:∀ v,argsOk "bytearray.__init__" ⟨v::pos,[]⟩:=fun v=>by cases hp with
  |no=>exact FA.Cw _
  |one l t=>exact FA.Cv _ _
 have hz:(σ.s.heap.push (yN [])).get? σ.s.heap.objs.size=aa (yN []):=jg _ rfl
 have hF:=z.rep.fresh (di σ.s.heap)
 have fin:∀ h',h'.get? σ.s.heap.objs.size=aa (yN l)->(∀ x,x≠σ.s.heap.objs.size->h'.get? x=(σ.s.heap.push (yN [])).get? x)->fM (Ok k L σ Q (.ref σ.s.heap.objs.size)) {σ.s with heap:=h'}:=fun h' hb hs=>
  have g:∀ b o,σ.get b=aa o->h'.get? b=aa o:=fun b o e=>(hs b (sy (qw e))).trans (jN _ e)
  ⟨_,_,z.ok (x:=.ref _) (Rel.put (tk:=σ.s.toks) (h':=h') (o:=.ba l) (.refl z.rep) (fun _ e=>bP (di _) e) (Rel.Oj (frs:=k.frs) (own:=[]) (.refl z.rep)) ⟨hF.z,hF.d,z.rep.az (di _),fun b o _ _=>g b o,fun b q=>(z.rep.Jj b _ q).elim fun o e=>⟨o,g b o e⟩⟩ (.mk hb)) rfl (q _ hF.h)⟩
 refine I.call (I.tree (fun _ _=>rfl) (I.pure ⟨T4 _ (by decide+kernel),I.builtin F.entry_type_call (I.pF (by decide+kernel) fun _ _=>rfl) ?_⟩))
 rw[Around.under_plain (weight_type_call_type "bytearray" pos []) (units_type_call_type "bytearray" pos [])]
 unfold Builtin.«type.__call__»
 refine I.HS (by rw[FA.tg.notType];decide) (I.HS (by rw[FA.tg.canCreate];decide) ?_)
 refine I.eq UD (I.eq FA.K8 (I.HS (by decide) (I.eq FA.tg.made (I.bind (I.pure (I.bind (I.holding (I.call (I.anyC (ZN hcn ?_))))))))))
 have hT:=gW (s:={σ.s with heap:=σ.s.heap.push (yN [])}) hz
 refine I.bind (I.any (BM hT FA.Bf (I.HS (by decide) ?_)))
 refine I.bind (I.holding (I.bind (I.any (kU hT FA.mF.lookup (I.holding (I.bind ?_))))))
 rw[FA.mF.bind]
 refine I.pure (I.bind (RR FA.mF hT FA.Cy (hai _) (I.pF (by decide+kernel) fun _ _=>rfl) ?_))
 exact Wb hz hp hl fun h' hb hs=>⟨_,rfl,I.pure (I.pure (fin h' hb hs))⟩
end
section
variable {prog:dx}{w:dy}{M:eD}{A:bF}{s:aF}{E':av->aF->Prop}{a:ax}{bs:ah aA}
theorem HQ {g:Gh}{vs:ah av}{xs:ah V} {is:ah Int} (r:dG (er g) vs xs) (h:intsOf xs=aa is):IntsAre vs is:=by
 induction r generalizing is with
 |nil=>cases h;exact .nil
 | @cons v x vs xs e _ ih=>
  obtain⟨i,h1,h2⟩:=bind_some h
  obtain⟨js,h3,rfl⟩:=yl.mp h2
  exact gI (p:=fun j=>j=i) e ⟨i,h1,rfl⟩ fun j t e=>e▸.cons j t (ih h3)
theorem O_ {g:Gh}{vs:ah av} {is:ah Int} (h:IntsAre vs is):dG (er g) vs (is.map .int):=by
 induction h with
 |nil=>exact .nil
 |cons n t _ ih=>exact .cons ⟨t,rfl⟩ ih
theorem xW:∀ {is:ah Int}{bs:ah aA},octets is=aa bs->(∀ n∈is,0<=n/\n < 256)/\bs=is.map fun n=>n.toNat.toUInt8
 |[],bs,h=>by cases h;exact⟨fun n h=>absurd h uP,rfl⟩
 |i::r,bs,h=>by
  refine c7 h (fun hi h=>?_) fun _ h=>by contradiction
  obtain⟨l,h1,rfl⟩:=yl.mp h
  obtain⟨h2,rfl⟩:=xW h1
  exact⟨fun n hn=>(dS.mp hn).elim (fun e=>e▸⟨hi.1,Int.lt_add_one_of_le hi.2⟩) (h2 n),rfl⟩
theorem Ba {b:bS aA}{t:Tok}{P:av->aF->Prop} (q:P (.bytes b t) s):aO (model prog w) A (call (.type "bytes") [.bytes b t]) P E' s:=by
 refine LD Lx (by decide) (LM _) (LC _) (fun obj=>Sp obj _) Ls
  (S:=fun A R s=>R (.ok (.ret (.bytes b t))) s) (.of_wp fun prog w A R s h=>?_) ⟨kT _ _ _,q⟩
 refine pZ (a:=true) rfl (fW (by decide) (pZ Lo (fW (by decide) (pZ (Lq _) (pZ (a:=()) rfl (pZ (a:=()) rfl (fW (by decide) ?_)))))))
 exact bf (kU (kT s b t) FA.IJ (bf (sm (bf (wpAny_typeOf (kT s b t) (Ug (by decide) (bW ⟨_,rfl,h⟩)))))))
theorem Fu {n:Int}{t:Tok} (h0:0<=n) (h1:n<=1000000){P:av->aF->Prop} (q:P (.bytes (Array.replicate n.toNat 0) s.toks) {s with toks:=s.toks+1}):aO (model prog w) A (call (.type "bytes") [.int n t]) P E' s:=by
 refine LD Lx (by decide) (LM _) (LC _) (fun obj=>Sp obj _) Ls
  (S:=fun A R s=>R (.ok (.ret (.bytes (Array.replicate n.toNat 0) s.toks))) {s with toks:=s.toks+1}) (.of_wp fun prog w A R s h=>?_) ⟨kT _ _ _,q⟩
 refine pZ (a:=true) rfl (fW (by decide) (pZ Lo (fW (by decide) (pZ (Lq _) (pZ (a:=()) rfl (pZ (a:=()) rfl (fW (by decide) ?_)))))))
 refine bf (kU (typeIs_int s n t) FA.int_bytes (bf (pZ (a:=none) rfl (bW (fW (by decide) ?_)))))
 refine bf (kU (typeIs_int s n t) F.slot_int_index.lookup (fW (by decide) (pZ (show(asIndex (.int n t)).attempt=pure (.ok n) from rfl) ?_)))
 refine fW (by simp only[Builtin.Bytes.fitsIndex,Gr,Bool.and_eq_false_iff,decide_eq_false_iff_not];exact nk [n] 0 [] 0x1100011000600410000110000110060041031001 0x80000000000000008300460080000000000000008383686 35 0xf424033003 h0 h1 aQ) (fW (gh [n] 0 [] mD 0x20046 35 h0 aQ) (fW (gh [n] 0 [] mD 0x7fffffffffffffde8346 0xf424033003 h1 aQ) (fW (by unfold Builtin.Bytes.tooLong;rw[l8];simp only[L4,gt_iff_lt];exact gh [n] 0x4100 [] 0x110011000500110011011005002001 0x10000004316 0xf424033003 h1 aQ) ?_)))
 exact bf (sm (bf (SX (bW ⟨_,rfl,h⟩) (by rw[Array.size_replicate,l8];exact gh [n] 0x4100 [] 0x1100011040011001101104002 pT 0xf424033003 h1 aQ))))
theorem P4 (hz:s.heap.get? a=aa (yN bs)){P':aC av->aF->Prop} (h:P' (aa (.builtin "bytearray.__buffer__")) s):aO M A (specialOf (.ref a) "__buffer__") P' E' s:=kU (gW hz) FA.O3 h
theorem YM (hz:s.heap.get? a=aa (yN bs)){P':aj->aF->Prop} (h:P' ag s):aO M A (Builtin.Bytes.slotIsOwn (.ref a) "__buffer__") P' E' s:=
 bf (P4 hz (fW (by decide+kernel) (BM (gW hz) (by show isSubtype (.type "bytearray") (.type _)=pure ag;rw[show(String.dropRight "bytearray.__buffer__" (String.length "__buffer__"+1))="bytearray" by decide+kernel];exact FA.Bf) h)))
theorem YB (hz:s.heap.get? a=aa (yN bs)){P':aj->aF->Prop} (h:P' ao s):aO M A (Builtin.Bytes.ownRelease (.ref a)) P' E' s:=
 bf (bf (kU (gW hz) FA.Bg (fW (by decide+kernel) (BM (gW hz) (by show isSubtype (.type "bytearray") (.type _)=pure ag;rw[show(String.dropRight "bytearray.__release_buffer__" (String.length "__release_buffer__"+1))="bytearray" by decide+kernel];exact FA.Bf) (by exact bW h)))))
theorem OZ (hz:s.heap.get? a=aa (yN bs)){id:b_}{P':aC (bS aA)->aF->Prop} (h:P' (aa bs.toArray) s):aO M A (Builtin.Bytes.buffer? id (.ref a) ag) P' E' s:=by
 unfold Builtin.Bytes.buffer?
 exact bf (P4 hz (bf (YM hz (fW (by decide) (bf (P4 hz (bf (YB hz (fW (by decide) (bf (z_ hz (bW h))))))))))))
theorem IG (hz:s.heap.get? a=aa (yN bs)) (hl:bs.length<=line){P:av->aF->Prop} (q:P (.bytes bs.toArray s.toks) {s with toks:=s.toks+1}):aO (model prog w) A (call (.type "bytes") [.ref a]) P E' s:=by
 refine LD Lx (by decide) (LM _) (LC _) (fun obj=>Sp obj _) Ls
  (S:=fun A R s=>s.heap.get? a=aa (yN bs)/\R (.ok (.ret (.bytes bs.toArray s.toks))) {s with toks:=s.toks+1}) (.of_wp fun prog w A R s h=>?_) ⟨hz,kT _ _ _,q⟩
 have hT:=gW h.1
 refine pZ (a:=true) rfl (fW (by decide) (pZ Lo (fW (by decide) (pZ (Lq _) (pZ (a:=()) rfl (pZ (a:=()) rfl (fW (by decide) ?_)))))))
 refine bf (kU hT FA.R9 (bf (bf (bf (xc h.1 ?_)))))
 refine bW (bW (fW (by decide) (bf (kU hT FA.R8 (bm_if_true rfl ?_)))))
 refine bf ?_
 refine OZ h.1 ?_
 exact bf (sm (bf (SX (by first |exact bW ⟨_,rfl,h.2⟩ |exact bW (bW ⟨_,rfl,h.2⟩)) (by rw[uR];exact f_ hl))))
theorem N8 (hh:A.handled=au){b:bS aA}{t:Tok} (hl:b.size<=1000000){P:av->aF->Prop}
  (q:∀ h' tk t',(∀ a o,s.heap.get? a=aa o->h'.get? a=aa o)->P (.int (KBw.bInts b).sum t') {s with heap:=h',toks:=tk}):aO (model prog w) A (call (.builtin "sum") [.bytes b t]) P E' s:=by
 have hin:∀ k∈KBw.bInts b,0<=k/\k < 256:=fun k hk=>KBw.ints_in hk
 have h5:=KBw.ints_length b
 refine call_sum_walk (KBw.pyIter_bytes ⟨s.heap.objs.size,[s.heap.objs.size],[s.heap.objs.size],b.size,_,_,fun j=>(KBw.bInts b).getD j 0,rfl,KBw.walks (A:=A.in1) hh s.heap.objs.size b t,⟨_,jg _ rfl,rfl,rfl⟩,
  fun a ha=>eR.mp ha▸qw (jg _ rfl),?_,fun j hj=>?_,fun h' tk t' Za=>?_⟩)
 ·rintro i v ⟨d,u,hc,rfl⟩
  refine⟨u,?_⟩
  show Value.int (d.toNat:Int) u=Value.int ((KBw.bInts b).getD i 0) u
  rw[O',KBw.ints_get hc]
  rfl
 ·have h1:=KBw.getD_in (ks:=KBw.bInts b) (j:=j) hin
  have h3:=KBa.sum_in (ns:=(KBw.bInts b).take (j+1)) fun k hk=>hin k (yk hk)
  have h4:((KBw.bInts b).take (j+1)).length<=(KBw.bInts b).length:=by rw[eW];exact je _ _
  unfold InLong
  rw[SW (KBw.bInts b) (j+1) (h5.symm▸hj)]
  refine⟨⟨?_,?_⟩,?_,?_⟩<;>(try dsimp only)<;>lia
 ·rw[show preSum (fun j=>(KBw.bInts b).getD j 0) b.size=(KBw.bInts b).sum by rw[<- h5,SW _ _ (bD _),sE]]
  exact q h' tk t' fun a o ha=>Za a o (fun hm=>absurd (qw ha) (eR.mp hm▸sD _)) (jN _ ha)
theorem sQ {i:Int} (h:small i):i.natAbs.log2 < 200:=
 if z:i.natAbs=0 then by rw[z];decide else(Nat.log2_lt z).mpr h
theorem O1 {g:Gh}{vs:ah av}{xs:ah V}{bs:ah aj} (r:dG (er g) vs xs) (h:boolsOf xs=aa bs):vs=bs.map .bool:=by
 induction r generalizing bs with
 |nil=>cases h;rfl
 | @cons v x vs xs e _ ih=>
  obtain⟨b,h1,h2⟩:=bind_some h
  obtain⟨js,h3,rfl⟩:=yl.mp h2
  cases x with
  |bool=>cases h1;cases(show v=.bool _ from e);rw[ih h3];rfl
  |_=>contradiction
theorem range_all:∀ bs:ah aj,(List.range bs.length).all (fun i=>bs.getD i ag)=bs.all id
 |[]=>rfl
 |b::bs=>by
  rw[jf,XW,LO,LF,LO]
  exact aW (b&& ·) (range_all bs)
end
section
variable {k:Kx}{rz:aj}{X:fj}{L:bZ}{σ:Sx}{Q:PV}{vs:ah V}{us:ah av}
@[elab_as_elim] theorem oD {g:Gh}{G:ah av->Prop}{p:V->Prop} (e:dG (er g) us vs) (h:Ka vs p) (K:∀ u v,er g u v->p v->G [u]):G us:=by
 cases e with
 |nil=>exact h.elim
 |cons e1 e2=>cases e2 with
  |nil=>exact K _ _ e1 h
  |cons=>exact h.elim
@[elab_as_elim] theorem QJ {g:Gh}{G:ah av->Prop}{p:V->V->Prop} (e:dG (er g) us vs) (h:on2 vs p) (K:∀ u v u' v',er g u v->er g u' v'->p v v'->G [u,u']):G us:=by
 cases e with
 |nil=>exact h.elim
 |cons e1 e2=>exact oD (G:=fun us=>G (_::us)) e2 h fun u v e h=>K _ _ _ _ e1 e h
theorem ZO {H:Hp}{a:ax}{bs:ah aA} (h:(H a).bind Mo.ba?=aa bs):H a=aa (.ba bs):=by
 cases e:H a with
 |none=>rw[e] at h;contradiction
 |some o=>rw[e] at h;cases o with
  |ba=>cases h;rfl
  |_=>contradiction
theorem At.adB (z:At k L σ){h':bB}{tk t:Nat}{i:bS aA}{j:ah aA} (g:∀ b o,σ.get b=aa o->h'.get? b=aa o) (e:i=j.toArray) (q:Q (.bytes j) σ.H):fM (Ok k L σ Q (.bytes i t)) {σ.s with heap:=h',toks:=tk}:=z.okG (x:=.bytes j) g ⟨t,aW (Value.bytes · t) e⟩ q
theorem At.QK (z:At k L σ){h':bB}{tk t:Nat}{i j:Int} (g:∀ b o,σ.get b=aa o->h'.get? b=aa o) (e:i=j) (q:Q (.int j) σ.H):fM (Ok k L σ Q (.int i t)) {σ.s with heap:=h',toks:=tk}:=z.okG (x:=.int j) g ⟨t,aW (Value.int · t) e⟩ q
theorem At.len_list (z:At k L σ){a:ax}{xs:ah V} (hz:SeqAt σ a "list" xs) (h:xs.length<=line/\Q (.int xs.length) σ.H):W k rz (call (.builtin "len") [.ref a]) (Ok k L σ Q) X σ:=by
 obtain⟨ws,hv,r⟩:=hz.list
 exact W.any (Calls.call_len_list hv (by rw[fC r];have:=h.1;unfold line at this;exact cw [xs.length] bJ 0x8000000000000000830014 pT this aQ) (z.HD (aW Int.ofNat (fC r)) h.2))
theorem At.OQ (z:At k L σ){b:Bi} (h:Fh b vs σ.H Q) (e:dG (er σ.g) us vs):W k rz (call b.v us) (Ok k L σ Q) X σ:=by
 have hd:=k.ca.hd
 cases b with
 |len=>
  refine oD e h fun u v e h=>?_
  cases v with
  |bytes b=>obtain⟨t,rfl⟩:=e;exact W.any (len_bytes (by rw[uR];have:=h.1;unfold line at this;exact cw [b.length] bJ 0x1000000000063000 pT this aQ) (z.HD (aW Int.ofNat (uR ..)) h.2))
  |bE xs=>obtain⟨a,rfl,hz⟩:=e;exact z.len_list (z.rep.yr _ _ hz) h
  |ref a=>cases(show u=.ref a from e);obtain⟨xs,hx,h⟩:=h;exact z.len_list (z.rep.bE hx) h
  |_=>exact h.elim
 |bytes=>
  refine oD e h fun u v e h=>?_
  cases v with
  |int i=>obtain⟨t,rfl⟩:=e;exact W.any (Fu h.1 h.2.1 (z.okB (by simp) h.2.2))
  |bytes b=>obtain⟨t,rfl⟩:=e;exact W.any (Ba (z.okN (x:=.bytes b) ⟨t,rfl⟩ h))
  |bE xs=>
   obtain⟨a,rfl,hz⟩:=e
   obtain⟨is,hi,bs,ho,hl,q⟩:=h
   obtain⟨ws,hv,r⟩:=(z.rep.yr _ _ hz:SeqAt _ _ _ _).list
   obtain⟨k1,rfl⟩:=xW ho
   have hI:=HQ r hi
   exact W.any (call_bytes_ints (vs:=ws.toList) hv hI k1 (by rw[hI.length,l8];rw[cF] at hl;exact aK hl (by decide)) hd fun h' t k hk=>z.adB hk (by simp [byteArr]) q)
  |ref a=>cases(show u=.ref a from e);obtain⟨bs,hb,hl,q⟩:=h;exact W.any (IG (match (z.rep.yB _ _ (ZO hb):Uy _ _ _) with |.mk h=>h) hl (z.okB rfl q))
  |_=>exact h.elim
 |bytearray=>
  cases vs with
  |nil=>obtain rfl:=e.adJ;exact z.Nq .no (bX _) h
  |cons v r=>exact oD (p:=fun x=>Got (I0 x) (ZP σ.H Q)) e h fun u v e h=>gB e h fun b t h=>z.Nq (.one b t) h.1 h.2
 |min=>exact QJ e h fun u v u' v' e e' h=>g2 e e' h fun i t j t' q=>W.any (min_two_ints hd fun h' tk k=>by
   by_cases c:j < i
   ·rw[a8 c];exact z.QK k (Int.min_eq_right (xf c)).symm q
   ·rw[bb c];exact z.QK k (Int.min_eq_left (F4.mp c)).symm q)
 |max=>exact QJ e h fun u v u' v' e e' h=>g2 e e' h fun i t j t' q=>W.any (max_two_ints hd fun h' tk k=>by
   by_cases c:j > i
   ·rw[a8 c];exact z.QK k (Int.max_eq_right (xf c)).symm q
   ·rw[bb c];exact z.QK k (Ts (F4.mp c)).symm q)
 |sum=>exact oD e h fun u v e h=>gB e h fun b t h=>W.any (N8 hd (by rw[uR];exact h.1) fun h' tk t' k=>z.QK k (by rw[KBw.ints_list]) h.2)
 |sorted=>
  refine oD e h fun u v e h=>z.gL e h fun a xs hz h=>?_
  obtain⟨is,hi,hl,q⟩:=h
  obtain⟨ws,hv,r⟩:=hz.list
  have hI:=HQ r hi
  refine W.any (sorted_ints (vs:=ws.toList) hv hI (by rw[hI.length];exact cE hl (by decide)) fun out ns' a1 a2 a3=>?_)
  obtain⟨ep,he⟩:=sortedAll_at σ.s.heap ws.toList out
  exact z.abj (tk:=σ.s.toks) (xs:=ns'.map .int) (fz:=true) (nu _) (fun b o e=>sortedAll_old e) he (O_ a1) ⟨by rw[cF,a2.length_eq];exact aK hl (by decide),q ns' a2 a3⟩
 |tuple=>
  refine oD e h fun u v e h=>z.gL e h fun a xs hz h=>?_
  obtain⟨ws,hv,r⟩:=hz.list
  refine W.any (call_tuple_list hv (fun h' kp=>?_) (by rw[fC r];exact f_ h.1))
  obtain⟨g,H,o⟩:=(z.grow (tk:=σ.s.toks) kp).abh (o:={cls:=.type "tuple",data:=.seq ws}) (x:=.tup xs) rfl (.mk _ rfl (a8 rfl)) (fun τ l h=>.mk ws 0 h (r.bT fun _ _ e=>e.le l)) h.2
  exact⟨g,H,Ok.from (σ:=σ) (τ:=σ.up h' σ.s.toks) (Gh.le.refl σ.g) o⟩
 |str=>exact oD e h fun u v e h=>gI e h fun i t h=>W.any (PySem.P.str_of_int (fq (sQ h.1) (by decide)) (z.Pj (x:=.str _) ⟨_,rfl⟩ (h.2 _ (by
   have hk:(toString i).length<=200+1:=TY (k:=200) (by decide) (sQ h.1)
   rw[XO];exact cw [(toString i).length] bJ ya 0xc913000 hk aQ))))
 |all=>
  refine oD e h fun u v e h=>z.gL e h fun a xs hz h=>?_
  obtain⟨bs,hb,q⟩:=h
  obtain⟨ws,hv,r⟩:=hz.list
  have hw:=O1 r hb
  have lW:a < σ.s.heap.objs.size:=by obtain⟨o,eo,_⟩:=hv;exact qw eo
  refine W.any (call_all_walk (LZ hv ⟨σ.s.heap.objs.size,[σ.s.heap.objs.size,a],[σ.s.heap.objs.size],ws.size,_,_,fun i=>bs.getD i ag,rfl,Walks.list (A:=k.A.in1) hd _ a (sy lW) ws,⟨⟨_,jg _ rfl,rfl,rfl⟩,hv.push _⟩,fun i v s' Q' E'' hP hQ=>?_,fun h' tk kp=>?_⟩))
  ·have hP:ws[i]? =aa v:=hP
   rw[<- BA,hw,BP] at hP
   obtain⟨b,hb,rfl⟩:=yl.mp hP
   rw[show b=bs.getD i ag by rw[O',hb];rfl]
   exact xu hQ
  ·rw[show ws.size=bs.length by rw[<- Array.length_toList,hw,cF],range_all bs]
   exact z.okG (x:=.bool (bs.all id)) (fun b o e=>kp b o (fun hm=>absurd (qw e) (eR.mp hm▸sD _)) (jN _ e)) rfl q
end
section
variable {k:Kx}{rz:aj}{L:bZ}{σ ρ:Sx}{x:ay}{P Q':PV}{X:fj}{α:Type}{e:E}{es:Es}{pos:Pos}
theorem At.yA (z:At k L σ) (C:Cn):At k L (yA k.c σ C):=z.step (.yA z.rep)
theorem aaf {fz:aj}{C:Cn} (S:Me es):SE (.new fz C es):=fun{k rz L σ x P X} z hm h=>mM hm fun q xs p hh=>by
 obtain⟨f,hf⟩:=X6.mp (bx (aU hh))
 have FC:=k.D.cls C (HR hf)
 refine W.Jc (rM C) (W.any (kM z (aU (aU hh)) (k.D.gc C) ⟨σ.g,σ.H,W.callWith (iO (bx hh)) FC.clk (W.bT (ti S z (bx hh) h) fun a τ ha=>?_)⟩))
 obtain⟨ek,ys,ey,l,z,f',Zd,q⟩:=ha
 rw[hf] at Zd;cases Zd
 refine⟨z.here,?_⟩
 rw[ek]
 have hq:=q _ (z.rep.fresh (nu τ.s.heap)).h
 have u:=PN k.hb k.ca (k.c.T.cA C) a.pos
 have ea:dG (er (Mine.yA k.c τ C).g) (.ref (τ.s.heap.objs.size+1)::a.pos) (.ref (τ.s.heap.objs.size+1)::ys):=.cons rfl (ey.bT fun _ _ e=>e.le (Rel.yA (frs:=[]) z.rep).le)
 have zi:=z.yA C
 have sp:=k.hC f _ (Mine.yA k.c τ C) _ _ hq _ _ _ u.1 u.2 zi.rep zi.fm ea
 refine I.call (I.make_core (makes_of z.here FC.mks) (looks_findIn z.here (FC.ini f hf)) (fun self=>bind_fn z.here self (uM.mp (k.D.fnk f).1)) rfl (I.pN sp fun r s' hr=>?_))
 cases r with
 |error e=>exact .Zo L _ zi hr
 |ok fl=>
  cases fl with
  |ret v=>
   obtain⟨g,H,y,e,r,rfl,q⟩:=hr
   cases(show v=.none from e)
   have z2:=zi.step r
   have l2:σ.g.le g:=l.trans ((Rel.yA (frs:=[]) (C:=C) z.rep).le.trans r.le)
   refine⟨rfl,?_⟩
   cases fz with
   |false=>exact⟨g,H,.mk (.ref _) rfl l2 z2 q⟩
   |true=>
    obtain⟨fs,hz,q⟩:=q
    have R2:=z2.rep
    have F:=Rel.JL (s':=s') (x:=.obj C fs) (.refl R2) (frs:=k.frs) (own:=[]) (fun _ _=>R2.EM hz) (R2.noZ hz) (R2.noD hz) (fun _ _ h=>h) ((R2.yB _ _ hz:iZ _ _ _ _ _).bT ⟨Gh.ll (R2.noZ hz),fun _ h=>h,fun _ _ _ h=>h⟩) rfl rfl rfl
    exact⟨_,_,.mk (.obj C fs) (.mk _ rfl (a8 rfl)) (l2.trans F.le) (z2.step F) q⟩
  |next=>exact hr.elim
  |brk=>exact hr.elim
  |cont=>exact hr.elim
theorem Kg {c:Cx}{es:bS cI}{n:Nat}{fs:ah (Nm×V)}{f:Nm} (r:dG (y_ c σ) es.toList fs) (h:∀ p∈fs,p.1≠f):lookIn (dQ f) ⟨.type "dict",au,.dict es n,#[]⟩=aa au:=by
 have hf:es.toList.find? (·.key.isStr (dQ f))=au:=by
  generalize es.toList=l at r
  induction r with
  |nil=>rfl
  | @cons e' p l m q hr ih=>
   obtain⟨t,q1⟩:=q.key
   rw[LV,q1,AA,dU (h p (.head _))]
   exact ih fun p hp=>h p (.tail _ hp)
 unfold lookIn
 simp only[hf]
 rw[TC,Dk r];rfl
theorem YN {n:Nat}{args:ah (aj×Sem av)} (h1:args.any (·.1)=ao) (h2:n < 20):methodCallForm n args []=ag:=by
 unfold methodCallForm
 have e:args.all (!·.1)=ag:=l_.mpr fun x hx=>by
  have:=TQ.mp h1 x hx
  simpa using this
 simp [e];exact cw [n] bJ 0x1e13001 0x1413001 h2 aQ
theorem Oo {o:ay}{apos pos:Pos}{n:Nat}{ov:av}{args:ah (aj×Sem av)}{Q:av->Sx->Prop}{name:Str} (h1:args.any (·.1)=ao) (h2:n < 20) (hp:apos.endLine=pos.line)
  (h:∀ pl,W k rz (getMethod ov name pl) (fun fx τ=>W k rz (callWith pos fx.1 fx.2 args []) Q X τ) X σ):W k rz (methodCall o name apos pos k.env ov n args []) Q X σ:=by
 unfold methodCall
 rw[YN h1 h2]
 unfold calleeOf methodCallPos
 refine W.bind (W.holding (W.eq (a8 rfl) (h _))) fun fx τ hx=>?_
 refine W.bind (P:=fun u ρ=>u=pos/\ρ=τ) (W.eq (a8 (by rw[hp];simp)) (W.pure ⟨rfl,rfl⟩)) fun u ρ e=>?_
 obtain⟨rfl,rfl⟩:=e
 exact hx
theorem getM (z:At k L σ){a:ax}{m:Str}{pl:Sem aj}{G:av×ah av->Sx->Prop}{id:b_} (g:G (.builtin id,[.ref a]) σ)
  (h:∀ {P:av×ah av->aF->Prop},P (.builtin id,[.ref a]) σ.s->aO k.M k.A (getMethod (.ref a) m pl) P (Jo k rz X) σ.s):W k rz (getMethod (.ref a) m pl) G X σ:=W.any (h ⟨σ.g,σ.H,g⟩)
theorem At.RQ (z:At k L σ){a:ax}{id:b_}{xs:ah ay}{Q:ah V->Hp->Prop} (T:Me es) (hm:uV k.sc es xs=ag) (h:wEs k.C es L σ.H Q (lZ X L))
  (go:∀ us vs τ,dG (er τ.g) us vs->At k L τ->Q vs τ.H->W k rz (call (.builtin id) (.ref a::us)) (Ok k L τ P) X τ):W k rz (callWith pos (.builtin id) [.ref a] (backTo pos (starEach xs k.env)) []) (Ok k L σ P) X σ:=
 I.callWith_builtin (iO hm) (fun _=>nofun) (I.bT (ti T z hm h) (fun ar s' q=>by
  obtain⟨g,H,ek,ys,e,l,z,q⟩:=q
  rw[ek]
  exact W.later l (go _ _ ⟨s',g,H⟩ e z q)) fun _ _ w=>w)
theorem zR {a:ax}{cl:b_}{vs:bS av}{n:Nat}{f:bS av->bS av}{h:bB} (e:h.get? a=aa ⟨.type cl,au,.seq vs n,#[]⟩):∃ n',(h.update a (Obj.mapSeq f)).get? a=aa ⟨.type cl,au,.seq (f vs) n',#[]⟩:=
 ⟨_,Nw (Obj.mapSeq f) e rfl⟩
theorem At.turned (z:At k L σ){a:ax}{o p:Mo}{h':bB}{tk:Nat} (ha:σ.H a=aa o) (hs:∀ b,b≠a->h'.get? b=σ.get b) (m:Ut k.c ⟨(σ.up h' tk).s,σ.g,σ.H.set a p⟩ a p) (q:P .none (σ.H.set a p)):fM (Ok k L σ P .none) (σ.up h' tk).s:=
 ⟨_,_,z.ok (x:=.none) (.WQ z.rep ha hs m) rfl q⟩
theorem RI {H:Hp}{a:ax}{b:aj} (h:(H a).bind Mo.kind?=aa b):(b=ag/\∃ xs,H a=aa (.bE xs))∨(b=ao/\∃ xs,H a=aa (.ba xs)):=by
 cases e:H a with
 |none=>rw[e] at h;contradiction
 |some o=>rw[e] at h;cases o with
  |bE xs=>cases h;exact .inl ⟨rfl,xs,rfl⟩
  |ba xs=>cases h;exact .inr ⟨rfl,xs,rfl⟩
  |_=>contradiction
theorem At.Vs (z:At k L σ){m:Nm}{v:av}{x:V}{xs:ah ay}{pl:Sem aj} (T:Me es) (hm:uV k.sc es xs=ag) (ex:er σ.g v x){b:aj} (hk:kindB σ.H x=aa b) (Y9:W7 b m=ag)
  (h:wEs k.C es L σ.H (fun vs H2=>rp b x m vs H2 P) (lZ X L)):W k rz (getMethod v (dQ m) pl) (fun fx τ=>W k rz (callWith pos fx.1 fx.2 (backTo pos (starEach xs k.env)) []) (Ok k L σ P) X τ) X σ:=by
 cases x with
 |ref a=>
  cases(show v=.ref a from ex)
  rcases RI hk with ⟨rfl,ls,hl⟩ |⟨rfl,ls,hl⟩
  ·have hma:m=.dg:=ij ((Ge _).symm.trans Y9)
   subst hma
   obtain⟨vs,n',e,r⟩:=(z.rep.yB _ _ hl:SeqAt _ _ _ _)
   refine getM z (z.RQ T hm h fun us ys τ e z q=>?_) fun q=>Calls.getMethod_list_append e rfl rfl q
   obtain⟨a',ea,q⟩:=q
   cases ea
   refine oD e q fun u y e q=>?_
   obtain⟨zs,hl,hlen,q⟩:=q
   obtain⟨ws,n1,e5,r5⟩:=(z.rep.yB _ _ hl:SeqAt _ _ _ _)
   obtain⟨n2,e6⟩:=zR (f:=fun xs=>xs.push u) e5
   exact W.any (call_meets X5 ⟨_,e5,rfl⟩ Yc (acn _ _) (TO a ws n1 u (by rw[fC r5];exact f_ (fH hlen))) ⟨e5,
    z.turned (p:=.bE (zs++[y])) (tk:=τ.s.toks) hl (fun b hb=>I9 _ _ (l6 hb)) (.mk _ n2 e6 (by rw[TN];exact r5.append (.cons e .nil))) q⟩)
  ·obtain⟨ho⟩:=(z.rep.yB _ _ hl:Uy _ _ _)
   have nd:∀ a',Value.ref a=.ref a'->∃ o,σ.s.heap.get? a'=aa o/\o.dict=au:=fun a' e=>by cases e;exact⟨_,ho,rfl⟩
   by_cases hma:m=.dg
   ·subst hma
    refine getM z (z.RQ T hm h fun us ys τ e z q=>?_) fun q=>TM (gW ho) FA.z6 FA.xS FA.GW nd q
    obtain⟨a',ea,q⟩:=q
    cases ea
    refine oD e q fun u y e q=>gI e q fun i t q=>?_
    obtain⟨bs,hl,h1,h2,h3,q⟩:=q
    obtain⟨ho⟩:=(z.rep.yB _ _ hl:Uy _ _ _)
    exact O4 ho h1 h2 h3 fun h' hb hs=>z.turned (p:=.ba (bs++[UInt8.ofNat i.toNat])) (tk:=τ.s.toks) hl hs (.mk hb) q
   ·have hme:m=.jS:=ij ((aW (· || decide (m=.jS)) (dU hma)).symm.trans Y9)
    subst hme
    refine getM z (z.RQ T hm h fun us ys τ e z q=>?_) fun q=>TM (gW ho) FA.z6 FA.xR FA.GV nd q
    obtain⟨a',ea,q⟩:=q
    cases ea
    refine oD e q fun u y e q=>gB e q fun i t q=>?_
    obtain⟨bs,hl,h3,q⟩:=q
    obtain⟨ho⟩:=(z.rep.yB _ _ hl:Uy _ _ _)
    exact O2 ho h3 fun h' hb hs=>z.turned (p:=.ba (bs++i)) (tk:=τ.s.toks) hl hs (.mk hb) q
 |_=>contradiction
theorem Ws {m:Nm} (S:SE e) (T:Me es):SE (.bk e m es):=fun{k rz L σ x P X} z hm h=>rm hm fun f xs Kj p hh=>lb hh fun v a ap hh=>tp (fG (aU (aU hh))) (by
 obtain rfl:=eq_of_beq (bx (fG (aU hh)))
 have h5:=bx hh
 rw[arm_eval_Call,Be (bx (aU (aU (aU hh))))]
 refine S.step z (bx (fG hh)) h fun v τ y e l z q=>W.cY (Oo (iO h5) (ij (bx (aU hh))) (eq_of_beq (bx (aU (aU hh)))) fun pl=>?_)
 cases hc:AW τ.H y with
 |none=>
  rw[hc] at q
  obtain⟨b,hk,Y9,q⟩:=q
  exact W.bT (z.Vs T h5 e hk Y9 q) fun fx ρ w=>W.later l w
 |some F=>
  rw[hc] at q
  obtain⟨f,hf,q⟩:=q
  obtain⟨hn,hmf⟩:=HG hf
  have FC:=k.D.cls F hn
  obtain⟨a,fs,rfl,Ins⟩:=z.Zy hc e
  obtain⟨d,ds,n,I',e3,e2,rr,nd,yH⟩:=Ins.Qy
  refine W.any (method_fn z.here I' FC.ga FC.ng (FC.bk m f hf) (uM.mp (k.D.fnk f).1) ?_ ⟨τ.g,τ.H,W.later l (z.XB (us:=[.ref a]) (vs:=[y]) T h5 (.cons e .nil) q)⟩)
  exact aW (Option.map _) (Kg rr fun p hp (e:p.1=m)=>hmf (e▸yH p hp)))
theorem R6 (b:Bi):(Str.ofString b.s==("__debug__":Str))=ao:=by cases b<;>decide+kernel
theorem Up {b:Bi} (S:Me es):SE (.bc b es):=fun{k rz L σ x P X} z hm h=>mM hm fun q xs p hh=>by
 refine W.Jc (R6 b) (W.any (Ar z (aU hh) (k.D.gb b) ⟨σ.g,σ.H,I.callWith_builtin (iO (bx hh)) (fun a=>by cases b<;>exact nofun) (I.bT (ti S z (bx hh) h) (fun ar s' q=>?_) fun _ _ w=>w)⟩))
 obtain⟨g,H,ek,ys,e,l,z,q⟩:=q
 rw[ek]
 exact W.later l (z.OQ q e)
end
def SP (e:E):Prop:=∀ {k:Kx}{rz:aj}{L:bZ}{σ:Sx}{x:ay}{P:PV}{X:fj},At k L σ->mE k.sc e x=ag->wE k.C e L σ.H P (lZ X L)->W k rz (eval x k.env) (Ok k L σ fun v H=>(∃ t:Str,v=.str t/\t.length<=1000)/\P v H) X σ
def SJ (es:Es):Prop:=∀ {k:Kx}{rz:aj}{L:bZ}{σ:Sx}{xs:ah ay}{P:PV}{X:fj}{acc:Str}{j:Nat},At k L σ->uV k.sc es xs=ag->acc.length<=1000*j->j+xs.length<=16->
 wEs k.C es L σ.H (fun _ H1=>∀ t:Str,t.length<=16000->P (.str t) H1) (lZ X L)->W k rz (joinParts acc (evalEach xs k.env)) (Ok k L σ P) X σ
def WC:Es->Prop
 |.nil=>True
 |.cons e es=>SE e/\WC es
section
variable {k:Kx}{rz:aj}{L:bZ}{σ ρ:Sx}{x:ay}{P Q':PV}{X:fj}{α:Type}{e:E}{es:Es}{pos:Pos}
theorem Wo:SP .cK:=fun{k rz L σ x P X} z hm h=>GC z hm fun t ht=>⟨⟨t,rfl,ht⟩,h t ht⟩
theorem Md (S:SE e):SP (.fmt e):=fun{k rz L σ x P X} z hm h=>nj hm fun v j sp p hh=>QL (aU (aU hh)) (by
 obtain rfl:=eq_of_beq (bx hh)
 rw[arm_eval_FormattedValue]
 refine S.step z (bx (aU hh)) h fun v τ y e l z q=>W.cY ?_
 obtain⟨i,rfl,hs,q⟩:=q
 obtain⟨t,rfl⟩:=e
 refine W.leaf (Ly (show converted (-1) (.int i t)=pure (.int i t) from rfl) ⟨τ.g,τ.H,?_⟩)
 have hk:(toString i).length<=200+1:=TY (k:=200) (by decide) (sQ hs)
 have hl:(Str.ofString (toString i)).length<=1000:=by rw[XO];exact cw [(toString i).length] bJ ya 0xc913000 hk aQ
 exact W.later l (W.any (wpAny_formatField_int (fq (sQ hs) (by decide)) (z.Pj (x:=.str _) ⟨_,rfl⟩ ⟨⟨_,rfl,hl⟩,q _ hl⟩))))
theorem Ja (S:SP e):SE e:=fun{k rz L σ x P X} z hm h=>W.YS (S z hm h) fun v τ x e l z q=>.mk x e l z q.2
theorem aac:SJ .nil:=fun{k rz L σ xs P X acc j} z hm ha hk h=>by
 obtain rfl:=qj hm
 have hl:acc.length<=16000:=aK ha (aK (md 1000 hk) (by decide))
 exact W.any (wpAny_mkStr (z.Pj (x:=.str acc) ⟨_,rfl⟩ (h acc hl)) (by rw[l8];exact aK hl (by decide)))
theorem Wq (S:SP e) (T:SJ es):SJ (.cons e es):=fun{k rz L σ xs P X acc j} z hm ha hk h=>by
 revert hk
 refine lF (P:=fun xs=>j+xs.length<=16->W k rz (joinParts acc (evalEach xs k.env)) (Ok k L σ P) X σ) hm fun x xs h1 h2 _ hk=>?_
 show W k rz (joinParts acc (eval x k.env::evalEach xs k.env)) _ _ _
 unfold joinParts
 refine W.nE (S z h1 h) fun v τ y e l z q=>?_
 obtain⟨⟨t,rfl,ht⟩,q⟩:=q
 obtain⟨tk,rfl⟩:=e
 rw[jf] at hk
 have hl:(acc++t).length<=1000*(j+1):=by rw[show(acc++t).length=acc.length+t.length from L5 acc t,SK];exact fS ha ht
 have hj:j+1<=16:=aK (dW (eG (bX _)) j) hk
 refine W.leaf (Ly (a:=some t) rfl ⟨τ.g,τ.H,W.eq (bb (FZ.mpr ?_)) (W.later l (T (j:=j+1) z h2 hl (by rw[dT,nP 1];exact hk) q))⟩)
 exact aK (L5 acc t▸hl) (aK (md 1000 hj) (by rw[l8];decide))
theorem Wv (T:es.parts=ag->SJ es):SE (.gQ es):=fun{k rz L σ x P X} z hm h=>tJ hm fun xs p hh=>by
 rw[arm_eval_JoinedStr]
 have h2:=ij (bx (aU (aU hh)))
 have h3:=ij (bx (aU hh))
 have h1:=aU (aU (aU hh))
 match xs,h2 with
 |x1::x2::xs,_=>exact T (bx hh) (acc:=Str.empty) (j:=0) z h1 (bD _) (by rw[jF];exact h3) h
inductive nX (g:Gh):ah Nm->ah V->ah (av×av)->Prop
 |nil:nX g [] [] []
 |cons {k ks x xs u ps} (t:Tok) (e:er g u x) (r:nX g ks xs ps):nX g (k::ks) (x::xs) ((.str (dQ k) t,u)::ps)
theorem nX.len {g:Gh}{ks:ah Nm}{vs:ah V}{ps:ah (av×av)} (h:nX g ks vs ps):ps.length=ks.length/\ks.length=vs.length:=by
 induction h with
 |nil=>exact⟨rfl,rfl⟩
 |cons t e r ih=>exact⟨aW Nat.succ ih.1,aW Nat.succ ih.2⟩
theorem KH {c:Cx}{g:Gh}{ks:ah Nm}{vs:ah V}{ps:ah (av×av)} (h:nX g ks vs ps):∃ pH,Carries (sk c) ps pH/\dG (WE g) pH (ks.zip vs):=by
 induction h with
 |nil=>exact⟨[],trivial,.nil⟩
 | @cons k ks x xs u ps t e r ih=>
  obtain⟨pH,c1,c2⟩:=ih
  exact⟨(dQ k,u)::pH,⟨c9 rfl,rfl,c1⟩,.cons ⟨rfl,e⟩ c2⟩
inductive OkP (k:Kx) (L:bZ) (σ:Sx) (ks:ah Nm) (Q:ah V->Hp->Prop) (ps:ah (av×av)) (τ:Sx):Prop
 |mk (vs:ah V) (e:nX τ.g ks vs ps) (l:σ.g.le τ.g) (z:At k L τ) (q:Q vs τ.H)
theorem AN:∀ {es:Es}{ks:ah Nm}{keys:ah (aC ay)}{xs:ah ay}{pos:Pos}{σ:Sx}{Q:ah V->Hp->Prop},WC es->At k L σ->HL ks keys=ag->uV k.sc es xs=ag->keys.length=xs.length->wEs k.C es L σ.H Q (lZ X L)->
  W k rz (evalPairs (pairTrees keys xs k.env pos)) (OkP k L σ ks Q) X σ
 |.nil,ks,keys,xs,pos,σ,Q,S,z,hk,hm,hl,h=>by
  obtain rfl:=qj hm
  obtain rfl:=qO.mp hl
  cases ks with
  |nil=>exact W.pure (.mk [] .nil (.refl _) z h)
  |cons=>contradiction
 |.cons e es,ks,keys,xs,pos,σ,Q,S,z,hk,hm,hl,h=>by
  revert hl
  refine lF (P:=fun xs=>keys.length=xs.length->W k rz (evalPairs (pairTrees keys xs k.env pos)) (OkP k L σ ks Q) X σ) hm fun x xs h1 h2 _ hl=>?_
  cases ks with
  |nil=>obtain rfl:=tp (P:=fun l=>l=[]) hk rfl;contradiction
  |cons n ks=>
   cases keys with
   |nil=>contradiction
   |cons y keys=>
    refine uq (P:=fun y=>W k rz (evalPairs (pairTrees (y::keys) (x::xs) k.env pos)) (OkP k L σ (n::ks) Q) X σ) (aU hk) fun y hy=>?_
    refine eQ (P:=fun y=>W k rz (evalPairs (pairTrees (aa y::keys) (x::xs) k.env pos)) (OkP k L σ (n::ks) Q) X σ) hy fun cst d p hc=>?_
    refine vx (P:=fun cst=>W k rz (evalPairs (pairTrees (aa (.Constant cst d p)::keys) (x::xs) k.env pos)) (OkP k L σ (n::ks) Q) X σ) hc fun t ht=>?_
    obtain rfl:=eq_of_beq ht
    refine W.bind (P:=fun v ρ=>v=.str (dQ n) σ.s.toks/\ρ=σ.up σ.s.heap (σ.s.toks+1)) (W.any (Gx ⟨σ.g,σ.H,rfl,rfl⟩)) fun v ρ hv=>?_
    obtain⟨rfl,rfl⟩:=hv
    refine W.bind (P:=fun u ρ=>Ok k L (σ.up σ.s.heap (σ.s.toks+1)) (fun y H=>wEs k.C es L H (fun vs H2=>Q (y::vs) H2) (lZ X L)) u ρ) (W.holding (SE.step S.1 z.tok h1 h fun v τ y e l z q=>W.cY (W.pure (Ok.mk y e l z q)))) fun v τ o=>?_
    obtain⟨y,e,l,z,q⟩:=o
    refine W.bind (W.holding (AN S.2 z (bx hk) h2 (xd hl) q)) fun ps τ' o=>?_
    obtain⟨vs,e',l',z,q⟩:=o
    exact W.pure (.mk (y::vs) (.cons _ (e.le l') e') (l.trans l') z q)
theorem ur:∀ {ks:ah Nm}{keys:ah (aC ay)},HL ks keys=ag->keys.all (·.isSome)=ag
 |[],keys,h=>by obtain rfl:=tp (P:=fun l=>l=[]) h rfl;rfl
 |k::ks,[],h=>by contradiction
 |k::ks,y::keys,h=>have h2:=bx (show(abm k y&&HL ks keys)=ag from h);uq (P:=fun y=>(y::keys).all (·.isSome)=ag) (aU h) fun _ _=>(ur h2:keys.all (·.isSome)=ag)
noncomputable def Kx.at (k:Kx) (σ:Sx):Kx:={k with st:=σ}
theorem At.start (z:At k L σ):At (k.at σ) L σ:={z with rel:=.refl z.rep}
theorem At.back {L':bZ} (z:At k L σ) (w:At (k.at σ) L' ρ):At k L' ρ:={w with rel:=z.rel.trans w.rel fun b hb=>w.own b (k.sub b hb)}
theorem Jo.back (z:At k L σ){e:av}{s':aF} (h:Jo (k.at σ) rz X e s'):Jo k rz X e s':=by
 cases h with
 |Zo L τ w f=>exact .Zo L τ (z.back w) f
 |held h=>obtain⟨L,τ,υ,D,ea,a0,La,he,hf,w,t,f,x⟩:=h;exact .held (.mk L τ υ D ea a0 La he hf (z.back w) t f x)
 |made L τ D ea vs hr he w m g d o x=>exact .made L τ D ea vs hr he (z.back w) m g d o x
theorem W.back (z:At k L σ){m:Sem α}{Q:α->Sx->Prop} (h:W (k.at σ) rz m Q X ρ):W k rz m Q X ρ:=I.bT h (fun _ _ q=>q) fun _ _ w=>w.back z
theorem At.P1 {L':bZ} (w:At (k.at σ) L' ρ) (z:At k L σ){a:ax}{o:Obj} (e:σ.get a=aa o) (f:σ.Off a) (no:a∉k.own) (nr:a∉k.frs):ρ.get a=aa o/\ρ.Off a:=
 ⟨(w.rel.keep a o e f no).k nr,w.rel.off a o e f⟩
theorem Ww {ks:ah Nm} (S:WC es):SE (.dict ks es):=fun{k rz L σ x P X} z hm h=>HA hm fun keys xs p hh=>by
 have h1:=aU (fG hh)
 have h3:=ij (bx (aU (aU (aU hh))))
 have h4:=ij (bx (aU (aU hh)))
 have h5:=ij (bx (aU hh))
 have hn:=pairTrees_length keys xs k.env p (ur h1) h3
 rw[arm_eval_Dict,zip_pairTrees keys xs k.env p (ur h1) h3,dictDisplay_pairs _ (fun e=>by rw[e] at hn;rw[<- hn] at h5;cases h5) (by rw[hn];exact cE h4 (by decide))]
 have na:=di σ.s.heap
 have z0:At k L (σ.up (σ.s.heap.push emptyDict) σ.s.toks):=z.grow fun _ _ h=>jN _ h
 have a0:(σ.up (σ.s.heap.push emptyDict) σ.s.toks).get σ.s.heap.objs.size=aa emptyDict:=jg _ rfl
 have F:=z.rep.fresh na
 refine W.cY (W.bind (P:=fun d τ=>Ok k L σ P (.ref d) τ) (W.leaf (Lz ⟨σ.g,σ.H,?_⟩)) fun d τ o=>W.pure o)
 refine W.bind (P:=fun _ τ=>Ok k L σ P (.ref σ.s.heap.objs.size) τ) (W.holding (W.eq (a8 (hn.symm▸h4)) ?_)) fun _ τ o=>W.pure o
 refine W.bind (W.back z0 (AN (k:=k.at (σ.up (σ.s.heap.push emptyDict) σ.s.toks)) S z0.start h1 (bx (fG hh)) h3 h)) fun ps τ o=>W.holding ?_
 obtain⟨vs,ep,l,w,hlen,q⟩:=o
 obtain⟨a1,nf⟩:=w.P1 z0 a0 (⟨F.z,F.h,F.d⟩:(σ.up (σ.s.heap.push emptyDict) σ.s.toks).Off _) (fun m=>z.zp na (k.sub _ m)) (z.ML na)
 have zb:=z0.back w
 obtain⟨pH,c1,c2⟩:=KH (c:=k.c) ep
 have h6:=ij (bx hh)
 have hnd:(pH.map (·.1)).Nodup:=(ro c2).mpr (by rw[List.map_fst_zip (gY hlen)];exact h6.2)
 refine W.leaf (wpAny_storeAll (knd:=sk k.c) ps pH [] τ.s _ c1 ⟨_,#[],0,a1,⟨rfl,rfl,rfl⟩,rfl,fun _ he=>absurd he (by simp),.nil,List.nodup_nil⟩ ?_ fun h' hm' hs'=>?_)
 ·rw[c1.length,ep.len.1,l8,xj,jF];exact aK h6.1 (by decide)
 ·rw[merged_nil_of_nodup _ hnd] at hm'
  exact⟨τ.g,τ.H.set σ.s.heap.objs.size (.i_ (ks.zip vs)),W.pure (.mk (.ref _) rfl l ((z.new na).adopt (o:=.i_ (ks.zip vs)) zb nf (tk:=τ.s.toks+ps.length) hs'.2 (DictAt.of (σ:=⟨(τ.up h' (τ.s.toks+ps.length)).s,τ.g,τ.H.set σ.s.heap.objs.size (.i_ (ks.zip vs))⟩) hm' c2)) (q _ nf.h))⟩
end
inductive Wh (env:Env) (own:ah ax) (x:Nm):Prop
 |loc (e:env.kindOf (dQ x)=aa .local) (m:env.locals∈own)
 |cell (e:env.kindOf (dQ x)=aa .cell) (m:∀ a∈ownOf env,a∈own)
abbrev Kx.wi (k:Kx) (x:Nm):Prop:=Wh k.env k.own x
inductive GH (k:Kx) (σ:Sx) (P:bZ->Prop) (u:cR) (τ:Sx):Prop
 |mk (L:bZ) (h:bB) (tk:Nat) (e:τ=σ.up h tk) (z:At k L τ) (q:P L)
theorem MI {h h':bB}{a:ax}{m:Str->aC av} (hn:h.Ns a m) (e:h'.get? a=h.get? a):h'.Ns a m:=Al hn fun o q=>⟨o.slots,e.trans q⟩
theorem te {h h':bB}{a:ax}{v:aC av} (hn:h.IsCell a v) (e:h'.get? a=h.get? a):h'.IsCell a v:=uE hn fun o q=>⟨o.slots,e.trans q⟩
theorem qH {az h h':bB}{a:ax} (hs:∀ b,b≠a->h'.get? b=h.get? b) (ha:∃ o,h'.get? a=aa o/\∀ vs,o.data≠.fields vs):∀ {l:ah Env},h.FunFrames az l->h'.FunFrames az l
 |[],_=>trivial
 |env::r,⟨k,⟨L,o,hf,hn,ho,hd⟩,b⟩=>⟨k,if e:L=a then have⟨o',e1,e2⟩:=ha;⟨L,o',hf,hn,e▸e1,e2⟩ else⟨L,o,hf,hn,(hs L e).trans ho,hd⟩,qH hs ha b⟩
theorem Vp {h:bB}{a:ax}{m:Str->aC av} (hn:h.Ns a m):∃ o,h.get? a=aa o/\∀ vs,o.data≠.fields vs:=have⟨o,es,ep,ho,hd,_⟩:=hn;⟨o,ho,fun _ e=>nomatch hd.symm.trans e⟩
theorem OO {h:bB}{a:ax}{v:aC av} (hn:h.IsCell a v):∃ o,h.get? a=aa o/\∀ vs,o.data≠.fields vs:=have⟨o,ho,hd⟩:=hn;⟨o,ho,fun _ e=>nomatch hd.symm.trans e⟩
structure GI (env:Env) (l:ah (Str×d7)) (cs:ah (Str×ax)):Prop where
 c:∀ n a,(n,a)∈cs->env.cells.lookup n=aa a
 f:∀ p∈l,p.2=.free->∃ a,(p.1,a)∈cs
theorem KD {M:eD}{A:bF}{s:aF}{E':av->aF->Prop}{env:Env}{gx:b9} (h:∀ p∈gx.names,p.2=.free->∃ a,env.cells.lookup p.1=aa a){P:ah (Str×ax)->aF->Prop}
  (q:∀ cs,GI env gx.names cs->P cs s):aO M A (closureFor gx env) P E' s:=by
 unfold closureFor
 have key:∀ (l:ah (Str×d7)) (acc:ah (Str×ax)),(∀ p∈l,p.2=.free->∃ a,env.cells.lookup p.1=aa a)->(∀ n a,(n,a)∈acc->env.cells.lookup n=aa a)->
   aO M A (forIn l acc fun(x:Str×d7) (r:ah (Str×ax))=>(if (x.2==.free)=ag then cellOf env x.1>>=fun a=>pure (ForInStep.yield ((x.1,a)::r)) else pure (ForInStep.yield r):Sem (ForInStep (ah (Str×ax))))) (fun cs s'=>s'=s/\GI env l cs/\∀ x∈acc,x∈cs) E' s:=by
  intro l
  induction l with
  |nil=>exact fun acc _ ha=>by rw[Tf];exact bW ⟨rfl,⟨ha,fun _ m=>absurd m uP⟩,fun _ m=>m⟩
  |cons p l ih=>
   intro acc hl ha
   rw[Gj]
   by_cases hf:p.2=.free
   ·obtain⟨a,ea⟩:=hl p (.head _) hf
    rw[a8 (uM.mpr hf)]
    refine bf (bf (wpAny_cellOf ea (bW ?_)))
    refine pj (ih _ (fun p hp=>hl p (.tail _ hp)) fun n a' hm=>(dS.mp hm).elim (fun e=>by cases e;exact ea) (ha n a')) (fun cs s' o=>?_) fun _ _ e=>e
    exact⟨o.1,⟨o.2.1.c,fun p' hp' Zd=>(dS.mp hp').elim (fun e=>⟨a,e▸o.2.2 _ (.head _)⟩) fun m=>o.2.1.f p' m Zd⟩,fun x m=>o.2.2 x (.tail _ m)⟩
   ·rw[bb fun e=>hf (uM.mp e)]
    refine bf (bW ?_)
    refine pj (ih _ (fun p hp=>hl p (.tail _ hp)) ha) (fun cs s' o=>?_) fun _ _ e=>e
    exact⟨o.1,⟨o.2.1.c,fun p' hp' Zd=>(dS.mp hp').elim (fun e=>absurd (e▸Zd) hf) fun m=>o.2.1.f p' m Zd⟩,o.2.2⟩
 exact bf (pj (key gx.names [] h fun _ _ m=>absurd m uP) (fun cs s' o=>bW (o.1▸q cs o.2.1)) fun _ _ e=>e)
section
variable {k:Kx}{rz:aj}{L:bZ}{σ τ:Sx}{X:fj}{x:Nm}{v:av}{y:V}{P:bZ->Prop}{α:Type}
theorem At.bind (z:At k L σ) (e:er σ.g v y){a:ax}{h':bB}{tk:Nat} (mo:a∈k.own) (hs:∀ b,b≠a->h'.get? b=σ.get b) (nf:∃ o,h'.get? a=aa o/\∀ vs,o.data≠.fields vs) (ns:∃ m,h'.Ns k.env.locals m)
  (cl:∀ n a,(n,a)∈k.env.cells->∃ v,h'.IsCell a v) (here:BU k.env h' (dQ x) v) (rest:∀ z u,z≠x->BU k.env σ.s.heap (dQ z) u->BU k.env h' (dQ z) u):At k (L.set x y) (σ.up h' tk):=
 have off:=z.own a (k.sub a mo)
 {rel:={z.rel with
   rep:=z.rep.keeps (fun b o e f=>(hs b fun q=>f (q▸off)).trans e) fun b o e=>(hs b fun q=>bP (k.ob a (k.sub a mo)) (q▸e)).trans (z.rep.stays b o e)
   keep:=fun b o e f nb=>(z.rel.keep b o e f nb).trans fun o' e'=>.refl ((hs b fun q=>nb (q▸mo)).trans e')
   off:=fun b o e f=>have w:=z.rel.off b o e f;⟨w.z,w.h,w.d⟩}
  fm:=⟨qH hs nf z.fm.ff,fun b hb=>have w:=z.fm.ffn b hb;⟨w.z,w.h,w.d⟩⟩
  loc:=fun u w q=>c7 q (fun ex h=>by cases h;exact⟨v,e,ex▸here⟩) fun n h=>have⟨u',e1,e2⟩:=z.loc u w h;⟨u',e1,rest u u' n e2⟩
  own:=fun b hb=>have w:=z.own b hb;⟨w.z,w.h,w.d⟩
  ns:=ns
  cl:=cl}
theorem zO (z:At k L σ) (hk:k.wi x) (e:er σ.g v y){A':bF}{E':av->aF->Prop} (q:P (L.set x y)):aO k.M A' (storeName k.env (dQ x) v) (fun u s'=>fM (GH k σ P u) s') E' σ.s:=by
 obtain⟨m,hn⟩:=z.ns
 cases hk with
 |loc hk mo=>
  refine wpAny_storeName_local hk hn (fun h' hn' hs=>⟨σ.g,σ.H,.mk _ h' _ rfl (z.bind e mo hs.2 (Vp hn') ⟨_,hn'⟩ (fun n a hm=>(z.cl n a hm).elim fun w hw=>⟨w,te hw (hs.2 a (k.lc n a hm))⟩) (.loc hk _ hn' (a8 rfl)) fun z' u zx hz=>?_) q⟩) (by rw[k.kind];rfl)
  cases hz with
  |loc k1 m' hm' e1=>exact .loc k1 _ hn' ((bb fun w=>zx (qi w)).trans ((Heap.Ns.agree hn hm' _).trans e1))
  |cell k1 cc e1 hc=>exact .cell k1 cc e1 (te hc (hs.2 cc (k.lc _ _ (mem_of_lookup e1))))
 |cell hk mo=>
  obtain⟨a,ea⟩:=k.co (dQ x) (.inl hk)
  have hm:=mem_of_lookup ea
  obtain⟨w,hw⟩:=z.cl _ _ hm
  refine wpAny_storeName_cell k.kind hk ea hw fun h' VK hs=>⟨σ.g,σ.H,.mk _ h' σ.s.toks rfl (z.bind (tk:=σ.s.toks) e (mo a (jK hm)) hs.2 (OO VK) ⟨m,MI hn (hs.2 _ (l6 (k.lc _ _ hm)))⟩ (fun n b hb=>?_) (.cell (.inl hk) a ea VK) fun z' u zx hz=>?_) q⟩
  ·exact if eb:b=a then⟨_,eb▸VK⟩ else(z.cl n b hb).elim fun w hw=>⟨w,te hw (hs.2 b eb)⟩
  ·cases hz with
   |loc k1 m' hm' e1=>exact .loc k1 m' (MI hm' (hs.2 _ (l6 (k.lc _ _ hm)))) e1
   |cell k1 cc e1 hc=>exact .cell k1 cc e1 (te hc (hs.2 cc fun q=>zx (qi (k.apart _ _ _ (mem_of_lookup e1) (q▸hm)))))
theorem GH.from {u:cR}{h:bB}{tk:Nat}:GH k (σ.up h tk) P u τ->GH k σ P u τ
 |.mk L h' tk' e z q=>.mk L h' tk' e z q
theorem DJ (z:At k L σ) (hk:k.wi x) (e:er σ.g v y) (q:P (L.set x y)):W k rz (bindName k.env (dQ x) v) (GH k σ P) X σ:=I.bindName (zO z hk e q)
theorem rS (z:At k L σ){p:Pos} (hk:k.wi x) (e:er σ.g v y) (q:P (L.set x y)):W k rz (assign (.Name (dQ x) p) k.env v) (GH k σ P) X σ:=by
 rw[arm_assign_Name]
 exact W.cY (DJ z hk e q)
theorem W.XD {m:Sem cR}{f:cR->Sem α}{Q:α->Sx->Prop} (h:W k rz m (GH k σ P) X σ) (K:∀ L hp tk,At k L (σ.up hp tk)->P L->W k rz (f ()) Q X (σ.up hp tk)):W k rz (m>>=f) Q X σ:=W.bind h fun u τ o=>match o with
 |.mk L hp tk e z q=>by subst e;exact K L hp tk z q
theorem IK:∀ {fL:ah Nm}{xs:ah ay}{us:ah av}{vs:ah V}{L:bZ}{σ:Sx},At k L σ->wN fL xs=ag->(∀ x∈fL,k.wi x)->dG (er σ.g) us vs->fL.length=vs.length->P (L.sets fL vs)->
  W k rz (assignInOrder ((assignEach xs k.env).map (·.2)) us) (GH k σ P) X σ
 |[],xs,us,vs,L,σ,z,hm,hk,e,hl,q=>by
  obtain rfl:=tp (P:=fun l=>l=[]) hm rfl
  obtain rfl:=qO.mp hl.symm
  exact W.pure (.mk L σ.s.heap σ.s.toks rfl z q)
 |x::fL,[],us,vs,L,σ,z,hm,hk,e,hl,q=>by contradiction
 |x::fL,x1::xs,us,[],L,σ,z,hm,hk,e,hl,q=>by contradiction
 |x::fL,x1::xs,us,y::vs,L,σ,z,hm,hk,e,hl,q=>by
  have h2:=bx (show(nq (dQ x) x1&&wN fL xs)=ag from hm)
  obtain⟨u,us,rfl,e1,e2⟩:=e.Xw
  refine gR (P:=fun x1=>W k rz (assignInOrder ((assignEach (x1::xs) k.env).map (·.2)) (u::us)) (GH k σ P) X σ) (aU hm) fun p=>?_
  refine W.XD (P:=fun L'=>L'=L.set x y) (W.holding (rS z (hk x (.head _)) e1 rfl)) fun L' h tk z' q'=>?_
  subst q'
  exact W.bT (IK (L:=L.set x y) z' h2 (fun z m=>hk z (.tail _ m)) e2 (xd hl) q) fun _ _=>GH.from
theorem Ap {env:Env}:∀ {fL:ah Nm}{xs:ah ay},wN fL xs=ag->(assignEach xs env).length=fL.length/\(assignEach xs env).findIdx? (·.1)=au
 |[],xs,h=>by obtain rfl:=tp (P:=fun l=>l=[]) h rfl;exact⟨rfl,rfl⟩
 |x::fL,[],h=>by contradiction
 |x::fL,y::xs,h=>by
  have h2:=Ap (env:=env) (bx (show(nq (dQ x) y&&wN fL xs)=ag from h))
  refine gR (P:=fun y=>(assignEach (y::xs) env).length=(x::fL).length/\(assignEach (y::xs) env).findIdx? (·.1)=au) (aU h) fun p=>⟨aW Nat.succ h2.1,?_⟩
  show List.findIdx? _ ((ao,assign (.Name (dQ x) p) env)::assignEach xs env)=au
  rw[TZ,h2.2];rfl
@[elab_as_elim] theorem MG {k:ah V->Prop}{P:V->Prop} (h:MH k y) (K:∀ vs,k vs->P (.tup vs)):P y:=match y,h with
 |.tup vs,h=>K vs h
theorem PY (z:At k L σ){tup:aj}{fL:ah Nm}{target:ay} (hm:Kf tup fL target=ag) (hk:∀ x∈fL,k.wi x) (e:er σ.g v y) (h:qK tup fL y L P):W k rz (assign target k.env v) (GH k σ P) X σ:=by
 cases tup with
 |false=>exact ry (P:=fun fL=>qK ao fL y L P->(∀ x∈fL,k.wi x)->W k rz (assign target k.env v) (GH k σ P) X σ) hm (fun x hx h hk=>gR hx fun p=>rS z (hk x (.head _)) e h) h hk
 |true=>
  refine MG (P:=fun y=>er σ.g v y->W k rz (assign target k.env v) (GH k σ P) X σ) h (fun vs h e=>pD (P:=fun target=>W k rz (assign target k.env v) (GH k σ P) X σ) hm fun xs c p hx=>?_) e
  obtain⟨a,rfl,ez⟩:=e
  obtain⟨ws,n,ht,r⟩:=(z.rep.yr _ _ ez:SeqAt _ _ _ _)
  obtain⟨n1,n2⟩:=Ap (env:=k.env) hx
  rw[arm_assign_Tuple]
  refine W.cY ?_
  unfold unpack
  rw[n2,n1.trans (h.1.trans r.length.symm)]
  refine W.bind (P:=fun us τ=>us=ws.toList/\∃ h',τ=σ.up h' σ.s.toks/\At k L τ) (W.holding (W.any (wpAny_unpackItems_tuple k.ca.hd ⟨_,ht,rfl,_,rfl⟩ fun h' he=>⟨σ.g,σ.H,rfl,h',rfl,z.grow (tk:=σ.s.toks) fun b o eb=>he b o (sy (qw eb)) eb⟩))) fun us τ o=>?_
  obtain⟨rfl,h',rfl,z'⟩:=o
  exact W.bT (IK z' hx hk r h.1 h.2) fun _ _=>GH.from
end
noncomputable def Kd:fj:=fun _ _ _=>False
section
variable {k:Kx}{rz:aj}{L:bZ}{σ τ ρ:Sx}{X:fj}{α:Type}
theorem Jo.none {e:av}{s:aF}{p:Prop}:Jo k rz Kd e s->p
 |.Zo _ _ _ f=>match f with |.mk _ _ _ _ _ _ _ x=>x.elim
 |.held h=>match h with |.mk _ _ _ _ _ _ _ _ _ _ _ _ x=>x.elim
 |.made _ _ _ _ _ _ _ _ _ _ _ _ x=>x.elim
inductive NF (c:fi) (J:Nat->Sx->Prop) (Done:Sx->Prop) (n:Nat) (σ:Sx):Fin->Prop
 |done (h:Done σ):NF c J Done n σ (.done .next)
 |again (m:Nat) (h:m < n) (j:J m σ):NF c J Done n σ (.again c)
theorem ON {elt target iter:ay}{ifs:ah ay}{scope:b9}{pos:Pos}{it acc:av}{env:Env} (J:Nat->Sx->Prop) (Done:Sx->Prop)
  (turn:∀ n σ,J n σ->W k rz (compTurn (.ListComp elt [⟨target,iter,ifs,0⟩] scope pos) 0 it acc env) (fun f τ=>NF (.compLoop (.ListComp elt [⟨target,iter,ifs,0⟩] scope pos) 0 it acc env) J Done n τ f) Kd σ) (n:Nat) (h:J n σ):
  iJ k.M k.A (.compLoop (.ListComp elt [⟨target,iter,ifs,0⟩] scope pos) 0 it acc env) (fun r s'=>r=.ok .next/\fM Done s') σ.s:=by
 refine I.loop (c:=.compLoop (.ListComp elt [⟨target,iter,ifs,0⟩] scope pos) 0 it acc env) rfl (fun _ _=>rfl) (fun n s=>fM (J n) s) (fun n s j=>?_) n ⟨σ.g,σ.H,h⟩
 obtain⟨g,H,j⟩:=j
 refine I.onRaise (m:=compTurn (.ListComp elt [⟨target,iter,ifs,0⟩] scope pos) 0 it acc env) (I.bT (turn n ⟨s,g,H⟩ j) (fun f s' o=>?_) fun _ _=>Jo.none)
 obtain⟨g',H',o⟩:=o
 cases o with
 |done h=>exact⟨rfl,g',H',h⟩
 |again m h j=>exact⟨rfl,m,h,g',H',j⟩
theorem KA {elt target iter:ay}{ifs:ah ay}{scope:b9}{pos:Pos}{it acc:av}{env:Env}{R:fp->aF->Prop}{prog:dx}{w:dy}{A:bF}{s:aF}
  (h0:iJ (model prog w) A (.compLoop (.ListComp elt [⟨target,iter,ifs,0⟩] scope pos) 0 it acc env) R s) (hp:∀ P:av->aF->Prop,P it s->aO (model prog w) A (pyIter it) P (fun _ _=>False) s):
  iJ (model prog w) A (.compStart (.ListComp elt [⟨target,iter,ifs,0⟩] scope pos) 0 it acc env) R s:=by
 refine I.tree (c:=.compStart (.ListComp elt [⟨target,iter,ifs,0⟩] scope pos) 0 it acc env) (fun _ _=>rfl) ?_
 refine I.onRaise (m:=PySem.compStart (.ListComp elt [⟨target,iter,ifs,0⟩] scope pos) 0 it acc env) (I.bT (E:=fun _ _=>False) ?_ (fun _ _ z=>z) fun _ _ z=>z.elim)
 unfold PySem.compStart
 refine I.bind (m:=ask) (I.any (TA ?_))
 refine if h:(⟨(model prog w).prog,(model prog w).w.params⟩:Setting).params.followText "comprehension-iter-twice"=ag then ?_ else ?_
 ·exact I.ifT h (I.pure ⟨rfl,h0⟩)
 ·exact I.HS h (I.leaf (sm (I.cY (I.leaf (hp _ (I.pure ⟨rfl,h0⟩))))))
theorem Ox {M:eD}{A:bF}{s:aF}{E':av->aF->Prop}{target:ay}{a l:ax}{i:Nat}{v:av} (hit:s.heap.IsListIter a l i){P:cR->aF->Prop} (q:P () s):aO M A (letOwnedTupleGo target (.ref a) v) P E' s:=by
 obtain⟨o,ho,hc,hd⟩:=hit
 have body:aO M A (letOwnedTupleGo (.List [] ⟨0,0,0,0⟩) (.ref a) v) P E' s:=by
  cases v with
  |ref b=>
   refine bf (xc ho ?_)
   rw[hc,hd]
   exact fW (fun h=>absurd (aU h) (by decide)) (bW q)
  |_=>exact bW q
 cases target with
 |Tuple=>exact body
 |List=>exact body
 |_=>exact bW q
structure Pq (k:Kx) (aI aD ls:ax) (src:V) (full acc r:ah V) (L:bZ) (σ:Sx):Prop where
 z:At k L σ
 it:∃ i,σ.s.heap.IsListIter aI ls i/\full.drop i=r
 bE:∃ vs m,σ.get aD=aa ⟨.type "list",au,.seq vs m,#[]⟩/\dG (er σ.g) vs.toList acc
 src:er σ.g (.ref ls) src
 nI:σ.Off aI
 nD:σ.Off aD
structure Ux (k:Kx) (aI aD:ax):Prop where
 ne:aI≠aD
 I:k.Jm aI
 D:k.Jm aD
variable {aI aD ls:ax}{src:V}{full acc r:ah V}{L':bZ}
theorem Kx.Jm.off {a:ax} (n:k.Jm a) (z:At k L σ) (w:At (k.at σ) L' τ){o:Obj} (e:σ.get a=aa o) (f:σ.Off a):τ.get a=aa o/\τ.Off a:=w.P1 z e f (fun m=>n.no _ (.inr (k.sub _ m)) rfl) fun m=>n.no _ (.inl m) rfl
theorem Pq.step (x:Pq k aI aD ls src full acc r L σ) (N:Ux k aI aD) (w:At (k.at σ) L' τ) (l:σ.g.le τ.g):Pq k aI aD ls src full acc r L' τ:=by
 obtain⟨i,⟨o,ho,hc,hd⟩,e⟩:=x.it
 obtain⟨vs,m,hD,hr⟩:=x.bE
 have h1:=N.I.off x.z w ho x.nI
 have h2:=N.D.off x.z w hD x.nD
 exact⟨x.z.back w,⟨i,⟨o,h1.1,hc,hd⟩,e⟩,⟨vs,m,h2.1,hr.bT fun _ _ w=>w.le l⟩,x.src.le l,h1.2,h2.2⟩
theorem Pq.next (x:Pq k aI aD ls src full acc r L σ) (N:Ux k aI aD){h':bB}{i:Nat}{r':ah V} (hi:h'.IsListIter aI ls i) (hr:full.drop i=r') (hs:∀ b o,b≠aI->σ.get b=aa o->h'.get? b=aa o):Pq k aI aD ls src full acc r' L (σ.up h' σ.s.toks):=by
 obtain⟨vs,m,hD,hq⟩:=x.bE
 exact⟨N.I.turn x.z x.nI hs,⟨i,hi,hr⟩,⟨vs,m,hs aD _ (l6 N.ne) hD,hq⟩,x.src,⟨x.nI.z,x.nI.h,x.nI.d⟩,⟨x.nD.z,x.nD.h,x.nD.d⟩⟩
theorem Pq.push (x:Pq k aI aD ls src full acc r L σ) (N:Ux k aI aD){v:av}{y:V} (ey:er σ.g v y) (hl:acc.length<=line){P:av->Sx->Prop} (q:∀ τ,τ.H=σ.H->Pq k aI aD ls src full (acc++[y]) r L τ->P .none τ):
  W k rz (PySem.call (.builtin "list.append") [.ref aD,v]) P X σ:=by
 obtain⟨vs,m,hD,hq⟩:=x.bE
 obtain⟨i,⟨o,ho,hc,hd⟩,e⟩:=x.it
 obtain⟨n2,e6⟩:=zR (f:=fun xs=>xs.push v) hD
 have k1:∀ b,b≠aD->(σ.s.heap.update aD (Obj.mapSeq fun xs=>xs.push v)).get? b=σ.get b:=fun b nb=>I9 _ _ (l6 nb)
 exact W.any (call_meets X5 ⟨_,hD,rfl⟩ Yc (acn _ _) (TO aD vs m v (by rw[fC hq];exact f_ hl)) ⟨hD,σ.g,σ.H,q _ rfl
  ⟨N.D.turn (tk:=σ.s.toks) x.z x.nD fun b o nb e=>(k1 b nb).trans e,⟨i,⟨o,(k1 aI N.ne).trans ho,hc,hd⟩,e⟩,⟨_,n2,e6,by rw[TN];exact hq.append (.cons ey .nil)⟩,x.src,⟨x.nI.z,x.nI.h,x.nI.d⟩,⟨x.nD.z,x.nD.h,x.nD.d⟩⟩⟩)
end
theorem bZ.G8 {x:Nm}:∀ {xs:ah Nm}{vs:ah V}{L:bZ},x∉xs->L.sets xs vs x=L x
 |[],_,_,_=>rfl
 |_::_,[],_,_=>rfl
 |y::ys,v::vs,L,h=>(bZ.G8 (xs:=ys) fun q=>h (.tail _ q)).trans (bb fun(q:x=y)=>h (q▸.head _))
def bZ.le (L L':bZ):Prop:=∀ x v,L x=aa v->L' x=aa v
theorem KZ {tup:aj}{fL:ah Nm}{y:V}{L:bZ}{P:bZ->Prop} (h:qK tup fL y L P) (n:∀ x∈fL,L x=au):qK tup fL y L fun L1=>P L1/\L.le L1:=by
 cases tup with
 |true=>exact MG (P:=fun y=>qK ag fL y L fun L1=>P L1/\L.le L1) h fun vs h=>⟨h.1,h.2,fun z v e=>(bZ.G8 fun q=>bP (n z q) e).trans e⟩
 |false=>match fL,h,n with
  |[x],h,n=>exact⟨h,fun z v e=>(bb fun q=>bP (n x (.head _)) (q▸e)).trans e⟩
def WS (C:CC) (elt:E) (tup:aj) (fL:ah Nm) (c:E) (L:bZ) (v:V) (H:Hp) (k:aC V->Hp->Prop):Prop:=
 qK tup fL v L fun L1=>wE C c L1 H (fun x H3=>Got (cond c.yD (aa ag) (truth H3 x)) fun t=>cond t (wE C elt L1 H3 (fun y H4=>k (aa y) H4) Vq) (k au H3)) Vq
section
variable {k:Kx}{rz:aj}{L Lf:bZ}{σ τ ρ:Sx}{X:fj}{aI aD ls:ax}{src:V}{full:ah V}{J:ah V->ah V->Hp->Prop}{Q':ah V->Hp->Prop}
theorem At.zr (z:At k L σ){a:ax}{x:V}{xs:ah V} (e:er σ.g (.ref a) x) (h:listOf σ.H x=aa xs):SeqAt σ a "list" xs:=by
 cases x with
 |bE=>(injection h with h;cases h);obtain⟨b,eb,hz⟩:=e;cases eb;exact z.rep.yr _ _ hz
 |ref b=>cases(show Value.ref a=.ref b from e);exact z.rep.bE h
 |_=>contradiction
theorem drop_cons {α:Type}{y:α}{r:ah α}:∀ {full:ah α}{i:Nat},full.drop i=y::r->full[i]? =aa y/\full.drop (i+1)=r
 |[],i,e=>by rw[BJ] at e;contradiction
 |_::_,0,e=>by cases e;exact⟨rfl,rfl⟩
 |_::full,i+1,e=>drop_cons (full:=full) (i:=i) e
inductive CJ (k:Kx) (aI aD ls:ax) (src:V) (full:ah V) (J:ah V->ah V->Hp->Prop) (Lf:bZ) (n:Nat) (σ:Sx):Prop
 |mk (acc r:ah V) (L:bZ) (x:Pq k aI aD ls src full acc r L σ) (hL:Lf.le L) (j:J r acc σ.H) (hl:acc.length+r.length<=full.length) (hn:n=r.length)
inductive aev (k:Kx) (aD:ax) (Q':ah V->Hp->Prop) (σ:Sx):Prop
 |mk (acc:ah V) (L:bZ) (z:At k L σ) (vs:bS av) (m:Nat) (hD:σ.get aD=aa ⟨.type "list",au,.seq vs m,#[]⟩) (hq:dG (er σ.g) vs.toList acc) (nD:σ.Off aD) (q:Q' acc σ.H)
theorem OM {elt c:E}{tup:aj}{fL:ah Nm}{x target iter:ay}{ifs:ah ay}{scope:b9}{pos:Pos} (Se:SE elt) (St:ST c) (N:Ux k aI aD) (hm:Kf tup fL target=ag) (hk:∀ x∈fL,k.wi x) (he:mE k.sc elt x=ag)
  (hi:cond c.yD (l0 ifs) (l1 ifs fun t=>mE k.sc c t)=ag) (nl:∀ x∈fL,Lf x=au) (hln:full.length<=line) (hd:∀ acc H,J [] acc H->gO H src=aa full/\Q' acc H)
  (hs:∀ v r acc H,J (v::r) acc H->gO H src=aa full/\WS k.C elt tup fL c Lf v H fun o H'=>J r (Wc acc o) H') (n:Nat) (σ:Sx) (h:CJ k aI aD ls src full J Lf n σ):
  W k rz (compTurn (.ListComp x [⟨target,iter,ifs,0⟩] scope pos) 0 (.ref aI) (.ref aD) k.env) (fun f τ=>NF (.compLoop (.ListComp x [⟨target,iter,ifs,0⟩] scope pos) 0 (.ref aI) (.ref aD) k.env) (CJ k aI aD ls src full J Lf) (aev k aD Q') n τ f) Kd σ:=by
 obtain⟨acc,r,L',w,hL,j,hl,rfl⟩:=h
 obtain⟨i,hit,e⟩:=w.it
 rw[compTurn_list]
 refine W.cY ?_
 cases r with
 |nil=>
  obtain⟨q1,q2⟩:=hd _ _ j
  obtain⟨vs,hv,ra⟩:=(w.z.zr w.src q1).list
  refine W.leaf (XN k.ca.hd hit hv (XT (fC ra▸XH.mp e)) fun h' hs=>⟨σ.g,σ.H,W.pure (.done ?_)⟩)
  obtain⟨ws,m,hD,hq⟩:=w.bE
  exact .mk acc L' (N.I.turn (tk:=σ.s.toks) w.z w.nI hs) ws m (hs aD _ (l6 N.ne) hD) hq ⟨w.nD.z,w.nD.h,w.nD.d⟩ q2
 |cons y r=>
  obtain⟨q1,q2⟩:=hs _ _ _ _ j
  obtain⟨vs,hv,ra⟩:=(w.z.zr w.src q1).list
  obtain⟨e1,e2⟩:=drop_cons e
  obtain⟨v,e3,e4⟩:=ra.get e1
  refine W.leaf (XS hit hv ((BA ..).symm.trans e3) fun h' Pn hs=>⟨σ.g,σ.H,W.leaf (Ox Pn ⟨σ.g,σ.H,?_⟩)⟩)
  have w2:=w.next N Pn e2 (fun b o nb e=>(hs.2 b nb).trans e)
  refine W.bind (W.back w2.z (PY (k:=k.at (σ.up h' σ.s.toks)) (w2.z.ab4 hL).start hm hk e4 (KZ q2 nl))) fun _ τ o=>?_
  obtain⟨L1,h1,tk1,rfl,z1,q3,hL1⟩:=o
  have w3:=w2.step N z1 (.refl _)
  refine W.bind (P:=fun ok τ=>Pq k aI aD ls src full acc r L1 τ/\cond ok (wE k.C elt L1 τ.H (fun y H4=>J r (Wc acc (aa y)) H4) Vq) (J r acc τ.H)) ?_ fun ok τ o=>?_
  ·cases hc:c.yD with
   |true=>
    rw[hc] at hi
    obtain rfl:=Uw hc
    obtain rfl:=tp (P:=fun l=>l=[]) hi rfl
    obtain⟨t,e,q⟩:=q3
    cases e
    exact W.pure ⟨w3,q⟩
   |false=>
    rw[hc] at hi q3
    refine ry (P:=fun ifs=>W k rz (forIn ifs ag fun c r=>if r=ag then do let ok <- isTrue c k.env (eval c k.env);Pure.pure (ForInStep.yield ok) else Pure.pure (ForInStep.yield r)) _ _ _) hi fun t ht=>?_
    rw[Gj]
    refine W.bind (P:=fun s τ=>∃ ok,s=.yield ok/\Pq k aI aD ls src full acc r L1 τ/\cond ok (wE k.C elt L1 τ.H (fun y H4=>J r (Wc acc (aa y)) H4) Vq) (J r acc τ.H)) (W.eq (a8 rfl) (W.bind (W.back w3.z (St (k:=k.at _) (X:=Kd) w3.z.start ht q3 fun v H q=>q)) fun ok τ o=>?_)) fun s τ o=>?_
    ·obtain⟨l,z4,q4⟩:=o
     exact W.pure ⟨ok,rfl,w3.step N z4 l,q4⟩
    ·obtain⟨ok,rfl,o⟩:=o
     exact W.pure o
  ·obtain⟨w4,q4⟩:=o
   cases ok with
   |false=>exact W.eq (bb cj) (W.pure (.again r.length (nS _) (.mk acc r L1 w4 hL1 q4 (LY hl) rfl)))
   |true=>
    refine W.eq (a8 rfl) (W.bind (P:=fun _ τ=>CJ k aI aD ls src full J Lf r.length τ) (W.bind (W.back w4.z (Se (k:=k.at _) (X:=Kd) w4.z.start he q4)) fun u τ o=>?_) fun _ τ o=>W.pure (.again r.length (nS _) o))
    obtain⟨y,ey,l,z5,q5⟩:=o
    refine W.bind ((w4.step N z5 l).push N ey (aK (aK (ft _ _) hl) hln) (P:=fun _ τ=>CJ k aI aD ls src full J Lf r.length τ) fun τ hH x=>.mk _ r L1 x hL1 (hH▸q5) ?_ rfl) fun _ τ o=>W.pure o
    exact(bN (as:=acc) (bs:=[y])).symm▸(iE acc.length 1 r.length).symm▸hl
end
theorem jL {sc:b9}{n:Str}{k:d7} (h:qm sc n k=ag):sc.names.lookup n=aa k:=eq_of_beq h
theorem W4 {a b:aj}{p q:Prop} (h:(a || b)=ag) (x:a=ag->p) (y:b=ag->q):p∨q:=(nT.mp h).imp x y
structure InF (sc gx:b9) (fvs aaS:ah Nm):Prop where
 fv:∀ x∈fvs,(fP sc gx).names.lookup (dQ x)=aa .free∨(fP sc gx).names.lookup (dQ x)=aa .cell
 fL:∀ x∈aaS,(fP sc gx).names.lookup (dQ x)=aa .local
 Kc:∀ p∈gx.names,p.2≠.cell
 free:∀ p∈gx.names,p.2=.free->sc.names.lookup p.1=aa .cell∨sc.names.lookup p.1=aa .free
 loc:∀ p∈gx.names,p.2=.local->(fP sc gx).names.lookup p.1=aa .local
 apart:∀ x∈fvs,x∉aaS
theorem inF {sc gx:b9}{fv fL:ah Nm} (h:Fg sc gx fv fL=ag):InF sc gx fv fL:=
 have h1:=l_.mp (aU (aU (aU h)))
 have h2:=l_.mp (bx (aU (aU h)))
 have h3:=l_.mp (bx (aU h))
 have h4:=l_.mp (bx h)
 {fv:=fun x hx=>W4 (h1 x hx) jL jL
  fL:=fun x hx=>jL (h2 x hx)
  Kc:=fun p hp=>l7.mp (aU (aU (h3 p hp)))
  free:=fun p hp q=>(nT.mp (bx (aU (h3 p hp)))).elim (fun h=>(nT.mp h).elim (fun e=>absurd q (l7.mp e)) fun e=>.inl (jL e)) fun e=>.inr (jL e)
  loc:=fun p hp q=>(nT.mp (bx (h3 p hp))).elim (fun e=>absurd q (l7.mp e)) jL
  apart:=fun x hx m=>absurd (XQ.mpr m) (uT (not_of (h4 x hx)))}
theorem InF.from {sc gx:b9}{fv fL:ah Nm} (F:InF sc gx fv fL){n:Str} (h:(fP sc gx).names.lookup n=aa .cell∨(fP sc gx).names.lookup n=aa .free):(n,NameKind.free)∈gx.names:=by
 have key:∀ κ,(fP sc gx).names.lookup n=aa κ->κ≠.local->(n,NameKind.free)∈gx.names∨(n,κ)∈gx.names:=fun κ e _=>by
  obtain⟨⟨m,k0⟩,hm,e⟩:=l9.mp (mem_of_lookup e)
  refine c7 e (fun c e=>?_) fun _ e=>?_
  ·cases e;exact .inl ((eq_of_beq (aU (aU c)):k0=.free)▸hm)
  ·cases e;exact .inr hm
 exact h.elim (fun e=>(key _ e nofun).elim id fun m=>absurd rfl (F.Kc _ m)) fun e=>(key _ e nofun).elim id id
theorem Dr {y:ay} (h:y.ctorIdx≠7) (env:Env) (x:av):foldedSetIterable y env x=pure x:=by
 cases y<;>first |rfl |exact absurd rfl h
noncomputable def AB (env:Env) (gx:b9) (aL:ax) (cs:ah (Str×ax)):Env:={newEnv gx aL env.globals cs env.qual au .none (aa env) builtinsNs with scope:=fP env.scope gx}
section
variable {k:Kx}{rz:aj}{L:bZ}{σ τ ρ:Sx}{X:fj}{gx:b9}{fv fL:ah Nm}{cs:ah (Str×ax)}{aL:ax}
structure Uv (k:Kx) (gx:b9) (fv fL:ah Nm) (cs:ah (Str×ax)) (aL:ax) (σ:Sx):Prop where
 F:InF k.sc gx fv fL
 kd:gx.kind=.function
 cl:GI k.env gx.names cs
 na:σ.get aL=au
 z:∃ L,At k L σ
theorem Uv.mc (I:Uv k gx fv fL cs aL σ){n:Str}{a:ax} (h:(n,a)∈cs):(n,a)∈k.env.cells:=mem_of_lookup (I.cl.c n a h)
theorem Uv.ne (I:Uv k gx fv fL cs aL σ):∀ n a,(n,a)∈cs->a≠aL:=fun n a h e=>I.z.elim fun L z=>z.zp I.na (e▸jK (I.mc h))
theorem Uv.look (I:Uv k gx fv fL cs aL σ){n:Str} (h:(n,NameKind.free)∈gx.names):∃ a,cs.lookup n=aa a:=by
 obtain⟨a,ham⟩:=I.cl.f _ h rfl
 cases e:cs.lookup n with
 |some b=>exact⟨b,rfl⟩
 |none=>exact absurd rfl (l7.mp ((List.lookup_eq_none_iff.mp e) _ ham))
noncomputable def Kx.inner (k:Kx) (I:Uv k gx fv fL cs aL σ):Kx:=
 {k with
  env:=AB k.env gx aL cs
  own:=[aL]
  st:=σ
  sub:=fun a m=>eR.mp m▸.head _
  kind:=I.kd
  gl:=k.gl
  bl:=k.bl
  ob:=fun b m=>(dS.mp m).elim (fun e=>I.z.elim fun L z=>e▸z.rep.az I.na) fun m=>have⟨⟨n,a⟩,hm,e⟩:=l9.mp m;k.ob b (e▸jK (I.mc hm))
  apart:=fun n n' a h h'=>k.apart n n' a (I.mc h) (I.mc h')
  lc:=I.ne
  co:=fun n h=>I.look (I.F.from h)
  ef:=k.ef}
theorem At.inner (z:At k L σ) (I:Uv k gx fv fL cs aL σ){h':bB}{tk:Nat} (grow:∀ b o,σ.get b=aa o->h'.get? b=aa o) (hn:h'.Ns aL fun _=>au):At (k.inner I) (L.only fv) (σ.up h' tk):=
 have w:At k L (σ.up h' tk):=z.grow grow
 have f:=z.rep.fresh I.na
 {rel:=.grow z.rep grow
  fm:=w.fm
  loc:=fun x v e=>c7 e (fun hx e=>by
   obtain⟨u,e1,e2⟩:=w.loc x v e
   have hfr:=(I.F.fv x hx).symm
   have hm:=I.F.from hfr
   obtain⟨a,ea⟩:=I.look hm
   cases e2 with
   |loc k1=>exact(I.F.free _ hm rfl).elim (fun e=>nomatch e.symm.trans k1) fun e=>nomatch e.symm.trans k1
   |cell _ c q hc=>exact⟨u,e1,.cell hfr a ea ((eH (q.symm.trans (I.cl.c _ _ (mem_of_lookup ea))):c=a)▸hc)⟩) fun _ e=>by contradiction
  own:=fun b hb=>(dS.mp hb).elim (fun e=>e▸⟨f.z,f.h,f.d⟩) fun m=>have⟨⟨n,a⟩,hm,e⟩:=l9.mp m;w.own b (e▸jK (I.mc hm))
  ns:=⟨_,hn⟩
  cl:=fun n a h=>w.cl n a (I.mc h)}
theorem At.outer {L':bZ}{I:Uv k gx fv fL cs aL σ} (z:At k L σ) (w:At (k.inner I) L' ρ):At k L ρ:=
 z.step {w.rel with keep:=fun b o e f _=>w.rel.keep b o e f fun m=>bP I.na ((eR.mp m:b=aL)▸e)}
theorem Kx.Jm.inner {a:ax} (I:Uv k gx fv fL cs aL σ) (n:k.Jm a) (ne:a≠aL) (na:σ.get a=au):(k.inner I).Jm a where
 st o e:=bP na e
 az:=n.az
 no b m e:=m.elim (fun m=>n.no b (.inl m) e) fun m=>(dS.mp m).elim (fun q=>ne (e.symm.trans q)) fun m=>have⟨⟨n',a'⟩,hm,e'⟩:=l9.mp m;n.no b (.inr (e'▸jK (I.mc hm))) e
end
section
variable {k:Kx}{rz:aj}{L:bZ}{σ τ ρ:Sx}{X:fj}{α:Type}{Q:α->Sx->Prop}{P:PV}{a:ax}{xs:ah V}
theorem W.UR {c:Prop} [cN c] {pos:Pos}{f:PUnit->Sem α} (h:W k rz (f ()) Q X σ):W k rz (if c then(PySem.standAt pos>>=f) else f ()) Q X σ:=W.ite (fun _=>W.cY h) fun _=>h
theorem W.eqB {β:Type}{m:Sem β}{a:β}{f:β->Sem α} (e:m=Pure.pure a) (h:W k rz (f a) Q X σ):W k rz (m>>=f) Q X σ:=I.eq e h
theorem Kx.Jm.mkL (n:k.Jm a) (w:At k L τ) (nf:τ.Off a){vs:bS av}{m:Nat} (e:τ.get a=aa ⟨.type "list",au,.seq vs m,#[]⟩) (r:dG (er τ.g) vs.toList xs){fz:aj} (h:Mine.mk fz xs τ.H P):
  ∃ g H x,er g (.ref a) x/\τ.g.le g/\At k L ⟨τ.s,g,H⟩/\P x H/\∀ b,b≠a->τ.Off b->(⟨τ.s,g,H⟩:Sx).Off b:=by
 cases fz with
 |false=>exact⟨τ.g,_,.ref a,rfl,.refl _,n.adopt (o:=.bE xs) (h':=τ.s.heap) (tk:=τ.s.toks) w nf (fun _ _=>rfl) (.mk vs m e r),h.2 a nf.h,fun b ne f=>⟨f.z,(Hp.zQ _ ne).trans f.h,f.d⟩⟩
 |true=>
  refine⟨τ.g.yw a (.bE xs),τ.H,.bE xs,RA,Gh.ll nf.z,?_,h.2,fun b ne f=>⟨(Gh.sR ne).trans f.z,f.h,f.d⟩⟩
  have:=w.move (Rel.JL (s':=τ.s) (x:=.bE xs) w.rel n.st nf.z nf.d (fun _ _ h=>h) (.mk vs m e (r.bT fun _ _ e=>e.le (Gh.ll nf.z))) rfl rfl rfl) (Gh.ll nf.z) fun b m f o e=>⟨⟨o.slots,e⟩,(Gh.sR (n.no b m)).trans f.z,(Hp.zz (n.no b m)).trans f.h,f.d⟩
  rwa [ux nf.h] at this
structure LG (k:Kx) (ρ:Sx) (rQ:Env) (vars:ah (Str×d7)):Prop where
 kind:rQ.scope.kind=.function
 nm:∀ p∈vars,p.2=.local->rQ.kindOf p.1=aa .local
 ns:∃ m,ρ.s.heap.Ns rQ.locals m
 new:k.Jm rQ.locals
 off:ρ.Off rQ.locals
theorem LG.go {rQ:Env}{vars vs:ah (Str×d7)}{cellsOf:ah (Str×d7)->ah av} (G:LG k ρ rQ vars) (z:At k L ρ) (hv:∀ p∈vs,p∈vars){Q:cR->Sx->Prop} (q:∀ h',At k L (ρ.up h' ρ.s.toks)->Q () (ρ.up h' ρ.s.toks)):W k rz (comprehension.letGo rQ cellsOf vs) Q X ρ:=by
 obtain⟨m,hn⟩:=G.ns
 exact W.any (wpAny_comp_letGo G.kind vs ρ.s m (fun p hp=>G.nm p (hv p hp)) hn fun h' m' _ hs=>⟨ρ.g,ρ.H,q h' (G.new.turn z G.off fun b o nb e=>(hs.2 b nb).trans e)⟩)
noncomputable def RM (use:aC (av->Sem cR)) (acc:av) (rQ:Env) (cellsOf:ah (Str×d7)->ah av) (vars:ah (Str×d7)):Sem av:=match use with
 |none=>do holding [acc] (comprehension.letGo rQ cellsOf vars.reverse);pure acc
 |some u=>do
  rule "comprehension.stores-exchanged"
  holding (cellsOf vars) (u acc)
  comprehension.letGo rQ cellsOf (vars.reverse.drop 1++vars.reverse.take 1)
  pure .none
structure Yg (h h':bB) (ls aI aD aL:ax):Prop where
 nI:h.get? aI=au
 nD:h.get? aD=au
 nL:h.get? aL=au
 ID:aI≠aD
 IL:aI≠aL
 DL:aD≠aL
 gI:h'.get? aI=aa {cls:=.type "list_iterator",data:=.fields #[.ref ls,.int 0 0]}
 gD:h'.get? aD=aa {cls:=.type "list",data:=.seq #[]}
 gr:∀ b o,h.get? b=aa o->h'.get? b=aa o
theorem three {h h1 h2 h':bB}{ls:ax}{o1 o2 o:Obj} (e1:h.push o1=h1) (e2:h1.push o2=h2) (c1:o1={cls:=.type "list_iterator",data:=.fields #[.ref ls,.int 0 0]}) (c2:o2={cls:=.type "list",data:=.seq #[]})
  (hs:Heap.SameBut h2.objs.size (h2.push o) h'):Yg h h' ls h.objs.size h1.objs.size h2.objs.size:=
 have nd:=di h1
 have nl:=di h2
 have gi:h1.get? h.objs.size=aa o1:=e1▸jg h (c1▸rfl)
 have gd:h2.get? h1.objs.size=aa o2:=e2▸jg h1 (c2▸rfl)
 have g2:∀ b x,h1.get? b=aa x->h2.get? b=aa x:=fun b x e=>e2▸jN _ e
 have g3:∀ b x,h2.get? b=aa x->h'.get? b=aa x:=fun b x e=>(hs.2 b fun q=>bP nl (q▸e)).trans (jN _ e)
 have ge:∀ b x,h.get? b=aa x->h1.get? b=aa x:=fun b x e=>e1▸jN _ e
 {nI:=di h
  nD:=lj fun x e=>bP nd (ge _ _ e)
  nL:=lj fun x e=>bP nl (g2 _ _ (ge _ _ e))
  ID:=fun e=>bP nd (e▸gi)
  IL:=fun e=>bP nl (e▸g2 _ _ gi)
  DL:=fun e=>bP nl (e▸gd)
  gI:=c1▸g3 _ _ (g2 _ _ gi)
  gD:=c2▸g3 _ _ gd
  gr:=fun b x e=>g3 _ _ (g2 _ _ (ge _ _ e))}
theorem W.attempt {β:Type}{m:Sem β}{f:Except av β->Sem α}{P:β->Sx->Prop} (h:W k rz m P Kd σ) (K:∀ b τ,P b τ->W k rz (f (.ok b)) Q X τ):W k rz (m.attempt>>=f) Q X σ:=
 W.bind (P:=fun r τ=>∃ b,r=.ok b/\P b τ) (I.attempt (I.bT h (fun b _ ⟨g,H,q⟩=>⟨g,H,b,rfl,q⟩) fun _ _=>Jo.none)) fun r τ ⟨b,e,q⟩=>e▸K b τ q
theorem RL {fz tup:aj}{elt c:E}{fL fv:ah Nm} (Se:SE elt) (St:ST c){x target iter:ay}{ifs:ah ay}{gx:b9}{pos:Pos}{aI aD aL ls:ax}{h':bB}{tk:Nat}{cs:ah (Str×ax)}{src:V}{full:ah V}
  (z:At k L τ) (T:Yg τ.s.heap h' ls aI aD aL) (hn:h'.Ns aL fun _=>au) (F:InF k.sc gx fv fL) (kd:gx.kind=.function) (C:GI k.env gx.names cs) (hm:Kf tup fL target=ag) (he:mE (fP k.sc gx) elt x=ag)
  (hi:cond c.yD (l0 ifs) (l1 ifs fun t=>mE (fP k.sc gx) c t)=ag) (ev:er τ.g (.ref ls) src) (q2:full.length<=line) (h:Uh src full (WS k.C elt tup fL c (L.only fv)) (fun ys H2=>mk fz ys H2 P) τ.H) (q1:gO τ.H src=aa full){vars:ah (Str×d7)} (hv:∀ p∈vars,p∈gx.names):
  W k rz (run (.compStart (.ListComp x [⟨target,iter,ifs,0⟩] gx pos) 0 (.ref aI) (.ref aD) (AB k.env gx aL cs))) (fun _ ρ=>∃ g H y,er g (.ref aD) y/\τ.g.le g/\At k L ⟨ρ.s,g,H⟩/\P y H/\LG k ⟨ρ.s,g,H⟩ (AB k.env gx aL cs) vars) Kd (τ.up h' tk):=by
 obtain⟨J,j0,jd,js⟩:=h
 have J1:Uv k gx fv fL cs aL τ:=⟨F,kd,C,T.nL,L,z⟩
 have w:At (k.inner J1) (L.only fv) (τ.up h' tk):=z.inner J1 T.gr hn
 have N:Ux (k.inner J1) aI aD:=⟨T.ID,(z.new T.nI).inner J1 T.IL T.nI,(z.new T.nD).inner J1 T.DL T.nD⟩
 have fI:=z.rep.fresh T.nI
 have fD:=z.rep.fresh T.nD
 have J0:CJ (k.inner J1) aI aD ls src full J (L.only fv) full.length (τ.up h' tk):=.mk [] full _ ⟨w,⟨0,⟨_,T.gI,rfl,rfl⟩,rfl⟩,⟨#[],_,T.gD,.nil⟩,ev,⟨fI.z,fI.h,fI.d⟩,⟨fD.z,fD.h,fD.d⟩⟩ (fun _ _ e=>e) j0 (gY (jF _)) rfl
 refine I.run (by intro x;cases x) (I.pN (KA (prog:=k.c.prog) (w:=k.c.w) (ON (k:=k.inner J1) (rz:=false) _ _ (OM Se St N hm (fun x hx=>.loc (F.fL x hx) (.head _)) he hi (fun x hx=>bb fun m=>F.apart x m hx) q2 jd js) full.length J0) fun P q=>wpAny_pyIter_listiter ⟨_,T.gI,rfl,rfl⟩ q) fun r s' hr=>?_)
 obtain⟨rfl,g,H,acc,L',w,vs,m,hD,hq,nD,q⟩:=hr
 obtain⟨g',H',y,ey,l,z',q',off⟩:=(z.new T.nD).mkL (z.outer w) nD hD hq q
 exact⟨g,H,g',H',y,ey,w.rel.le.trans l,z',q',⟨kd,fun p hp e=>F.loc p (hv p hp) e,w.ns,z.new T.nL,off _ (l6 T.DL) (w.own _ (.head _))⟩⟩
theorem Dz {fz tup:aj}{elt it c:E}{fL fv:ah Nm} (Se:SE elt) (Si:SE it) (St:ST c){x:ay}{g:PySem.Comprehension}{gx:b9}{pos:Pos} {use:aC (av->Sem cR)}{Q:av->Sx->Prop} (z:At k L σ)
  (hm:(g.is_async==0&&g.iter.ctorIdx != 7&&mE k.sc it g.iter&&Kf tup fL g.target&&mE (fP k.sc gx) elt x&&gx.kind==.function&&Fg k.sc gx fv fL&&cond c.yD (l0 g.ifs) (l1 g.ifs fun t=>mE (fP k.sc gx) c t))=ag)
  (h:wE k.C (.comp fz elt tup fL it c fv) L σ.H P (lZ X L))
  (fin:∀ ρ y a rQ cellsOf vars,σ.g.le ρ.g->er ρ.g (.ref a) y->At k L ρ->P y ρ.H->LG k ρ rQ vars->W k rz (RM use (.ref a) rQ cellsOf vars) Q X ρ):
  W k rz (comprehension (.ListComp x [g] gx pos) gx k.env (firstIterPos [g] pos) (newList []) (firstAsync [g]) (firstIter [g] k.env) use) Q X σ:=by
 have hi:=bx hm
 have F:=inF (bx (aU hm))
 have kd:gx.kind=.function:=eq_of_beq (bx (aU (aU hm)))
 have he:=bx (aU (aU (aU hm)))
 have ht:=bx (fG hm)
 have h1:=bx (fG (aU hm))
 have h7:=l7.mp (bx (fG (aU (aU hm))))
 obtain⟨target,iter,ifs,as⟩:=g
 obtain rfl:as=0:=eq_of_beq (fG (aU (aU (aU hm))))
 unfold comprehension
 refine Si.step z h1 h fun v τ src ev l z q=>W.cY ?_
 obtain⟨full,q1,q2,J,j0,jd,js⟩:=q
 obtain⟨ls,rfl,sq⟩:∃ ls,v=.ref ls/\SeqAt τ ls "list" full:=z.gL (p:=fun xs=>xs=full) ev ⟨full,q1,rfl⟩ fun a xs s e=>⟨a,rfl,e▸s⟩
 obtain⟨vs,hl,ra⟩:=sq.list
 refine W.eqB (m:=foldedSetIterable iter k.env (.ref ls)) (Dr h7 _ _) (W.leaf (Ga (LZ hl ⟨τ.g,τ.H,W.UR (W.leaf (S5 ⟨τ.g,τ.H,?_⟩ (by decide+kernel)))⟩)))
 refine W.leaf (KD (fun p hp hf=>k.co _ (F.free p hp hf)) fun cs C=>⟨τ.g,τ.H,?_⟩)
 refine W.leaf (wpAny_newFunctionEnv F.Kc (fun _ hx=>by contradiction) (fun h' hn hs=>⟨τ.g,τ.H,?_⟩) kd)
 show W k rz (holding [.ref _] _) Q X _
 have hf:∀ p∈gx.names.filter fun p=>(p.2==.local || p.2==.cell)&&p.1 != (".0":Str),p∈gx.names:=fun p m=>(nR.mp m).1
 refine W.holding (W.attempt (W.holding (RL (fz:=fz) (vars:=gx.names.filter fun p=>(p.2==.local || p.2==.cell)&&p.1 != (".0":Str)) Se St z (three rfl rfl rfl rfl hs) hn F kd C ht he hi ev q2 ⟨J,j0,jd,js⟩ q1 hf)) fun f ρ o=>?_)
 obtain⟨g,H,y,ey,l',z',q',G⟩:=o
 cases use with
 |none=>exact fin ⟨ρ.s,g,H⟩ y _ _ _ _ (l.trans l') ey z' q' G
 |some u=>exact fin ⟨ρ.s,g,H⟩ y _ _ _ _ (l.trans l') ey z' q' G
theorem Wx {fz tup:aj}{elt it c:E}{fL fv:ah Nm} (Se:SE elt) (Si:SE it) (St:ST c):SE (.comp fz elt tup fL it c fv):=fun{k rz L σ x P X} z hm h=>qh hm fun x gs gx p hh=>ry hh fun g hg=>by
 rw[arm_eval_ListComp]
 refine Dz Se Si St z hg h fun ρ y a rQ cellsOf vars l ey w q G=>?_
 refine W.bind (P:=fun _ τ=>Ok k L σ P (.ref a) τ) (W.holding (G.go w (fun p m=>Tw.mp m) fun h' w=>.mk y ey l w q)) fun _ τ o=>W.pure o
inductive Oky (k:Kx) (σ:Sx) (P:PV) (kk:V->bZ->Prop) (τ:Sx):Prop
 |mk (L:bZ) (y:V) (l:σ.g.le τ.g) (z:At k L τ) (q:P y τ.H) (q':kk y L)
theorem RK {fz tup:aj}{elt it c:E}{fL fv:ah Nm} (Se:SE elt) (Si:SE it) (St:ST c){x:ay}{g:PySem.Comprehension}{gx:b9}{pos:Pos}{u:av->Sem cR}{kk:V->bZ->Prop} (z:At k L σ)
  (hm:(g.is_async==0&&g.iter.ctorIdx != 7&&mE k.sc it g.iter&&Kf tup fL g.target&&mE (fP k.sc gx) elt x&&gx.kind==.function&&Fg k.sc gx fv fL&&cond c.yD (l0 g.ifs) (l1 g.ifs fun t=>mE (fP k.sc gx) c t))=ag)
  (h:wE k.C (.comp fz elt tup fL it c fv) L σ.H P (lZ X L)) (hu:∀ ρ v y,er ρ.g v y->At k L ρ->W (k.at ρ) rz (u v) (GH (k.at ρ) ρ (kk y)) X ρ):
  W k rz (comprehension (.ListComp x [g] gx pos) gx k.env (firstIterPos [g] pos) (newList []) (firstAsync [g]) (firstIter [g] k.env) (aa u)) (fun _=>Oky k σ P kk) X σ:=by
 refine Dz Se Si St z hm h fun ρ y a rQ cellsOf vars l ey w q G=>?_
 refine W.leaf (sm ⟨ρ.g,ρ.H,W.bind (W.holding (W.back w (hu ρ _ y ey w))) fun _ τ o=>?_⟩)
 obtain⟨L2,h2,tk,rfl,z2,q2⟩:=o
 obtain⟨m,hn⟩:=G.ns
 obtain⟨o,es,ep,ho,hd⟩:=hn
 have st:=G.new.off w z2 ho G.off
 have G2:LG k (ρ.up h2 tk) rQ vars:=⟨G.kind,G.nm,⟨m,o,es,ep,st.1,hd⟩,G.new,st.2⟩
 exact W.bind (P:=fun _ τ=>Oky k σ P kk τ) (G2.go (w.back z2) (fun p m=>Tw.mp ((iS.mp m).elim I5 yk)) fun h' w=>.mk L2 y l w q q2) fun _ τ o=>W.pure o
end
def IsT (x:ay):Prop:=∀ (env:Env) (w:Sem av),isTrue x env w=(do let v <- w;standAt x.pos;holding [v] (truthy v))
structure EW (e:E):Prop where
 se:SE e
 st:ST e
 sp:e.part=ag->SP e
structure EsW (es:Es):Prop where
 Yt:Me es
 sb:SB es
 sbt:SBt es
 aa0:WC es
 sj:es.parts=ag->SJ es
theorem BW {e:E} (S:SE e) (t:∀ {sc x},mE sc e x=ag->IsT x):ST e:=fun z hm h hR=>P2 S z hm h hR (t hm _ _)
theorem EW.plain {e:E} (S:SE e) (hq:e.part=ao) (t:∀ {sc x},mE sc e x=ag->IsT x):EW e:=⟨S,BW S t,fun h=>absurd h (uT hq)⟩
theorem T.c {x:ay}{f:d8->aj} (h:gj x f=ag):IsT x:=eQ (P:=IsT) h fun _ _ _ _ _ _=>rfl
theorem T.n {x:ay}{s:Str} (h:nq s x=ag):IsT x:=gR (P:=IsT) h fun _ _ _=>rfl
theorem T.s {x:ay}{f:ay->ay->aj} (h:iQ x f=ag):IsT x:=jm (P:=IsT) h fun _ _ _ _ _ _=>rfl
theorem T.l {x:ay}{n:Str}{g:ah ay->aj} (h:sY n x g=ag):IsT x:=mM (P:=IsT) h fun _ _ _ _ _ _=>rfl
theorem EW.all:∀ e:E,EW e:=by
 refine E.rec (motive_1:=EW) (motive_2:=EsW) ?_ ?_ ?_ ?_ ?_ ?_ ?_ ?_ ?_ ?_ ?_ ?_ ?_ ?_ ?_ ?_ ?_ ?_ ?_ ?_ ?_ ?_ ?_ ?_ ?_ ?_ ?_ ?_ ?_ ?_ ?_
 ·exact .plain Wr rfl T.c
 ·exact fun _=>.plain Wz rfl T.c
 ·exact fun _=>.plain aaj rfl T.c
 ·exact⟨GC,BW GC T.c,fun _=>Wo⟩
 ·exact fun _=>.plain Uq rfl T.c
 ·exact fun _=>.plain aad rfl T.n
 ·exact fun _=>.plain Wu rfl fun h=>T.n (aU h)
 ·exact fun _ _ _ a b=>.plain (aam a.se b.se) rfl fun h=>Dh (P:=IsT) h fun _ _ _ _ _ _ _=>rfl
 ·exact fun _ a=>.plain (aag a.se) rfl fun h=>oB (P:=IsT) h fun o _ _ hh _ _=>(eq_of_beq (aU hh):o=.USub)▸rfl
 ·exact fun _ a=>⟨aae a.se,Z6 a.st,nofun⟩
 ·exact fun _ _ s=>⟨Pe s.sb,Pa s.sbt,nofun⟩
 ·exact fun _ _ _ d a b=>⟨aai d.st a.se b.se,Z7 d.st a.st b.st,nofun⟩
 ·exact fun _ _ _ a b=>⟨aal a.se b.se,Z8 a.se b.se,nofun⟩
 ·exact fun _ _ _ _ _ a b d=>⟨Wy a.se b.se d.se,Wi a.se b.se d.se,nofun⟩
 ·exact fun _ _ a=>.plain (WA a.se) rfl fun h=>lb (P:=IsT) h fun _ _ _ _ _ _=>rfl
 ·exact fun _ _ a=>.plain (aah a.se) rfl T.s
 ·exact fun _ _ a b=>.plain (aak a.se b.se) rfl T.s
 ·exact fun _ _ _ _ a b d=>.plain (Um a.se b.se d.se) rfl T.s
 ·exact fun _ _ s=>.plain (Wt s.Yt) rfl fun h=>Hy (P:=IsT) h fun _ _ _ _ _=>rfl
 ·exact fun _ s=>.plain (Ul s.Yt) rfl fun h=>pD (P:=IsT) h fun _ _ _ _ _ _=>rfl
 ·exact fun _ _ s=>.plain (Ww s.aa0) rfl fun h=>HA (P:=IsT) h fun _ _ _ _ _ _=>rfl
 ·exact fun _ _ s=>.plain (Uo s.Yt) rfl T.l
 ·exact fun _ _ _ s=>.plain (aaf s.Yt) rfl T.l
 ·exact fun _ _ _ a s=>.plain (Ws a.se s.Yt) rfl fun h=>rm (P:=IsT) h fun _ _ _ _ _ _ _=>rfl
 ·exact fun _ _ s=>.plain (Up s.Yt) rfl T.l
 ·exact fun _ _ _ _ _ _ _ a b d=>.plain (Wx a.se b.se d.st) rfl fun h=>qh (P:=IsT) h fun _ _ _ _ _ _ _=>rfl
 ·exact fun _ s=>.plain (Wv s.sj) rfl fun h=>tJ (P:=IsT) h fun _ _ _ _ _=>rfl
 ·exact fun _ a=>⟨Ja (Md a.se),BW (Ja (Md a.se)) fun h=>nj (P:=IsT) h fun _ _ _ _ _ _ _=>rfl,fun _=>Md a.se⟩
 ·exact .plain (fun _ _ h=>h.elim) rfl fun h=>rm (P:=IsT) h fun _ _ _ _ _ _ _=>rfl
 ·exact⟨zC,fun _ _ h=>h.elim,fun _ _ h=>h.elim,trivial,fun _=>aac⟩
 ·exact fun _ _ a s=>⟨sF a.se s.Yt,WB a.se s.sb,Ur a.st s.sbt,⟨a.se,s.aa0⟩,fun h=>Wq (a.sp (aU h)) (s.sj (bx h))⟩
@[elab_as_elim] theorem Hv {n:Str}{f:ay->aj}{P:ay->Prop}{x:ay} (h:JU n x f=ag) (K:∀ o j q p,f o=ag->P (.Subscript o (.Constant (.str n) j q) p)):P x:=
 jm (P:=P) h fun o i p h=>eQ (P:=fun i=>P (.Subscript o i p)) (aU h) fun c j q hc=>vx (P:=fun c=>P (.Subscript o (.Constant c j q) p)) hc fun s hs=>(eq_of_beq hs:s=n)▸K o j q p (bx h)
@[elab_as_elim] theorem Di {n:Str}{f:ay->aj}{P:ay->Prop}{x:ay} (h:EK n x f=ag) (K:∀ o p,f o=ag->P (.Attribute o n p)):P x:=
 lb (P:=P) h fun o a p h=>(eq_of_beq (aU h):a=n)▸K o p (bx h)
@[elab_as_elim] theorem vy {f:ay->ay->aj}{P:aZ->Prop}{y:aZ} (h:Dj y f=ag) (K:∀ t v p,f t v=ag->P (.Assign [t] v p)):P y:=
 Hx (P:=P) h fun ts v p h=>ry (P:=fun ts=>P (.Assign ts v p)) h fun t ht=>K t v p ht
@[elab_as_elim] theorem Hz {f:ay->ah aZ->aj}{P:PySem.ExceptHandler->Prop}{x:PySem.ExceptHandler} (h:Dg x f=ag) (K:∀ t b p,f t b=ag->P (.ExceptHandler (aa t) au b p)):P x:=match x,h with
 |.ExceptHandler ty nm b p,h=>QL (P:=fun nm=>P (.ExceptHandler ty nm b p)) (aU h) (uq (P:=fun ty=>P (.ExceptHandler ty au b p)) (bx h) fun t ht=>K t b p ht)
@[elab_as_elim] theorem adL {α:Type}{P:ah α->Prop}{l:ah α}{f:α->aj}{g:ah α->aj} (h:lc l f g=ag) (K:∀ x r,f x=ag->g r=ag->P (x::r)):P l:=match l,h with
 |[],h=>by contradiction
 |x::r,h=>K x r (aU h) (bx h)
structure aap (env:Env) (own:ah ax) (fr:ah Env):Prop where
 top:∃ l,fr=env::l
 own:own=ownOf env
abbrev Kx.Full (k:Kx):Prop:=aap k.env k.own k.fr
inductive mf (k:Kx) (Q:PO) (τ:Sx):iR->Prop
 |next (L:bZ) (z:At k L τ) (q:Q .next L τ.H):mf k Q τ .next
 |brk (L:bZ) (z:At k L τ) (q:Q .brk L τ.H):mf k Q τ .brk
 |cont (L:bZ) (z:At k L τ) (q:Q .cont L τ.H):mf k Q τ .cont
 |ret (L:bZ) (v:av) (x:V) (e:er τ.g v x) (z:At k L τ) (q:Q (.ret x) L τ.H):mf k Q τ (.ret v)
def SS (st:S):Prop:=∀ {k:Kx}{rz:aj}{L:bZ}{σ:Sx}{Q:PO}{X:fj}{y:aZ},k.Full->At k L σ->mS k.sc st y=ag->wS k.C rz st L σ.H Q X->W k rz (exec y k.env) (fun f τ=>mf k Q τ f) X σ
def Jl (st:Ss):Prop:=∀ {k:Kx}{rz:aj}{L:bZ}{σ:Sx}{Q:PO}{X:fj}{y:ah aZ},k.Full->At k L σ->Oq k.sc st y=ag->wSs k.C rz st L σ.H Q X->W k rz (execs y k.env) (fun f τ=>mf k Q τ f) X σ
theorem oS {v:ay} (h:zo v=ag) (t:aC ay) (l:Nat) (env:Env):swapsWith v t l env=pure ao:=by
 cases v<;>first |rfl |contradiction
theorem Rt {g:Gh}{x:V}{a:ax} (h:flat x=ag) (e:er g (.ref a) x):False:=by
 cases x with
 |none=>contradiction
 |bool=>contradiction
 |int=>obtain⟨_,e⟩:=e;contradiction
 |str=>obtain⟨_,e⟩:=e;contradiction
 |bytes=>obtain⟨_,e⟩:=e;contradiction
 |_=>contradiction
theorem RD (v:ay) (p:Pos):dropValue v p=dropValue (.JoinedStr [] p) p∨dropValue v p=fun _=>pure .next:=by
 cases v<;>first |exact .inr rfl |(refine .inl ?_;kernel_rfl)
theorem OK {g:Gh}{x:V}{u:av} (h:flat x=ag) (e:er g u x) (v:ay) (p:Pos):dropValue v p u=pure .next:=by
 refine(RD v p).elim (fun q=>?_) fun q=>congrFun q u
 rw[q]
 cases u with
 |ref=>exact(Rt h e).elim
 |_=>rfl
theorem Wl:SS .pass:=fun{k rz L σ Q X y} F z hm h=>Og hm fun p _=>W.cY (W.pure (.next L z h))
theorem aaa:SS .brk:=fun{k rz L σ Q X y} F z hm h=>JY hm fun p _=>W.cY (W.pure (.brk L z h))
theorem Wk:SS .yz:=fun{k rz L σ Q X y} F z hm h=>rk hm fun o p ho=>QL ho (W.cY (W.pure (.ret L .none .none rfl z h)))
theorem Z_ {e:E}:SS (.ret e):=fun{k rz L σ Q X y} F z hm h=>rk hm fun o p ho=>uq ho fun v hv=>
 W.cY (SE.step (EW.all e).se (f:=fun x=>pure (Flow.ret x)) z hv h fun u τ x e l z q=>W.pure (.ret L u x e z q))
theorem Wn {e:E}:SS (.expr e):=fun{k rz L σ Q X y} F z hm h=>Oh hm fun v p hh=>by
 rw[arm_exec_Expr]
 refine W.cY ?_
 have hi:interactive k.env=ao:=by unfold interactive;rw[k.kind];rfl
 rw[hi]
 refine W.eq (bb cj) ?_
 rw[oS (bx hh)]
 refine W.eqB rfl (W.eq (bb cj) (SE.step (EW.all e).se z (aU hh) h fun u τ x e l z q=>?_))
 rw[OK q.1 e]
 exact W.pure (.next L z q.2)
theorem W.ifb {k:Kx}{rz:aj}{σ:Sx}{X:fj}{α:Type}{Q:α->Sx->Prop}{t:aj}{a b:Sem α} (h:cond t (W k rz a Q X σ) (W k rz b Q X σ)):W k rz (if t=ag then a else b) Q X σ:=match t,h with
 |true,h=>W.eq (a8 rfl) h
 |false,h=>W.eq (bb cj) h
theorem acG {d:E}{a b:Ss} (S:Jl a) (T:Jl b):SS (.dp d a b):=fun{k rz L σ Q X y} F z hm h=>Vj hm fun t u v p hh=>by
 rw[arm_exec_If]
 refine W.cY (W.qr ((EW.all d).st (P:=fun t H1=>cond t (wSs k.C rz a L H1 Q X) (wSs k.C rz b L H1 Q X)) z (aU (aU hh)) h fun v H q=>q) fun t τ l z q=>W.ifb ?_)
 cases t with
 |true=>exact S F z (bx (aU hh)) q
 |false=>exact T F z (bx hh) q
theorem Zx {c a b:aj} (hf:c=ao) (h:cond c a b=ag):b=ag:=by subst hf;exact h
theorem Wj:Jl .nil:=fun{k rz L σ Q X y} F z hm h=>tp (P:=fun y=>W k rz (execs y k.env) (fun f τ=>mf k Q τ f) X σ) hm (W.pure (.next L z h))
theorem Ui {st:S}{r:Ss} (hf:st.VD=ao) (S:SS st) (T:Jl r):Jl (.cons st r):=fun{k rz L σ Q X y} F z hm h=>by
 refine adL (P:=fun y=>W k rz (execs y k.env) (fun f τ=>mf k Q τ f) X σ) (Zx (c:=st.VD) hf hm) fun y ys h1 h2=>?_
 rw[PySem.execs_cons]
 refine W.bind (S F z h1 h) fun f τ o=>?_
 cases o with
 |next L z q=>exact T F z h2 q
 |brk L z q=>exact W.pure (.brk L z q)
 |cont L z q=>exact W.pure (.cont L z q)
 |ret L v x e z q=>exact W.pure (.ret L v x e z q)
theorem L_ {x:Nm}{r:Ss} (T:Jl r):Jl (.cons (.freeze x) r):=fun{k rz L σ Q X y} F z hm h=>by
 obtain⟨a,xs,e1,e2,q⟩:=h
 have zn:σ.g.Z a=au:=lj fun x hx=>bP (z.rep.zm a x hx) e2
 have w:At k L ⟨σ.s,σ.g.yw a (.bE xs),σ.H.drop a⟩:=z.move (Rel.JL z.rel (fun o e f=>bP (z.rel.off a o e f).h e2) zn (fun b q=>bP (z.rep.dz a b q).2 e2) (fun _ _ h=>h) (SeqAt.bT (z.rep.yB a _ e2) ⟨Gh.ll zn,fun _ h=>h,fun _ _ _ h=>h⟩) rfl rfl rfl) (Gh.ll zn)
  fun b m f o e=>have ne:b≠a:=fun q=>bP f.h (q▸e2);⟨⟨o.slots,e⟩,(Gh.sR ne).trans f.z,(Hp.zz ne).trans f.h,f.d⟩
 refine T F (k:=k) (σ:=⟨σ.s,σ.g.yw a (.bE xs),σ.H.drop a⟩) {w with loc:=fun y v e=>c7 e (fun yx e=>?_) fun _ e=>w.loc y v e} hm q
 cases e
 obtain⟨u,q1,q2⟩:=z.loc x _ e1
 cases(show u=.ref a from q1)
 exact⟨.ref a,.mk a rfl (a8 rfl),yx▸q2⟩
section
variable {k:Kx}{rz:aj}{L:bZ}{σ τ ρ:Sx}{X:fj}{Q:PO}{e v:E}{f x:Nm}{op:Bo}
theorem At.Ll (z:At k L σ){x y:V}{v u:av}{R:PV} (ex:er σ.g v x) (ey:er σ.g u y) (h:Bt op x y fun z=>R z σ.H):W k rz (inplaceOp op.op v u) (Ok k L σ R) X σ:=by
 cases op with
 |add=>exact g2 ex ey h fun i t j u q=>W.any (PySem.P.iadd_int (z.HD rfl q))
 |sub=>exact g2 ex ey h fun i t j u q=>W.any (PySem.P.isub_int (z.HD rfl q))
 |bor=>exact g2 ex ey h fun i t j u ⟨h1,h2,q⟩=>W.any (ZZ (z.HD (vV h1 h2) q))
 |shr=>exact g2 ex ey h fun i t j u ⟨h0,h1,h2,q⟩=>W.any (acz h1 (z.HD (zP h0) q))
 |_=>exact h.elim
theorem vD {t v:ay}{p:Pos} (hs:swapsWith v (aa t) p.line k.env=pure ao) (hw:swappedStores [t] v k.env=pure au) (he:(assignEach [t] k.env).map (·.2)=[assign t k.env]){R:iR->Sx->Prop}
  (h:W k rz (eval v k.env>>=fun u=>assign t k.env u>>=fun _=>pure Flow.next) R X σ):W k rz (exec (.Assign [t] v p) k.env) R X σ:=by
 rw[Tr]
 refine W.cY (W.eqB (m:=swapsWithSole [t] v p.line k.env) hs (W.eq (bb cj) ?_))
 rw[hw,he]
 exact h
theorem JC {v o:ay}{a:Str}{p:Pos}{l:Nat}{env:Env}:swapsWith v (aa (.Attribute o a p)) l env=pure ao:=by cases v<;>rfl
theorem N6 {v o i:ay}{p:Pos}{l:Nat}{env:Env}:swapsWith v (aa (.Subscript o i p)) l env=pure ao:=by cases v<;>rfl
theorem W.done {m:Sem cR} (h:W k rz m (Oku k L σ fun H=>Q .next L H) X σ):W k rz (m>>=fun _=>Pure.pure Flow.next) (fun f τ=>mf k Q τ f) X σ:=W.vW h fun τ _ z q=>W.pure (.next L z q)
theorem Ma:SS (.setAttr e f v):=fun{k rz L σ Q X y} F z hm h=>vy hm fun t w p ht=>Di ht fun o q hh=>vD JC rfl rfl (SE.step (EW.all v).se z (bx hh) h fun u τ yv eu l z q=>
 W.done (W.eq (arm_assign_Attribute ..) (SE.pA (EW.all e).se z (aU hh) q fun ov τ x ex l z q=>W.cY (W.vW (W.holding (W.any (z.Mp q ex (eu.le l)))) fun τ' l' z q=>W.release (.mk (l.trans l') z q)))))
theorem G5 {s:Str}{n:Nat}{p:Pos}{α:Type}{g:av->Sem α}{R:α->Sx->Prop}{vs:ah av} (z:At k L σ) (h:At k L (σ.up σ.s.heap (σ.s.toks+1))->W k rz (g (.str s σ.s.toks)) R X (σ.up σ.s.heap (σ.s.toks+1))):
  W k rz (holding vs (eval (.Constant (.str s) n p) k.env)>>=g) R X σ:=
 W.bind (P:=fun i ρ=>i=.str s σ.s.toks/\ρ=σ.up σ.s.heap (σ.s.toks+1)) (W.holding (W.any (Gx ⟨σ.g,σ.H,rfl,rfl⟩))) fun i ρ hi=>by
  obtain⟨rfl,rfl⟩:=hi
  exact h z.tok
theorem Pb:SS (.c4 e f v):=fun{k rz L σ Q X y} F z hm h=>vy hm fun t w p ht=>Hv ht fun o n q' q hh=>vD N6 rfl rfl (SE.step (EW.all v).se z (bx hh) h fun u τ yv eu l z q=>
 W.done (W.eq (arm_assign_Subscript ..) (SE.pA (EW.all e).se z (aU hh) q fun ov τ x ex l z q=>G5 z fun z=>W.cY (W.vW (W.holding (W.any (z.Mq q ex (eu.le l)))) fun τ' l' z q=>W.release (.mk (l.trans l') z q)))))
theorem nh {n:Nm} (F:k.Full) (h:tK k.sc n=ag):k.wi n:=W4 h jL jL |>.elim (fun e=>.loc e (F.own▸.head _)) fun e=>.cell e fun _ m=>F.own▸m
theorem W.RG {m:Sem cR} (h:W k rz m (GH k σ fun L=>Q .next L σ.H) X σ):W k rz (m>>=fun _=>Pure.pure Flow.next) (fun f τ=>mf k Q τ f) X σ:=W.XD h fun L hp tk z q=>W.pure (.next L z q)
theorem aab:SS (.aug x op e):=fun{k rz L σ Q X y} F z hm h=>ni hm fun t o w p hh=>by
 obtain⟨old,e1,h⟩:=h
 obtain rfl:=eq_of_beq (bx (aU (aU hh)))
 refine gR (P:=fun t=>W k rz (exec (.AugAssign t op.op w p) k.env) (fun f τ=>mf k Q τ f) X σ) (aU (aU (aU hh))) fun p'=>?_
 rw[arm_exec_AugAssign]
 refine W.cY (W.bind (P:=fun u τ=>er σ.g u old/\τ=σ) (HM z e1 fun u eu=>⟨eu,rfl⟩) fun ov τ o=>?_)
 obtain⟨eo,rfl⟩:=o
 refine SE.pA (EW.all e).se z (bx hh) h fun u τ' yv eu l z q=>W.cY (W.nE (W.operate (z.Ll (R:=fun r H=>Q .next (L.set x r) H) (eo.le l) eu q)) fun nv τ rv er l z q=>W.cY (W.RG (DJ z (nh F (bx (aU hh))) er q)))
theorem Mb:SS (.ie e f op v):=fun{k rz L σ Q X y} F z hm h=>ni hm fun t o w p ht=>Di (P:=fun t=>W k rz (exec (.AugAssign t o w p) k.env) (fun f τ=>mf k Q τ f) X σ) ht fun u q hh=>by
 obtain rfl:=eq_of_beq (aU (aU hh))
 rw[arm_exec_AugAssign_2]
 refine W.cY (SE.step (EW.all e).se z (bx (aU hh)) h fun ov τ x ex l z q=>?_)
 obtain⟨old,e1,q⟩:=q
 refine W.nE (σ:=τ) (P:=fun r H=>xB x H f r fun H=>Q .next L H) (W.holding (W.cY (W.nE (P:=fun r H=>r=old/\H=τ.H) (W.any (z.MY e1 ex ⟨rfl,rfl⟩)) fun u τ1 y1 eo l1 z1 qq=>?_))) fun nv τ3 rv er l3 z3 q3=>W.cY (W.vW (W.holding (W.any (z3.Mp (Q:=fun H=>Q .next L H) q3 (ex.le l3) er))) fun τ l z q=>W.rel (W.pure (.next L z q)))
 obtain⟨rfl,e⟩:=qq
 exact SE.pA (EW.all v).se z1 (bx hh) (e▸q) fun vv τ2 yv ev l2 z2 q2=>W.cY (W.later (l1.trans l2) (W.operate (z2.Ll (R:=fun r H=>xB x H f r fun H=>Q .next L H) (eo.le l2) ev q2)))
theorem Pc:SS (.sg e f op v):=fun{k rz L σ Q X y} F z hm h=>ni hm fun t o w p ht=>Hv (P:=fun t=>W k rz (exec (.AugAssign t o w p) k.env) (fun f τ=>mf k Q τ f) X σ) ht fun u n q' q'' hh=>by
 obtain rfl:=eq_of_beq (aU (aU hh))
 rw[arm_exec_AugAssign_3]
 refine W.cY (SE.step (EW.all e).se z (bx (aU hh)) h fun ov τ x ex l z q=>G5 z fun z=>?_)
 obtain⟨old,e1,q⟩:=q
 refine W.nE (σ:=τ.up τ.s.heap (τ.s.toks+1)) (P:=fun r H=>y8 x H f r fun H=>Q .next L H) (W.holding (W.cY (W.nE (P:=fun r H=>r=old/\H=τ.H) (W.any (z.Rn e1 ex ⟨rfl,rfl⟩)) fun u τ1 y1 eo l1 z1 qq=>?_))) fun nv τ3 rv er l3 z3 q3=>W.cY (W.vW (W.holding (W.any (z3.Mq (Q:=fun H=>Q .next L H) q3 (ex.le l3) er))) fun τ l z q=>W.rel (W.pure (.next L z q)))
 obtain⟨rfl,e⟩:=qq
 exact SE.pA (EW.all v).se z1 (bx hh) (e▸q) fun vv τ2 yv ev l2 z2 q2=>W.cY (W.later (l1.trans l2) (W.operate (z2.Ll (R:=fun r H=>y8 x H f r fun H=>Q .next L H) (eo.le l2) ev q2)))
theorem Ee {xs:ah ay}{n:Nat}{p:Pos}{v:ay} (h:QN v=ag):swappedStores [.Tuple xs n p] v k.env=pure au:=by
 cases v<;>first |rfl |contradiction
theorem Mc {xs:ah Nm}:SS (.jA xs e):=fun{k rz L σ Q X y} F z hm h=>vy hm fun t w p hh=>by
 have ht:=aU (aU (aU (aU hh)))
 have h2:=l_.mp (bx (aU (aU (aU hh))))
 have go:=SE.step (rz:=rz) (EW.all e).se (f:=fun u=>assign t k.env u>>=fun _=>pure Flow.next) z (bx (aU (aU hh))) h fun u τ yv eu l z q=>W.RG (PY (P:=fun L1=>Q .next L1 τ.H) z ht (fun x hx=>nh F (h2 x hx)) eu q)
 exact pD (P:=fun t=>W k rz (eval w k.env>>=fun u=>assign t k.env u>>=fun _=>pure Flow.next) (fun f τ=>mf k Q τ f) X σ->W k rz (exec (.Assign [t] w p) k.env) (fun f τ=>mf k Q τ f) X σ) ht (fun ys n q _=>vD (oS (bx hh) _ _ _) (Ee (bx (aU hh))) rfl) go
theorem acL {P:E->Prop}{e:E} (h:e.isC=ag) (K:∀ fz elt tup fL it c fv,P (.comp fz elt tup fL it c fv)):P e:=by cases e with
 |comp=>exact K ..
 |_=>exact absurd h cj
theorem Pd:SS (.bz x e):=fun{k rz L σ Q X y} F z hm h=>vy hm fun t w p hh=>by
 have hx:=nh F (bx (aU (aU hh)))
 refine gR (P:=fun t=>W k rz (exec (.Assign [t] w p) k.env) (fun f τ=>mf k Q τ f) X σ) (aU (aU (aU hh))) fun q=>?_
 have plain:swapsWith w (aa (.Name (dQ x) q)) p.line k.env=pure ao->W k rz (exec (.Assign [.Name (dQ x) q] w p) k.env) (fun f τ=>mf k Q τ f) X σ:=fun hs=>vD hs rfl rfl
  (SE.step (EW.all e).se z (bx (aU hh)) h fun u τ yv eu l z q=>W.RG (rS z hx eu q))
 refine(nT.mp (bx hh)).elim (fun hc=>plain (oS hc _ _ _)) fun hc=>?_
 refine acL (P:=fun e=>wS k.C rz (.bz x e) L σ.H Q X->mE k.sc e w=ag->W k rz (exec (.Assign [.Name (dQ x) q] w p) k.env) (fun f τ=>mf k Q τ f) X σ) hc (fun fz elt tup fL it c fv h hm=>?_) h (bx (aU hh))
 refine qh (P:=fun w=>(swapsWith w (aa (.Name (dQ x) q)) p.line k.env=pure ao->W k rz (exec (.Assign [.Name (dQ x) q] w p) k.env) (fun f τ=>mf k Q τ f) X σ)->W k rz (exec (.Assign [.Name (dQ x) q] w p) k.env) (fun f τ=>mf k Q τ f) X σ) hm (fun x' gs gx p' hg=>ry (P:=fun gs=>(swapsWith (.ListComp x' gs gx p') (aa (.Name (dQ x) q)) p.line k.env=pure ao->W k rz (exec (.Assign [.Name (dQ x) q] (.ListComp x' gs gx p') p) k.env) (fun f τ=>mf k Q τ f) X σ)->W k rz (exec (.Assign [.Name (dQ x) q] (.ListComp x' gs gx p') p) k.env) (fun f τ=>mf k Q τ f) X σ) hg fun g hg plain=>?_) plain
 obtain⟨b,hs⟩:∃ b,swapsWith (.ListComp x' [g] gx p') (aa (.Name (dQ x) q)) p.line k.env=pure b:=⟨_,rfl⟩
 cases b with
 |false=>exact plain hs
 |true=>
  rw[Tr]
  refine W.cY (W.eqB (m:=swapsWithSole [.Name (dQ x) q] (.ListComp x' [g] gx p') p.line k.env) hs (W.eq (a8 rfl) ?_))
  refine W.bind (P:=fun _=>Oky k σ (fun v H1=>Q .next (L.set x v) H1) fun y L'=>L'=L.set x y) (W.bind (RK (u:=fun v=>assign (.Name (dQ x) q) k.env v) (kk:=fun y L'=>L'=L.set x y) (EW.all elt).se (EW.all it).se (EW.all c).st z hg h fun ρ v y ev w=>rS (k:=k.at ρ) w.start hx ev rfl) fun _ τ o=>W.pure o) fun _ τ o=>?_
  obtain⟨L2,y,l,z,q,rfl⟩:=o
  exact W.pure (.next _ z q)
end
section
variable {M:eD}{A:bF}{E:av->aF->Prop}{s:aF}
theorem HK {az:bB}{l:ah Env}{e La:ax}{cls a0 fl:av}{Q:cR->aF->Prop} (k1:az.StaysIn s.heap) (k2:az.get? e=au) (k3:s.heap.FunFrames az l) (k4:s.heap.TracedAtW az e cls a0 fl)
  (h:∀ h',Heap.HeldW az l e cls a0 La h'->s.heap.UpToSlots h'->Q () {s with heap:=h'}):
  aO M A (do
   if (<- field (.ref e) 1)==.none then unsupported "frame.own-activation:exception-without-traceback"
   setFlight (.ref e) (aa La)) Q E s:=by
 obtain⟨oe,vs,T,oT,ts,he,Jh,hd,h1,hnT,hTe,hT,hdT,h3⟩:=k4
 have lt:3 < ts.size:=(Array.getElem?_eq_some_iff.mp h3).1
 refine bf (Lw he hd h1 (fW (fun z=>by contradiction) ?_))
 have fin:aO M A (setFlight (.ref e) (aa La)) Q E s:=by
  unfold setFlight
  refine bf (Lw he hd h1 (Ug rfl ?_))
  have off:∀ b,b≠T->(s.heap.update T (Obj.mapFields (·.setIfInBounds 3 ((aa La).elim Value.none fun f=>rawInt f)))).get? b=s.heap.get? b:=fun b hb=>I9 _ _ (l6 hb)
  have nb:∀ b o,s.heap.get? b=aa o->(∀ vs,o.data≠.fields vs)->b≠T:=fun b o hb hn q=>by
   subst q;cases hT.symm.trans hb;exact hn ts hdT
  refine wpAny_setField hT hdT lt (h _ ⟨fun b o q=>(off b fun z=>bP hnT (z▸q)).trans (k1 b o q),k2,k3.of_keeps fun b o hb hn=>⟨o,(off b (nb b o hb hn)).trans hb,rfl⟩,?_⟩ fun b o hb hn=>⟨o.slots,(off b (nb b o hb hn)).trans hb⟩)
  exact⟨oe,vs,T,_,_,(off e (l6 hTe)).trans he,Jh,hd,h1,hnT,hTe,Nw _ hT (Obj.isFreed_of_fields (TX hdT _)),TX hdT _,by simp [lt]⟩
 first
  |exact fin
  |exact bf (bW fin)
end
section
variable {k:Kx}{rz:aj}{L:bZ}{σ τ ρ:Sx}{X:fj}{Q:PO}
theorem Ia {az h h1 h':bB}{fr:ah Env} (ff:h.FunFrames az fr){b:ax}{o:Obj} (hb:b∈jM fr) (e:h.get? b=aa o) (q:∃ sl,h1.get? b=aa {o with slots:=sl}) (u:h1.UpToSlots h'):∃ sl,h'.get? b=aa {o with slots:=sl}:=by
 obtain⟨sl,q⟩:=q
 obtain⟨_,o',e',hn⟩:=ff.mem hb
 cases e.symm.trans e'
 exact u b {o with slots:=sl} q hn
theorem Th.slots {s':aF} (z:At k L σ) (t:Th k.c k.frs σ τ s'){h':bB} (u:s'.heap.UpToSlots h'):Th k.c k.frs σ τ {s' with heap:=h'}:={t with sl:=fun b o e f m=>Ia z.fm.ff m e (t.sl b o e f m) u}
theorem HE (F:k.Full){e:av}{s':aF} (h:Jo k ao X e s'){M:eD}{P:cR->aF->Prop}{E':av->aF->Prop} (q:∀ JJ,aao k X e JJ->P () JJ):aO M k.A (noteFrame e k.env) P E' s':=by
 cases h with
 |Zo L σ z f=>
  obtain⟨ea,a0,D,τ,he,t,f,x⟩:=f
  subst he
  obtain⟨l,hl⟩:=F.top
  obtain⟨f0,l',e0,La,hf⟩:=k.ca.top
  cases hl.symm.trans e0
  exact wpAny_looks_onW (k.ca.frames.trans (aW aa hl)) hf (hl▸f) fun h' hh hu=>q _ (.mk L σ τ D ea a0 La rfl hf z (t.slots z hu) (hl.symm▸hh) x)
 |held h=>
  obtain⟨L,σ,τ,D,ea,a0,La,he,hf,z,t,f,x⟩:=h
  subst he
  exact XR hf f.2.2.2 (q _ (.mk L σ τ D ea a0 La rfl hf z t f x))
 |made L σ D ea vs hr=>contradiction
theorem OP {e:av}{s':aF} (h:aao k X e s'){M:eD}:cameBackBy M k.A k.env (fun e s'=>Jo k rz X e s') e s':=by
 obtain⟨L,σ,τ,D,ea,a0,La,he,hf,z,t,⟨k1,k2,k3,k4⟩,x⟩:=h
 subst he
 unfold cameBackBy
 rw[hf]
 exact HK k1 k2 k3 k4 fun h' hh hu=>.held (.mk L σ τ D ea a0 La rfl hf z (t.slots z hu) hh x)
def Yi (k:Kx) (rz:aj) (Q:PO) (X:fj) (r:fp) (s':aF):Prop:=match r with
 |.ok f=>fM (mf k Q · f) s'
 |.error e=>cameBackBy k.M k.A k.env (fun e s'=>Jo k rz X e s') e s'
inductive ND (k:Kx) (rz:aj) (c:fi) (J:Nat->Sx->Prop) (Q:PO) (X:fj) (n:Nat) (τ:Sx):Fin->Prop
 |done (f:iR) (h:mf k Q τ f):ND k rz c J Q X n τ (.done f)
 |again (m:Nat) (h:m < n) (j:J m τ):ND k rz c J Q X n τ (.again c)
 |out (c':fi) (hq:c'.quiet=ag) (h:iJ k.M k.A c' (Yi k rz Q X) τ.s):ND k rz c J Q X n τ (.again c')
theorem Hs (F:k.Full){c:fi}{t:Sem Fin} (hq:c.quiet=ag) (hd:rn c) (hA:k.A.under c=k.A) (den:k.M.den c=t.onRaise fun x=>do noteFrame x k.env;theTreesLotGoes x) (J:Nat->Sx->Prop)
  (turn:∀ n σ,J n σ->W k ao t (fun f τ=>ND k rz c J Q X n τ f) X σ) (n:Nat) (h:J n σ):W k rz (runOwn c k.env) (fun f τ=>mf k Q τ f) X σ:=by
 have go:∀ n s,fM (J n) s->iJ k.M k.A c (Yi k rz Q X) s:=fun n=>by
  induction n using Nat.strongRecOn with
  |ind n ih=>
   intro s j
   obtain⟨g,H,j⟩:=j
   refine I.tree hd ?_
   rw[hA,den]
   refine I.onRaise (I.bT (turn n ⟨s,g,H⟩ j) (fun f s' o=>?_) fun e s' h=>I.leaf (HE F h fun JJ hh=>I.any (wpAny_theTreesLotGoes (OP hh))))
   obtain⟨g',H',o⟩:=o
   cases o with
   |done f h=>exact⟨g',H',h⟩
   |again m h j=>exact⟨hq,ih m h s' ⟨g',H',j⟩⟩
   |out c' hq h=>exact⟨hq,h⟩
 exact I.runOwn (by intro x;cases x) (I.pN (go n σ.s ⟨σ.g,σ.H,h⟩) fun r s' hr=>match r,hr with
  |.ok _,hr=>hr
  |.error _,hr=>hr)
inductive WJ (k:Kx) (J:Nat->bZ->Hp->Prop) (n:Nat) (σ:Sx):Prop
 |mk (L:bZ) (z:At k L σ) (j:J n L σ.H)
theorem Uj {d:E}{b:Ss} (S:Jl b):SS (.kD d b):=fun{k rz L σ Q X y} F z hm h=>JV hm fun t u v p hh=>by
 refine tp (P:=fun v=>W k rz (exec (.While t u v p) k.env) (fun f τ=>mf k Q τ f) X σ) (aU (aU hh)) ?_
 obtain⟨J,n,j0,hs⟩:=h
 rw[arm_exec_While]
 refine W.cY (Hs F (t:=whileTurn t u [] k.env) rfl (fun _ _=>rfl) rfl rfl (WJ k J) (fun n σ h=>?_) n (.mk L z j0))
 obtain⟨L,z,j⟩:=h
 unfold whileTurn
 refine W.qr ((EW.all d).st (P:=fun t H1=>cond t (wSs k.C ao b L H1 (mi (fun L H=>∃ j,j < n/\J j L H) Q) X) (Q .next L H1)) z (bx (aU hh)) (hs n L σ.H j) fun v H q=>q) fun t τ l z q=>W.ifb ?_
 cases t with
 |true=>
  refine W.bind (S F z (bx hh) q) fun f τ o=>?_
  cases o with
  |next L z q=>obtain⟨m,hm,q⟩:=q;exact W.pure (.again m hm (.mk L z q))
  |brk L z q=>exact W.pure (.done _ (.next L z q))
  |cont L z q=>obtain⟨m,hm,q⟩:=q;exact W.pure (.again m hm (.mk L z q))
  |ret L v x e z q=>exact W.pure (.done _ (.ret L v x e z q))
 |false=>exact W.bind (m:=execs [] k.env) (P:=fun f τ'=>f=.next/\τ'=τ) (W.pure ⟨rfl,rfl⟩) fun f τ' o=>W.pure (.done _ (o.1▸o.2▸.next L z q))
end
section
variable {k:Kx}{rz:aj}{L:bZ}{σ τ ρ:Sx}{X:fj}{Q:PO}{aI:ax}{x:Nm}{b:Ss}{e:E}{α β:Type}
inductive NxE (aI:ax) (σ:Sx):aC av->Sx->Prop
 |mk (h':bB) (tk:Nat) (hs:∀ b o,b≠aI->σ.get b=aa o->h'.get? b=aa o):NxE aI σ au (σ.up h' tk)
inductive NxI (aI:ax) (σ:Sx) (It:Sx->Prop) (y:V):aC av->Sx->Prop
 |mk (v:av) (h':bB) (tk:Nat) (e:er σ.g v y) (hs:∀ b o,b≠aI->σ.get b=aa o->h'.get? b=aa o) (i:It (σ.up h' tk)):NxI aI σ It y (aa v) (σ.up h' tk)
def Nx (k:Kx) (aI:ax) (σ:Sx) (P:aC av->Sx->Prop):Prop:=aO k.M k.A (pyNext (.ref aI)) (fun r s'=>fM (P r) s') (fun _ _=>False) σ.s
section
variable {ι:Type} (m:ι->Nat) (It:ι->Sx->Prop) (J:ι->bZ->Hp->Prop)
inductive WG (k:Kx) (aI:ax) (x:Nm) (b:Ss) (Q:PO) (X:fj) (i:ι) (L:bZ) (σ:Sx):Prop
 |fin (q:Q .next L σ.H) (h:Nx k aI σ (NxE aI σ))
 |item (y:V) (i':ι) (lt:m i' < m i) (q:wSs k.C ao b (L.set x y) σ.H (mi (J i') Q) X) (h:Nx k aI σ (NxI aI σ (It i') y))
inductive FJ (k:Kx) (aI:ax) (n:Nat) (σ:Sx):Prop
 |mk (i:ι) (L:bZ) (z:At k L σ) (nI:σ.Off aI) (t:It i σ) (j:J i L σ.H) (hn:n=m i)
theorem W.onRaise {m:Sem α}{g:av->Sem cR}{f:α->Sem β}{R:β->Sx->Prop}{P:α->Sx->Prop} (h:aO k.M k.A m (fun a s'=>fM (P a) s') (fun _ _=>False) σ.s) (K:∀ a τ,P a τ->W k rz (f a) R X τ):W k rz (m.onRaise g>>=f) R X σ:=
 W.bind (P:=P) (I.onRaise (I.bT (I.any h) (fun _ _ q=>q) fun _ _ q=>q.elim)) K
theorem Ib (F:k.Full) (S:Jl b) (hx:k.wi x){p:Pos}{u:ah aZ} (hm:Oq k.sc b u=ag) (N:k.Jm aI) (hs:∀ i L L' σ τ,At k L σ->σ.Off aI->At (k.at σ) L' τ->It i σ->It i τ/\τ.Off aI)
  (st:∀ i L σ,At k L σ->It i σ->J i L σ.H->WG m It J k aI x b Q X i L σ) (i:ι) (z:At k L σ) (nI:σ.Off aI) (t:It i σ) (j:J i L σ.H):W k rz (runOwn (.forLoop (.Name (dQ x) p) (.ref aI) u [] k.env) k.env) (fun f τ=>mf k Q τ f) X σ:=by
 refine Hs F (t:=forTurn (.Name (dQ x) p) (.ref aI) u [] k.env) rfl (fun _ _=>rfl) rfl rfl (FJ m It J k aI) (fun n σ h=>?_) (m i) (.mk i L z nI t j rfl)
 obtain⟨i,L,z,nI,t,j,rfl⟩:=h
 unfold forTurn
 refine W.cY ?_
 have off:∀ {h' tk},(σ.up h' tk).Off aI:=⟨nI.z,nI.h,nI.d⟩
 cases st i L σ z t j with
 |fin q h=>
  refine W.onRaise h fun r τ o=>?_
  cases o with
  |mk h' tk hs=>exact W.pure (.out _ rfl (I.anyC (codeAny_block (wpAny_execs_nil ⟨σ.g,σ.H,.next L (N.turn (tk:=tk) z nI hs) q⟩))))
 |item y i' lt q h=>
  refine W.onRaise h fun r τ o=>?_
  cases o with
  |mk v h' tk e hs' t=>
   have z1:=N.turn (tk:=tk) z nI hs'
   refine W.bind (m:=letOwnedTupleGo (.Name (dQ x) p) (.ref aI) v) (P:=fun _ ρ=>ρ=σ.up h' tk) (W.pure rfl) fun _ ρ o=>?_
   subst o
   refine W.bind (W.back z1 (rS (k:=k.at (σ.up h' tk)) (P:=fun L'=>L'=L.set x y) z1.start hx e rfl)) fun _ ρ o=>?_
   obtain⟨L',h2,tk2,rfl,z2,rfl⟩:=o
   have adE:((σ.up h' tk).up h2 tk2).Off aI:=⟨nI.z,nI.h,nI.d⟩
   have t2:=(hs _ _ _ _ _ z1 off z2 t).1
   have z2:=z1.back z2
   refine W.bind (W.back z2 (S (k:=k.at ((σ.up h' tk).up h2 tk2)) F z2.start hm q)) fun f ρ o=>?_
   have go:∀ {L3},At (k.at ((σ.up h' tk).up h2 tk2)) L3 ρ->J i' L3 ρ.H->FJ m It J k aI (m i') ρ:=fun z3 q=>have t3:=hs _ _ _ _ _ z2 adE z3 t2;.mk i' _ (z2.back z3) t3.2 t3.1 q rfl
   cases o with
   |next L z3 q=>exact W.pure (.again _ lt (go z3 q))
   |brk L z3 q=>exact W.pure (.done _ (.next L (z2.back z3) q))
   |cont L z3 q=>exact W.pure (.again _ lt (go z3 q))
   |ret L v x e z3 q=>exact W.pure (.done _ (.ret L v x e (z2.back z3) q))
end
theorem Z':Jl b->SS (.uz x e b):=fun S {k rz L σ Q X y} F z hm h=>Hw hm fun t it u v p hh=>by
 have hx:=nh F (bx (aU (aU (aU hh))))
 have h7:=l7.mp (bx (aU (aU hh)))
 refine tp (P:=fun v=>W k rz (exec (.For t it u v p) k.env) (fun f τ=>mf k Q τ f) X σ) (fG (aU hh)) ?_
 refine gR (P:=fun t=>W k rz (exec (.For t it u [] p) k.env) (fun f τ=>mf k Q τ f) X σ) (bx (fG hh)) fun p'=>?_
 rw[arm_exec_For]
 refine W.cY (SE.step (EW.all e).se z (bx (aU hh)) h fun v τ src ev l z q=>?_)
 obtain⟨full,q1,J,j0,jd,js⟩:=q
 obtain⟨ls,rfl,sq⟩:∃ ls,v=.ref ls/\SeqAt τ ls "list" full:=z.gL (p:=fun xs=>xs=full) ev ⟨full,q1,rfl⟩ fun a xs s e=>⟨a,rfl,e▸s⟩
 obtain⟨vs,hl,ra⟩:=sq.list
 refine W.eqB (m:=foldedSetIterable it k.env (.ref ls)) (Dr h7 _ _) (W.cY (W.leaf (Ga (LZ hl ⟨τ.g,τ.H,?_⟩))))
 have na:=di τ.s.heap
 have N:=z.new na
 have f:=z.rep.fresh na
 refine Ib (fun r:ah V=>r.length) (fun r σ=>er σ.g (.ref ls) src/\∃ i,σ.s.heap.IsListIter τ.s.heap.objs.size ls i/\full.drop i=r) J F S hx (bx hh) N (fun i L L' σ τ z f w o=>?_) (fun r L σ z t j=>?_) full (z.grow (tk:=τ.s.toks) fun _ _ h=>jN _ h) ⟨f.z,f.h,f.d⟩
  ⟨ev,0,⟨_,jg _ rfl,rfl,rfl⟩,rfl⟩ j0
 ·obtain⟨ev,i,⟨o,ho,hc,hd⟩,e⟩:=o
  have h1:=N.off z w ho f
  exact⟨⟨ev.le w.rel.le,i,⟨o,h1.1,hc,hd⟩,e⟩,h1.2⟩
 ·obtain⟨ev,i,hit,e⟩:=t
  cases r with
  |nil=>
   obtain⟨q1,q2⟩:=jd _ _ j
   obtain⟨vs,hv,ra⟩:=(z.zr ev q1).list
   exact .fin q2 (XN k.ca.hd hit hv (XT (fC ra▸XH.mp e)) fun h' hs=>⟨σ.g,σ.H,.mk h' σ.s.toks hs⟩)
  |cons y r=>
   obtain⟨q1,q2⟩:=js _ _ _ _ j
   obtain⟨vs,hv,ra⟩:=(z.zr ev q1).list
   obtain⟨e1,e2⟩:=drop_cons e
   obtain⟨v,e3,e4⟩:=ra.get e1
   exact .item y r (nS _) q2 (XS hit hv ((BA ..).symm.trans e3) fun h' Pn hs=>⟨σ.g,σ.H,.mk v h' σ.s.toks e4 (fun b o nb e=>(hs.2 b nb).trans e) ⟨ev,i+1,Pn,e2⟩⟩)
end
theorem JK (a b:Int):Builtin.Range.rangeSize a b 1=((b-a).toNat:Int):=by
 rw[rangeSize_one];split<;>lia
section
variable {k:Kx}{rz:aj}{L:bZ}{σ τ ρ:Sx}{X:fj}{Q:PO}{aI:ax}{x:Nm}{b:Ss}{lo hi:E}
inductive Rng (k:Kx) (L:bZ) (P:Int->Int->Hp->Prop) (v:av) (τ:Sx):Prop
 |mk (r:ax) (i j:Int) (t u w:Tok) (e:v=.ref r) (h:IsRange τ.s.heap r i j 1 t u w) (z:At k L τ) (b:-(2 ^ 62)<=i/\i < 2 ^ 62/\-(2 ^ 62)<=j/\j < 2 ^ 62) (q:P i j τ.H)
theorem Mt (z:At k L σ){P:Int->Int->Hp->Prop}{i j:Int}{t u w:Tok}{tk:Nat} (b:-(2 ^ 62)<=i/\i < 2 ^ 62/\-(2 ^ 62)<=j/\j < 2 ^ 62) (q:P i j σ.H):
  fM (Rng k L P (.ref σ.s.heap.objs.size)) {σ.s with heap:=σ.s.heap.push {cls:=.type "range",data:=.fields #[.int i t,.int j u,.int 1 w]},toks:=tk}:=
 ⟨σ.g,σ.H,.mk _ i j t u w rfl (IsRange.new ..) (z.grow fun _ _ h=>jN _ h) b q⟩
theorem YA (z:At k L σ){it:ay}{P:Int->Int->Hp->Prop} (hm:QZ k.sc lo hi it=ag) (h:wE k.C lo L σ.H (fun l H1=>wE k.C hi L H1 (fun h H2=>BX l h lo.yD fun i j=>P i j H2) (lZ X L)) (lZ X L)):
  W k rz (eval it k.env) (Rng k L P) X σ:=mM hm fun q xs p hh=>by
 have go:∀ {es:Es}{R:ah V->Hp->Prop},Me es->uV k.sc es xs=ag->wEs k.C es L σ.H R (lZ X L)->(∀ us vs τ,dG (er τ.g) us vs->At k L τ->R vs τ.H->W k rz (call (.type "range") us) (Rng k L P) X τ)->
   W k rz (eval (.Call (.Name ("range":Str) q) xs [] p) k.env) (Rng k L P) X σ:=fun{es R} S hm h K=>by
  refine W.Jc (by decide+kernel) (W.any (Ar z (aU hh) k.D.gr ⟨σ.g,σ.H,I.callWith_builtin (iO hm) (fun a=>nofun) (I.bT (ti S z hm h) (fun ar s' q=>?_) fun _ _ w=>w)⟩))
  obtain⟨g,H,ek,ys,e,l,z,q⟩:=q
  rw[ek]
  exact K _ _ ⟨s',g,H⟩ e z q
 cases hn:lo.yD with
 |true=>
  have h2:uV k.sc (.cons hi .nil) xs=ag:=by have:=bx hh;rw[hn] at this;exact this
  obtain rfl:=Uw hn
  refine go (sF (EW.all hi).se zC) (R:=fun vs H2=>Ka vs fun h=>BX .none h ag fun i j=>P i j H2) h2 h fun us vs τ e z q=>oD e q fun u y e q=>?_
  obtain⟨i,j,hl,rfl,h1,h2,h3,h4,q⟩:=q
  cases hl
  obtain⟨t,rfl⟩:=e
  exact W.any (call_range_1 (Mt z ⟨h1,h2,h3,h4⟩ q))
 |false=>
  have h2:uV k.sc (.cons lo (.cons hi .nil)) xs=ag:=by have:=bx hh;rw[hn] at this;exact this
  rw[hn] at h
  refine go (sF (EW.all lo).se (sF (EW.all hi).se zC)) (R:=fun vs H2=>on2 vs fun l h=>BX l h ao fun i j=>P i j H2) h2 h fun us vs τ e z q=>QJ e q fun u y w y' e e' q=>?_
  obtain⟨i,j,hl,rfl,h1,h2,h3,h4,q⟩:=q
  refine gI (p:=fun i'=>i'=i) (G:=fun u=>W k rz (call (.type "range") [u,w]) (Rng k L P) X τ) e ⟨_,hl,rfl⟩ fun i' t e=>?_
  subst e
  obtain⟨t',rfl⟩:=e'
  exact W.any (call_range_2 (Mt z ⟨h1,h2,h3,h4⟩ q))
theorem Wm:Jl b->SS (.forR x lo hi b):=fun S {k rz L σ Q X y} F z hm h=>Hw hm fun t it u v p hh=>by
 have hx:=nh F (bx (aU (aU hh)))
 have hr:=bx (aU hh)
 refine tp (P:=fun v=>W k rz (exec (.For t it u v p) k.env) (fun f τ=>mf k Q τ f) X σ) (fG hh) ?_
 refine gR (P:=fun t=>W k rz (exec (.For t it u [] p) k.env) (fun f τ=>mf k Q τ f) X σ) (bx (aU (aU (aU hh)))) fun p'=>?_
 rw[arm_exec_For]
 refine W.cY (W.bind (YA z hr h) fun v τ o=>?_)
 obtain⟨r,i,j,t',u',w',rfl,h,z,⟨b1,b2,b3,b4⟩,J,j0,jd,js⟩:=o
 refine W.eqB (m:=foldedSetIterable it k.env (.ref r)) (mM (P:=fun it=>foldedSetIterable it k.env (.ref r)=pure (.ref r)) hr fun _ _ _ _=>rfl) (W.cY (W.leaf (Ga (wpAny_pyIter_range h (small_one b1 b2 b3 b4) ⟨τ.g,τ.H,?_⟩))))
 rw[JK]
 have na:=di τ.s.heap
 have N:=z.new na
 have f:=z.rep.fresh na
 refine Ib (fun i:Nat×Int=>i.1) (fun i σ=>IsRangeIter σ.s.heap τ.s.heap.objs.size i.2 (i.1:Int) 1) (fun i L H=>J i.1 i.2 L H) F S hx (bx hh) N (fun i L L' σ τ z f w o=>N.off z w o f) (fun i L σ z t j=>?_) ((j-i).toNat,i) (z.grow (tk:=τ.s.toks) fun _ _ h=>jN _ h) ⟨f.z,f.h,f.d⟩
  (jg _ rfl) j0
 obtain⟨n,i⟩:=i
 cases n with
 |zero=>exact .fin (jd _ _ _ j) (wpAny_pyNext_range_end k.ca.hd t (F8 0) fun h' hs=>⟨σ.g,σ.H,.mk h' σ.s.toks hs⟩)
 |succ n=>exact .item (.int i) (n,i+1) (nS _) (js _ _ _ _ j) (wpAny_pyNext_range_item t (Gi.mpr (sx n)) fun h' Pn hs=>⟨σ.g,σ.H,.mk _ h' (σ.s.toks+1) ⟨_,rfl⟩ (fun b o nb e=>(hs.2 b nb).trans e) ((Int.add_sub_cancel (n:Int) 1:((n+1:Nat):Int)-1=n)▸Pn)⟩)
end
inductive aeu (h:bB) (C:ax) (bmB:ah av) (newId:b_):Prop
 |mk (bm:ah av) (N:ax) (nm:Str) (q:Str) (bs:ah av) (Zf:aj) (sn:ah Str) (sub:ah av) (ab:aj) (col:aC aj) (dd:aC ax) (k0 k1 k2 k3 k5:aC av) (mN:Str->aC av)
  (ho:h.get? C=aa (excClassObj nm q C N bs bm Zf sn sub ab col dd k0 k1 k2 k3 k5 newId)) (hN:h.Ns N mN) (hi:mN "__init__"=au) (T:OwnTail h bmB bm)
theorem M5 {K:cW}{h:bB}{C:ax}{bmB:ah av}{newId:b_} (X:K.In h) (q:Zq K C bmB newId=ag):aeu h C bmB newId:=
 uq (P:=fun y=>K.lookup C=y->_) q (fun o q ho=>by
  obtain⟨cl,dd,dt,l⟩:=o
  obtain⟨l⟩:=l
  refine Oe (P:=fun cl=>K.lookup C=aa ⟨cl,dd,dt,⟨l⟩⟩->_) q (fun ty q ho=>?_) ho
  refine QH (P:=fun dt=>K.lookup C=aa ⟨.type ty,dd,dt,⟨l⟩⟩->_) (bx q) (fun cd q' ho=>?_) ho
  obtain⟨nm,bs,mro,ns,qn,hd,sn,sub,ab,col,del⟩:=cd
  refine Ow (P:=fun mro=>K.lookup C=aa ⟨.type ty,dd,.cls ⟨nm,bs,mro,ns,qn,hd,sn,sub,ab,col,del⟩,⟨l⟩⟩->_) q' (fun c bm q' ho=>?_) ho
  refine Ow (P:=fun l=>K.lookup C=aa ⟨.type ty,dd,.cls ⟨nm,bs,c::bm,ns,qn,hd,sn,sub,ab,col,del⟩,⟨l⟩⟩->_) (bx q') (fun k0 r s ho=>?_) ho
  refine Ow (P:=fun l=>K.lookup C=aa ⟨.type ty,dd,.cls ⟨nm,bs,c::bm,ns,qn,hd,sn,sub,ab,col,del⟩,⟨k0::l⟩⟩->_) s (fun k1 r s ho=>?_) ho
  refine Ow (P:=fun l=>K.lookup C=aa ⟨.type ty,dd,.cls ⟨nm,bs,c::bm,ns,qn,hd,sn,sub,ab,col,del⟩,⟨k0::k1::l⟩⟩->_) s (fun k2 r s ho=>?_) ho
  refine Ow (P:=fun l=>K.lookup C=aa ⟨.type ty,dd,.cls ⟨nm,bs,c::bm,ns,qn,hd,sn,sub,ab,col,del⟩,⟨k0::k1::k2::l⟩⟩->_) s (fun k3 r s ho=>?_) ho
  refine Ow (P:=fun l=>K.lookup C=aa ⟨.type ty,dd,.cls ⟨nm,bs,c::bm,ns,qn,hd,sn,sub,ab,col,del⟩,⟨k0::k1::k2::k3::l⟩⟩->_) s (fun k4 r s ho=>?_) ho
  refine ry (P:=fun l=>K.lookup C=aa ⟨.type ty,dd,.cls ⟨nm,bs,c::bm,ns,qn,hd,sn,sub,ab,col,del⟩,⟨k0::k1::k2::k3::k4::l⟩⟩->_) (bx s) (fun k5 _ ho=>?_) ho
  refine uq (P:=fun k4=>K.lookup C=aa ⟨.type ty,dd,.cls ⟨nm,bs,c::bm,ns,qn,hd,sn,sub,ab,col,del⟩,⟨[k0,k1,k2,k3,k4,k5]⟩⟩->_) (aU s) (fun n s ho=>?_) ho
  refine Vi (P:=fun n=>K.lookup C=aa ⟨.type ty,dd,.cls ⟨nm,bs,c::bm,ns,qn,hd,sn,sub,ab,col,del⟩,⟨[k0,k1,k2,k3,aa n,k5]⟩⟩->_) s (fun n s ho=>?_) ho
  have q1:=aU q'
  have q2:=aU q1
  have q3:=aU q2
  have q4:=aU q3
  refine Aa (P:=fun c=>K.lookup C=aa ⟨.type ty,dd,.cls ⟨nm,bs,c::bm,ns,qn,hd,sn,sub,ab,col,del⟩,⟨[k0,k1,k2,k3,aa (.builtin n),k5]⟩⟩->_) (aU q4) (fun c e ho=>?_) ho
  rw[eq_of_beq (aU q),eq_of_beq e,eq_of_beq s,show del=ao from not_of (bx q4)] at ho
  exact .mk bm ns nm qn bs hd sn sub ab col dd k0 k1 k2 k3 k5 _ (X _ _ ho) (.of_isNs (isNs_of_in X (bx q2))) (nsMap_none_of_in X (bx q2) (eq_of_beq (bx q1))) (tail_of_in X (bx q3))) rfl
theorem Hi {env:Env} (x:Sem av):raiseStmt env (aa x) au=x>>=fun v=>raiseStmt env (aa (pure v)) au:=rfl
section
variable {k:Kx}{rz:aj}{L:bZ}{σ τ ρ:Sx}{X:fj}{C:Cn}{e:E}
inductive Yh (k:Kx) (rz:aj) (X:fj) (L:bZ) (C:Cn) (v:av) (τ:Sx):Prop
 |mk (σ:Sx) (ea:ax) (vs:ah av) (e:v=.ref ea) (hr:rz=ag) (z:At k L σ) (m:Heap.MadeExcOf σ.s.heap τ.s.heap ea (.ref (k.c.T.cA C)) vs) (gens:τ.s.gens=σ.s.gens) (drawn:τ.s.drawn=σ.s.drawn) (os:τ.s.os=σ.s.os) (x:X C L σ.H)
theorem QY (z:At k L σ){xs:ah ay}{p q:Pos} (hg:oX k.sc (Str.ofString C.s)=ag) (hE:C.isExc=ag) (hm:uV k.sc (.cons e .nil) xs=ag) (h:wE k.C e L σ.H (fun v H1=>rz=ag/\Uu v/\X C L H1) (lZ X L)):
  W k rz (eval (.Call (.Name (Str.ofString C.s) p) xs [] q) k.env) (Yh k rz X L C) X σ:=by
 refine W.Jc (rM C) (W.any (kM z hg (k.D.gc C) ⟨σ.g,σ.H,W.callWith (iO hm) (k.D.exk C hE) (W.bT (ti (P:=fun vs H=>Ka vs fun v=>rz=ag/\Uu v/\X C L H) (sF (EW.all e).se zC) z hm h) fun a τ ha=>?_)⟩))
 obtain⟨ek,ys,ey,l,z,q⟩:=ha
 refine⟨z.here,?_⟩
 rw[ek]
 refine oD (G:=fun us=>W k rz (call (.ref (k.c.T.cA C)) us []) (Yh k rz X L C) X τ) ey q fun u v e q=>?_
 obtain⟨hr,_,hx⟩:=q
 obtain⟨tl,N,nm,q',bs,Zf,sn,sub,ab,col,dd,k0,k1,k2,k3,k5,mN,hCo,hN,hni,T⟩:=M5 z.here (k.D.exc C hE)
 obtain⟨⟨hp,gs,dr,tk,os⟩,g,H⟩:=τ
 exact W.any (wpAny_call_exc_subT Yb T hCo hN hni (fun h' ea hx'=>⟨g,H,.mk ⟨⟨hp,gs,dr,tk,os⟩,g,H⟩ ea _ rfl hr z hx' rfl rfl rfl hx⟩) (by rw[l8];exact(by decide:1<=16777216)))
theorem Uk:SS (.cC C e):=fun{k rz L σ Q X y} F z hm h=>JX hm fun a b p hh=>QL (P:=fun b=>W k rz (exec (.Raise a b p) k.env) (fun f τ=>mf k Q τ f) X σ) (aU hh) (uq (P:=fun a=>W k rz (exec (.Raise a au p) k.env) (fun f τ=>mf k Q τ f) X σ) (bx hh) fun x hx=>rm (P:=fun x=>W k rz (exec (.Raise (aa x) au p) k.env) (fun f τ=>mf k Q τ f) X σ) hx fun f xs Kj q hh=>by
 have hE:=bx (aU (aU hh))
 refine tp (P:=fun Kj=>W k rz (exec (.Raise (aa (.Call f xs Kj q)) au p) k.env) (fun f τ=>mf k Q τ f) X σ) (bx (aU hh)) (gR (P:=fun f=>W k rz (exec (.Raise (aa (.Call f xs [] q)) au p) k.env) (fun f τ=>mf k Q τ f) X σ) (fG hh) fun p'=>?_)
 rw[arm_exec_Raise]
 refine W.cY (W.eq (Hi (eval (.Call (.Name (Str.ofString C.s) p') xs [] q) k.env>>=fun v=>standAt p>>=fun _=>pure v)) (W.bind (W.bind (QY z (bx (aU (aU (aU hh)))) hE (bx hh) h) fun v τ o=>W.cY (W.pure o)) fun v τ o=>?_))
 obtain⟨σ',ea,vs,rfl,hr,z,m,gn,dr,os,hx⟩:=o
 obtain⟨tl,N,nm,q',bs,Zf,sn,sub,ab,col,dd,k0,k1,k2,k3,k5,mN,hCo,hN,hni,T⟩:=M5 z.here (k.D.exc C hE)
 obtain⟨t,ht,_,_⟩:=m.there
 exact W.any (wpAny_raiseStmt_made_sub (T.hasType Yb.hasBase) k.ca.hd (bW ⟨ea,t,rfl,m.keeps _ _ hCo,ht,.made L σ' C ea vs hr rfl z m gn dr os hx⟩)))
end
namespace I
section
variable {M:eD}{A:bF}{E:av->aF->Prop}{s:aF}{env:Env}
theorem tryStmt {body orelse:Sem iR}{h₀:ExceptHandler}{Q:iR->aF->Prop}
  (h:ia M A body (fun f s₁=>match f with |.next=>ia M A orelse Q E s₁ |f=>Q f s₁) (fun e s₁=>aO M A (noteFrame e env) (fun _ s₂=>aO M A (setFlight e au) (fun _ s₃=>ia M A (handleBy e env [h₀]) Q E s₃) E s₂) E s₁) s):
  ia M A (PySem.tryStmt ao body [h₀] orelse [] env) Q E s:=by
 unfold PySem.tryStmt
 refine ifT rfl ?_
 refine bind (attempt (bT h (fun f s₁ h₁=>?_) fun e s₁ h₁=>?_))
 ·cases f with
  |next=>exact h₁
  |_=>exact pure h₁
 ·exact bind (bT (any h₁) (fun _ _ h₂=>HS cj (bind (bT (any h₂) (fun _ _ h₃=>HS cj (HS cj h₃)) fun _ _ x=>x))) fun _ _ x=>x)
end
end I
section
variable {k:Kx}{rz:aj}{L:bZ}{σ τ ρ:Sx}{X:fj}{Q:PO}{b:Ss}{C:Cn}
theorem At.KG {s':aF} (z:At k L σ) (t:Th k.c k.frs σ τ s') (st:τ.s.heap.StaysIn s'.heap):At k L ⟨s',τ.g,τ.H⟩:=
 z.step
  {le:=t.le
   rep:=t.rep.keeps (fun b o e _=>st b o e) fun b o e=>st b o (t.rep.stays b o e)
   keep:=fun b o e f _=>⟨fun m=>st b o (t.k b o e f m),ZW (t.sl b o e f) fun m=>⟨o.slots,st b o (t.k b o e f m)⟩⟩
   off:=fun b o e f=>have w:=t.off b o e f;⟨w.z,w.h,w.d⟩
   gens:=t.gens
   drawn:=t.drawn
   os:=t.os}
theorem AE (F:k.Full) (z:At k L σ){h:Hr}{hb:ah aZ} (hm:mH k.sc h hb=ag) (hw:wH h L σ.H Q):∃ b₀,hb=[b₀]/\∀ {A':bF}{E':av->aF->Prop},aO k.M A' (execs hb k.env) (fun f s'=>fM (fun τ=>mf k Q τ f) s') E' σ.s:=by
 cases h with
 |Qe b=>exact ry (P:=fun hb=>∃ b₀,hb=[b₀]/\∀ {A':bF}{E':av->aF->Prop},aO k.M A' (execs hb k.env) (fun f s'=>fM (fun τ=>mf k Q τ f) s') E' σ.s) hm fun y hy=>⟨y,rfl,fun{A' E'}=>by
   refine rk (P:=fun y=>aO k.M A' (execs [y] k.env) (fun f s'=>fM (fun τ=>mf k Q τ f) s') E' σ.s) hy fun o p ho=>uq (P:=fun o=>aO k.M A' (execs [.Return o p] k.env) (fun f s'=>fM (fun τ=>mf k Q τ f) s') E' σ.s) ho fun x hx=>
    eQ (P:=fun x=>aO k.M A' (execs [.Return (aa x) p] k.env) (fun f s'=>fM (fun τ=>mf k Q τ f) s') E' σ.s) hx fun c n q hc=>wM (P:=fun c=>aO k.M A' (execs [.Return (aa (.Constant c n q)) p] k.env) (fun f s'=>fM (fun τ=>mf k Q τ f) s') E' σ.s) hc fun d hd=>?_
   obtain rfl:=eq_of_beq hd
   exact bf (bf (BI (bf (bW (bW (bW ⟨σ.g,σ.H,.ret L (.bool d) (.bool d) rfl z hw⟩))))))⟩
 |setB x b=>exact ry (P:=fun hb=>∃ b₀,hb=[b₀]/\∀ {A':bF}{E':av->aF->Prop},aO k.M A' (execs hb k.env) (fun f s'=>fM (fun τ=>mf k Q τ f) s') E' σ.s) hm fun y hy=>⟨y,rfl,fun{A' E'}=>by
   refine vy (P:=fun y=>aO k.M A' (execs [y] k.env) (fun f s'=>fM (fun τ=>mf k Q τ f) s') E' σ.s) hy fun t v p hh=>gR (P:=fun t=>aO k.M A' (execs [.Assign [t] v p] k.env) (fun f s'=>fM (fun τ=>mf k Q τ f) s') E' σ.s) (aU (aU hh)) fun q=>
    eQ (P:=fun v=>aO k.M A' (execs [.Assign [.Name (dQ x) q] v p] k.env) (fun f s'=>fM (fun τ=>mf k Q τ f) s') E' σ.s) (bx hh) fun c n q' hc=>wM (P:=fun c=>aO k.M A' (execs [.Assign [.Name (dQ x) q] (.Constant c n q') p] k.env) (fun f s'=>fM (fun τ=>mf k Q τ f) s') E' σ.s) hc fun d hd=>?_
   obtain rfl:=eq_of_beq hd
   refine bf (bf (BI (bf (bW (fW cj (bf (bW ?_)))))))
   refine bf (bW (bf (bf (BI (Tn (pj (zO (P:=fun L'=>Q .next L' σ.H) z (nh F (bx (aU hh))) (v:=.bool d) (y:=.bool d) rfl hw) (fun u s' o=>?_) fun _ _ e=>e))))))
   obtain⟨g,H,L',h',tk,e,z',q'⟩:=o
   cases e
   exact bW (bW ⟨σ.g,σ.H,.next L' z' q'⟩)⟩
 |other=>exact hw.elim
theorem N2 {D:Cn} (h:C.under D=ag):C.isExc=ag:=by
 unfold Cn.isExc
 unfold Cn.under at h
 cases e:C.sup with
 |nil=>rw[e] at h;contradiction
 |cons=>rfl
theorem UO (z:At k L σ){A':bF}{tup:aj}{cs:ah Cn}{ty:ay}{ea:ax} (hC:C.isExc=ag) (hx:Looks k.M σ.s.heap (typeOf (.ref ea)) (.ref (k.c.T.cA C))) (hm:mTy k.sc tup cs ty=ag)
  {P:aj->aF->Prop}{E1 E2:av->aF->Prop} (q:∀ h',(∀ b o,σ.get b=aa o->h'.get? b=aa o)->P (cs.any C.under) {σ.s with heap:=h'}):
  aO k.M A' (eval ty k.env) (fun cv s₁=>aO k.M A' (excMatches (.ref ea) cv) P E1 s₁) E2 σ.s:=by
 have ld:∀ {C':Cn}{x:ay}{Q:av->aF->Prop},Q0 k.sc C' x=ag->Q (.ref (k.c.T.cA C')) σ.s->aO k.M A' (eval x k.env) Q E2 σ.s:=fun{C' x Q} h q=>
  gR (P:=fun x=>aO k.M A' (eval x k.env) Q E2 σ.s) (aU (aU h)) fun p=>Lr (kM z (bx (aU h)) (k.D.gc C') q) (rM C')
 cases tup with
 |false=>
  refine ry (P:=fun cs=>(∀ h',(∀ b o,σ.get b=aa o->h'.get? b=aa o)->P (cs.any C.under) {σ.s with heap:=h'})->_) hm (fun C1 h1 q=>?_) q
  exact ld h1 ((exm_one z.here hx (k.D.exm C C1 hC (bx h1))).here (Ge (C.under C1)▸q σ.s.heap fun _ _ e=>e))
 |true=>
  refine pD (P:=fun ty=>aO k.M A' (eval ty k.env) (fun cv s₁=>aO k.M A' (excMatches (.ref ea) cv) P E1 s₁) E2 σ.s) hm fun xs n p hh=>?_
  refine Oz (P:=fun cs=>(∀ h',(∀ b o,σ.get b=aa o->h'.get? b=aa o)->P (cs.any C.under) {σ.s with heap:=h'})->_) hh (fun C1 C2 hh q=>?_) q
  refine Oz (P:=fun xs=>aO k.M A' (eval (.Tuple xs n p) k.env) (fun cv s₁=>aO k.M A' (excMatches (.ref ea) cv) P E1 s₁) E2 σ.s) hh fun x y hh=>?_
  have h1:=aU hh
  have h2:=bx hh
  refine gR (P:=fun x=>aO k.M A' (eval (.Tuple [x,y] n p) k.env) (fun cv s₁=>aO k.M A' (excMatches (.ref ea) cv) P E1 s₁) E2 σ.s) (aU (aU h1)) fun p1=>?_
  refine gR (P:=fun y=>aO k.M A' (eval (.Tuple [_,y] n p) k.env) (fun cv s₁=>aO k.M A' (excMatches (.ref ea) cv) P E1 s₁) E2 σ.s) (aU (aU h2)) fun p2=>?_
  rw[Ti]
  refine bf (BI (bf ?_))
  show aO _ _ (spliced [(ao,eval (.Name (Str.ofString C1.s) p1) k.env),(ao,eval (.Name (Str.ofString C2.s) p2) k.env)]) _ _ _
  refine TV (Lr (kM z (bx (aU h1)) (k.D.gc C1) (TV (Lr (kM z (bx (aU h2)) (k.D.gc C2) (Calls.spliced_nil ?_)) (rM C2)))) (rM C1))
  refine Tg ?_ (by rw[l8];exact(by decide:2<=16777216))
  have grow:∀ b o,σ.get b=aa o->(σ.s.heap.push {cls:=.type "tuple",data:=.seq [.ref (k.c.T.cA C1),.ref (k.c.T.cA C2)].toArray}).get? b=aa o:=fun b o e=>jN _ e
  have hp:=jg σ.s.heap (o:={cls:=.type "tuple",data:=.seq [.ref (k.c.T.cA C1),.ref (k.c.T.cA C2)].toArray}) rfl
  have ha:exmAny k.K (.ref (k.c.T.cA C)) [.ref (k.c.T.cA C1),.ref (k.c.T.cA C2)]=aa (C.under C1 || (C.under C2 || false)):=by
   unfold exmAny
   rw[k.D.exm C C1 hC (bx h1)]
   unfold exmAny
   rw[k.D.exm C C2 hC (bx h2)]
   rfl
  exact(exm_tup2 (z.here.keeps grow) (hx.keeps grow) hp ha).here (q _ grow)
end
section
variable {k:Kx}{rz:aj}{L:bZ}{σ τ ρ:Sx}{X:fj}{Q:PO}{b:Ss}{C:Cn}
theorem Z9 {h:Hr}{tup:aj}{cs:ah Cn}:Jl b->SS (.Ea b tup cs h):=fun S {k rz L σ Q X y} F z hm hw=>QB hm fun body hs oe fin p hh=>
 tp (P:=fun oe=>W k rz (exec (.Try body hs oe fin p) k.env) (fun f τ=>mf k Q τ f) X σ) (aU (aU hh)) (tp (P:=fun fin=>W k rz (exec (.Try body hs [] fin p) k.env) (fun f τ=>mf k Q τ f) X σ) (bx (aU hh))
 (ry (P:=fun hs=>W k rz (exec (.Try body hs [] [] p) k.env) (fun f τ=>mf k Q τ f) X σ) (bx hh) fun hd EZ=>Hz (P:=fun hd=>W k rz (exec (.Try body [hd] [] [] p) k.env) (fun f τ=>mf k Q τ f) X σ) EZ fun ty hb q hh=>by
 have h1:=bx (aU hh)
 have h2:=aU (aU hh)
 have h3:=bx hh
 rw[arm_exec_Try]
 refine W.cY (I.tryStmt (I.bT (S F z h1 hw) (fun f s₁ hh=>?_) fun e s₁ hx=>?_))
 ·obtain⟨g,H,o⟩:=hh
  cases o with
  |next L z q=>exact I.pure ⟨g,H,.next L z q⟩
  |brk L z q=>exact⟨g,H,.brk L z q⟩
  |cont L z q=>exact⟨g,H,.cont L z q⟩
  |ret L v x e z q=>exact⟨g,H,.ret L v x e z q⟩
 ·refine HE F hx fun s₂ hh=>?_
  obtain⟨L1,σ1,τ,D,ea,a0,La,he,hf,z1,t,f1,UB,hx2⟩:=hh
  subst he
  refine wpAny_landsW f1 fun h' yH hu=>?_
  have t2:=t.slots z1 hu
  have z2:=z1.KG t2 yH.1
  have hE:D.isExc=ag:=(List.any_eq_true.mp UB).elim fun _ hd=>N2 hd.2
  obtain⟨ob,hob,Jh⟩:=yH.there
  have LT:Looks k.M h' (typeOf (.ref ea)) (.ref (k.c.T.cA D)):=by
   obtain⟨cl,dd,dt,sl⟩:=ob
   subst Jh
   exact(Lp hob).andThen .now
  refine I.any (wpAny_handleBy_cons (codeAny_handlers_test (UO (σ:=⟨{s₂ with heap:=h'},τ.g,τ.H⟩) z2 hE LT h2 fun h₅ grow=>?_)) nofun)
  rw[UB]
  have t3:=t2.slots z1 (acs grow)
  have hf5:=flying_keeps yH grow
  obtain⟨b₀,rfl,_⟩:=AE F (z1.KG t3 hf5.1) h3 hx2
  refine codeAny_handlers_suite (lands_againW hf5 fun h₆ ad9 hu6=>?_)
  obtain⟨b₁,e,K⟩:=AE F (z1.KG (t3.slots z1 hu6) ad9.1) h3 hx2
  exact K))
theorem Jl.all:∀ ss:Ss,Jl ss:=by
 refine Ss.rec (motive_1:=SS) (motive_2:=Jl) ?_ ?_ ?_ ?_ ?_ ?_ ?_ ?_ ?_ ?_ ?_ ?_ ?_ ?_ ?_ ?_ ?_ ?_ ?_ ?_ ?_
 ·exact fun _=>Wn
 ·exact fun _ _=>Pd
 ·exact fun _ _=>Mc
 ·exact fun _ _ _=>Ma
 ·exact fun _ _ _=>Pb
 ·exact fun _ _ _=>aab
 ·exact fun _ _ _ _=>Mb
 ·exact fun _ _ _ _=>Pc
 ·exact fun _ _ _ S T=>acG S T
 ·exact fun _ _ S=>Uj S
 ·exact fun _ _ _ S=>Z' S
 ·exact fun _ _ _ _ S=>Wm S
 ·exact fun _=>Z_
 ·exact Wk
 ·exact fun _ _=>Uk
 ·exact fun _ _ _ _ S=>Z9 S
 ·exact aaa
 ·exact Wl
 ·exact fun _ {k rz L σ Q X y} F z hm h=>absurd (show ao=ag from hm) cj
 ·exact Wj
 ·intro st r U T
  cases e:st.VD with
  |false=>exact Ui e U T
  |true=>
   cases st with
   |freeze=>exact L_ T
   |_=>exact absurd e cj
end
inductive wo (az:bB) (f:Fn) (dv:av):Prop
 |no (h:f.dflt=[]) (e:dv=.none)
 |one (d:ax) (o:Obj) (n:Nat) (i:Int) (t:Tok) (e:dv=.ref d) (ho:az.get? d=aa o) (hd:o.data=.seq #[.int i t] n) (h:f.dflt=[.int i])
structure WH (c:Cx) (f:Fn) (fd:f6) (body:ah aZ):Prop where
 bd:fd.body=.stmts body
 m:Oq fd.scope f.body body=ag
 kind:fd.scope.kind=.function
 co:fd.scope.isCoroutine=ao
 gen:fd.scope.isGenerator=ao
 gl:fd.globals=mainGlobals
 bl:fd.builtins=builtinsNs
 clo:fd.closure=[]
 po:fd.params.posonlyargs=[]
 ar:fd.params.args.map (·.arg)=f.ps.map dQ
 va:fd.params.vararg=au
 ko:fd.params.kwonlyargs=[]
 kw:fd.params.kwarg=au
 nodup:f.ps.Nodup
 loc:∀ x∈f.ps,tK fd.scope x=ag
 QP:∀ p∈fd.scope.names,p.2≠.free
 dfl:wo c.az f fd.defaults
 code:c.az.CodeRec fd.code fd.qualname
structure NI (c:Cx):Prop where
 fn:∀ f,∃ o fd body,c.az.get? (c.T.fA f)=aa o/\o.data=.func fd/\WH c f fd body
 lim:c.az.NoLimit
section
variable {α:Type}{n:Str}{l:ah (Str×α)}{names:ah Str}{us:ah α}
theorem wO {m:Str}{v:α} (h:n≠m):((m,v)::l).lookup n=l.lookup n:=by rw[LW,beq_false_of_ne h]
theorem lookup_mem:∀ {l:ah (Str×α)},n∈l.map (·.1)->∃ v,l.lookup n=aa v
 |(m,v)::l,h=>if e:n=m then⟨v,e▸Sq⟩ else(wO (l:=l) e).symm▸lookup_mem ((dS.mp h).resolve_left e)
theorem zD:∀ {names:ah Str}{us:ah α},(names.zip us).map (·.1)=names.take us.length
 |[],_=>xg.symm
 |_::_,[]=>rfl
 |n::names,_::us=>aW (n:: ·) zD
theorem M0 {m:Str}{v:α}:∀ {ns:ah Str},m∉ns->ns.filterMap (fun n=>(((m,v)::l).lookup n).map fun v=>(n,v))=ns.filterMap (fun n=>(l.lookup n).map fun v=>(n,v))
 |[],_=>rfl
 |n::ns,h=>by rw[GA,GA,wO (l:=l) (v:=v) (fun e:n=m=>h (e▸.head _)),M0 fun q=>h (.tail _ q)]
theorem Pt:∀ {names:ah Str}{us:ah α},names.Nodup->names.length=us.length->names.filterMap (fun n=>((names.zip us).lookup n).map fun v=>(n,v))=names.zip us
 |[],us,_,_=>rfl
 |n::ns,[],_,h=>by contradiction
 |n::ns,u::us,hn,h=>by
  rw[TU,GA,Sq,M0 (qy.mp hn).1,Pt (qy.mp hn).2 (xd h)];rfl
noncomputable def fill:ah (Str×α)->ah (Str×α)->ah (Str×α)
 |[],r=>r
 |x::l,r=>fill l (if (r.lookup x.1).isNone=ag then r++[(x.1,x.2)] else r)
theorem M1:∀ {l r:ah (Str×α)},(∀ x∈l,∃ v,r.lookup x.1=aa v)->fill l r=r
 |[],_,_=>rfl
 |x::l,r,h=>by
  obtain⟨v,e⟩:=h x (.head _)
  rw[fill,bb (by rw[e];exact cj)]
  exact M1 fun y m=>h y (.tail _ m)
theorem MO (d:α):∀ {names:ah Str}{us:ah α},names.Nodup->us.length+1=names.length->∃ z,names.drop us.length=[z]/\z∈names/\(names.zip us).lookup z=au/\names.zip us++[(z,d)]=names.zip (us++[d])
 |[z],[],_,_=>⟨z,rfl,.head _,rfl,rfl⟩
 |n::ns,u::us,hn,h=>by
  obtain⟨z,e1,e2,e3,e4⟩:=MO d (qy.mp hn).2 (xd h)
  exact⟨z,e1,.tail _ e2,(wO fun e:z=n=>(qy.mp hn).1 (e▸e2)).trans e3,aW ((n,u):: ·) e4⟩
 |_::_::_,[],_,h=>nomatch h
end
section
variable {M:eD}{A:bF}{s:aF}{E:av->aF->Prop}
theorem E_ (f:Str×av->ah (Str×av)->Sem (ForInStep (ah (Str×av)))) (hf:∀ x r,f x r=if (r.lookup x.1).isNone=ag then pure (.yield (r++[(x.1,x.2)])) else pure (.yield r)){Q:ah (Str×av)->aF->Prop}:∀ {l r t:ah (Str×av)},fill l r=t->Q t s->aO M A (forIn l r f) Q E s
 |[],r,t,e,q=>by rw[Tf];exact bW (Eq.mp (aW (Q · s) e.symm) q)
 |x::l,r,t,e,q=>by
  rw[Gj,hf]
  exact if h:(r.lookup x.1).isNone=ag then(a8 h).symm▸bf (bW (E_ f hf ((aW (fill l) (a8 h)).symm.trans e) q)) else(bb h).symm▸bf (bW (E_ f hf ((aW (fill l) (bb h)).symm.trans e) q))
theorem Rw {p:Str->aj}{l:ah Str} (h:∀ x∈l,p x=ao):¬ (!(l.filter p).isEmpty)=ag:=by
 rw[I8.mpr fun x m=>uT (h x m)]
 exact nofun
theorem DK {fd:f6}{names:ah Str}{us us' ds:ah av} (po:fd.params.posonlyargs=[]) (ar:fd.params.args.map (·.arg)=names) (va:fd.params.vararg=au) (ko:fd.params.kwonlyargs=[]) (kw:fd.params.kwarg=au)
  {Q:ah (Str×av)->aF->Prop} (hd:∀ {P:aC (bS av)->aF->Prop},(∀ o,(o.getD #[]).toList=ds->P o s)->aO M A (seqItems? fd.defaults) P E s) (hn:names.Nodup) (h1:us.length<=names.length)
  (h2:names.length-(ds.drop (ds.length-names.length)).length<=us.length) (h3:fill ((names.drop (names.length-(ds.drop (ds.length-names.length)).length)).zip (ds.drop (ds.length-names.length))) (names.zip us)=names.zip us') (h4:names.length=us'.length) (q:Q (names.zip us') s):
  aO M A (bindArgs fd ⟨us,[]⟩) Q E s:=by
 obtain⟨nm,qn,⟨p1,p2,p3,p4,p5,p6,p7⟩,bd,sc,gl,cl,df,kd,dc,pm,an,cd,ct,bl⟩:=fd
 obtain rfl:p1=[]:=po
 obtain rfl:p3=au:=va
 obtain rfl:p4=[]:=ko
 obtain rfl:p6=au:=kw
 obtain rfl:p2.map (·.arg)=names:=ar
 unfold bindArgs
 refine bf (bW ?_)
 refine bf (hd fun o e=>?_)
 rw[e]
 refine fW (fun h=>FZ.mpr h1 (ij (aU h))) (fW (Rw fun n m=>?_) (bf (E_ _ (fun _ _=>rfl) h3 ?_)))
 ·obtain⟨v,e⟩:=lookup_mem (l:=(p2.map (·.arg)).zip us) (n:=n) (zD (names:=p2.map (·.arg)) (us:=us)▸(List.take_subset_take_left _ h2 m))
  exact aW Option.isNone e
 ·refine bf (bW (fW cj (bW ?_)))
  exact Eq.mp (aW (fun l=>Q l s) (((aW (List.filterMap _) (fT _)).trans (Pt hn h4)).symm)) q
theorem R4 {c:Cx}{f:Fn}{fd:f6}{body:ah aZ} (O:WH c f fd body) (st:c.az.StaysIn s.heap){g:Gh}{us:ah av}{vs ws:ah V} (e:dG (er g) us vs) (hf:pJ f vs=aa ws){Q:ah (Str×av)->aF->Prop}
  (q:∀ us',dG (er g) us' ws->Q ((f.ps.map dQ).zip us') s):aO M A (bindArgs fd ⟨us,[]⟩) Q E s:=by
 have hn:(f.ps.map dQ).Nodup:=Gq.mpr (O.nodup.imp fun Dq he=>Dq (qi he))
 have hl:(f.ps.map dQ).length=f.ps.length:=cF ..
 have all:∀ {ds:ah av},vs.length=f.ps.length->vs=ws->(∀ {P:aC (bS av)->aF->Prop},(∀ o,(o.getD #[]).toList=ds->P o s)->aO M A (seqItems? fd.defaults) P E s)->aO M A (bindArgs fd ⟨us,[]⟩) Q E s:=fun{ds} h e' hd=>by
  subst e'
  have l1:us.length=(f.ps.map dQ).length:=e.length.trans (h.trans hl.symm)
  exact DK (us':=us) O.po O.ar O.va O.ko O.kw hd hn (gY l1) (aK (jc ..) (gY l1.symm)) (M1 fun x m=>lookup_mem (zD (names:=f.ps.map dQ) (us:=us)▸(l1▸sE (l:=f.ps.map dQ)).symm▸I5 (List.of_mem_zip m).1)) l1.symm (q us e)
 unfold pJ at hf
 cases O.dfl with
 |no h1 h2=>
  refine c7 hf (fun VJ hw=>all (ds:=[]) VJ (eH hw) fun h=>?_) fun _ hw=>?_
  ·rw[h2];exact bW (h au rfl)
  ·rw[h1] at hw;contradiction
 |one d o n i t e1 ho hd h1=>
  have hs:∀ {P:aC (bS av)->aF->Prop},(∀ o,(o.getD #[]).toList=[.int i t]->P o s)->aO M A (seqItems? fd.defaults) P E s:=fun h=>by rw[e1];exact wpAny_seqItems (st _ _ ho) hd (h _ rfl)
  refine c7 hf (fun VJ hw=>all VJ (eH hw) hs) fun _ hw=>?_
  rw[h1] at hw
  refine c7 hw (fun VJ hw=>?_) fun _ hw=>by contradiction
  cases hw
  have l1:us.length+1=(f.ps.map dQ).length:=(aW (· +1) e.length).trans (VJ.trans hl.symm)
  obtain⟨z,z1,z2,z3,z4⟩:=MO (.int i t) hn l1
  have k1:[Value.int i t].drop ([Value.int i t].length-(f.ps.map dQ).length)=[.int i t]:=aW (List.drop · [Value.int i t]) (Nz (l1▸eG (bX us.length):1<=(f.ps.map dQ).length))
  have k2:(f.ps.map dQ).length-1=us.length:=l1▸rfl
  refine DK (us':=us++[.int i t]) O.po O.ar O.va O.ko O.kw hs hn (l1▸F5 _) ?_ ?_ (l1.symm.trans (bN (as:=us) (bs:=[Value.int i t])).symm) (q _ (e.append (.cons ⟨t,rfl⟩ .nil)))
  ·rw[k1];exact gY k2
  ·rw[k1]
   show fill (((f.ps.map dQ).drop ((f.ps.map dQ).length-1)).zip _) _=_
   rw[k2,z1]
   exact(a8 (aW Option.isNone z3)).trans z4
end
namespace I
section
variable {prog:dx}{w:dy}{A:bF}{R:fp->aF->Prop}{s:aF}
theorem Cf {a:ax}{args:Args}{o:Obj}{fd:f6}{body:ah aZ} (MR:A.depth < recursionLimit) (ho:s.heap.get? a=aa o)
  (Zg:o.data=.func fd) (Xh:fd.scope.isCoroutine=ao) (ad6:fd.scope.isGenerator=ao) (abV:fd.body=.stmts body) (Zj:s.heap.CodeRec fd.code fd.qualname)
  (h:aO (model prog w) A.in1 (bindArgs fd args) (fun binds s₁=>
   aO (model prog w) A.in1 (newFunctionEnv fd.scope fd.globals fd.closure binds (fd.qualname++".<locals>.") (aa a) fd.code au fd.builtins)
    (fun env s₂=>s₂.heap.NoLimit/\iJ (model prog w) A (.func body env) R s₂) (fun e s'=>R (.error e) s') s₁) (fun e s'=>R (.error e) s') s):
  iJ (model prog w) A (.call (.ref a) args) R s:=by
 refine tree (fun _ _=>rfl) (any ?_)
 show aO _ A.in1 (callAny (.ref a) args) _ _ s
 unfold callAny
 refine bf (xc ho ?_)
 obtain⟨c,oc,vs,tq,hc,hoc,hdc,hq⟩:=Zj
 rw[Zg]
 show aO _ _ (callFunction a fd args) _ _ _
 unfold callFunction
 rw[Xh,ad6,abV,hc]
 rw[hc] at h
 refine bf (m:=field (.ref c) 1) (Lw hoc hdc hq (bf (bW ?_)))
 exact bf (pj h (fun binds s₁ h₁=>bf (pj h₁ (fun env s₂ h₂=>bf (wpAny_enterFrame h₂.1 MR
  (bW (And.intro rfl h₂.2)))) fun _ _ h'=>h')) fun _ _ h'=>h')
theorem func {body:ah aZ}{env:Env}
  (h:ia (model prog w) (A.deeper env) (execs body env) (fun f s'=>R (.ok (.ret (match f with |.ret v=>v |_=>.none))) s')
   (fun e s'=>aO (model prog w) (A.deeper env) (leaving env e) (fun _ JJ=>R (.error e) JJ) (fun e' JJ=>R (.error e') JJ) s') s):
  iJ (model prog w) A (.func body env) R s:=by
 refine tree (fun _ _=>rfl) ?_
 show ia _ (A.deeper env) (do PySem.point;match <- (execs body env).onRaise (leaving env) with |.ret v=>ret v |_=>ret .none) _ _ s
 refine bind (point (bind (onRaise (bT h (fun f s' h'=>?_) fun _ _ h'=>any h'))))
 cases f<;>exact pure h'
end
end I
theorem uD {x:Str}:∀ {names:ah (Str×d7)}{k:Nat}{acc:ah (Str×ax)},(∃ a,acc.lookup x=aa a)->∃ a,(cellsFrom k names acc).lookup x=aa a
 |[],_,_,h=>h
 |(n,kd)::r,k,acc,h=>by
  unfold cellsFrom
  refine if e:(kd==.cell)=ag then(a8 e).symm▸uD (names:=r) ?_ else(bb e).symm▸uD h
  rw[LW]
  split
  ·exact⟨_,rfl⟩
  ·exact h
theorem uC {x:Str}:∀ {names:ah (Str×d7)}{k:Nat}{acc:ah (Str×ax)},(x,NameKind.cell)∈names->∃ a,(cellsFrom k names acc).lookup x=aa a
 |(n,kd)::r,k,acc,h=>by
  unfold cellsFrom
  refine(dS.mp h).elim (fun e=>?_) fun h=>if e:(kd==.cell)=ag then(a8 e).symm▸uC (names:=r) h else(bb e).symm▸uC h
  cases e
  exact(a8 rfl).symm▸uD ⟨k,Sq⟩
structure qU (c:Cx) (K:cW) (A:bF) (fr:ah Env) (n:Nat) (C:CC) (σ:Sx) (env:Env):Prop where
 D:Gd c K
 hC:sL c n C
 hb:Yk (A.deeper env) n
 ca:Ca (A.deeper env) (env::fr)
 R:Rep c σ
 fm:Fm c fr σ
 kind:env.scope.kind=.function
 gl:env.globals=mainGlobals
 bl:env.builtins=builtinsNs
 own:∀ a∈ownOf env,σ.get a=au
 apart:∀ n n' a,(n,a)∈env.cells->(n',a)∈env.cells->n=n'
 lc:∀ n a,(n,a)∈env.cells->a≠env.locals
 co:∀ n,env.kindOf n=aa .cell∨env.kindOf n=aa .free->∃ a,env.cells.lookup n=aa a
 hf:env.frame=aa env.locals
section
variable {c:Cx}{K:cW}{A:bF}{fr:ah Env}{n:Nat}{C:CC}{σ:Sx}{env:Env}
noncomputable def qU.kx (E:qU c K A fr n C σ env):Kx:=
 {c:=c,K:=K,D:=E.D,A:=A.deeper env,env:=env,fr:=env::fr,C:=C,n:=n,own:=ownOf env,st:=σ,hC:=E.hC,hb:=E.hb,ca:=E.ca,sub:=fun _ m=>m,kind:=E.kind,gl:=E.gl,bl:=E.bl
  ob:=fun b m=>E.R.az (E.own b m),apart:=E.apart,lc:=E.lc,co:=E.co,ef:=fun f l e=>by cases e;rfl}
theorem qU.full (E:qU c K A fr n C σ env):E.kx.Full:=⟨⟨fr,rfl⟩,rfl⟩
theorem qU.start (E:qU c K A fr n C σ env){h':bB}{tk:Nat} (grow:∀ b o,σ.get b=aa o->h'.get? b=aa o){m:Str->aC av} (hn:h'.Ns env.locals m) (cl:∀ n a,(n,a)∈env.cells->∃ v,h'.IsCell a v):At E.kx bZ.none (σ.up h' tk) where
 rel:=.grow E.R grow
 fm:=⟨.cons (fun e=>nomatch e.symm.trans E.kind) E.hf hn (E.R.az (E.own _ (.head _))) (ny E.fm.ff fun b _ o e=>⟨o.slots,grow b o e⟩),fun b hb=>have hb:b∈env.locals::jM fr:=vC (l:=fr) E.hf▸hb;have w:σ.Off b:=(dS.mp hb).elim (fun e=>E.R.fresh (E.own b (e▸.head _))) (E.fm.ffn b);⟨w.z,w.h,w.d⟩⟩
 loc:=fun _ _ e=>by contradiction
 own:=fun b m=>have w:=E.R.fresh (E.own b m);⟨w.z,w.h,w.d⟩
 ns:=⟨m,hn⟩
 cl:=cl
theorem Dc {k:Kx} (F:k.Full){A':bF}{E':av->aF->Prop} (f:Str×av->PUnit->Sem (ForInStep PUnit)) (hf:∀ n v u,f (n,v) u=(do storeName k.env n v;pure (.yield ⟨⟩))):
  ∀ {xs:ah Nm}{us:ah av}{ws:ah V}{L:bZ}{σ:Sx},At k L σ->dG (er σ.g) us ws->xs.length=ws.length->(∀ x∈xs,tK k.sc x=ag)->aO k.M A' (forIn ((xs.map dQ).zip us) PUnit.unit f) (fun u s'=>fM (GH k σ (fun L'=>L'=L.sets xs ws) ()) s') E' σ.s
 |[],us,ws,L,σ,z,_,hl,_=>by
  obtain rfl:=qO.mp hl.symm
  exact bW ⟨σ.g,σ.H,.mk L σ.s.heap σ.s.toks rfl z rfl⟩
 |x::xs,us,[],L,σ,z,e,hl,_=>by contradiction
 |x::xs,us,y::ws,L,σ,z,e,hl,hx=>by
  obtain⟨u,us,rfl,e1,e2⟩:=e.Xw
  rw[gv,TU,Gj,hf]
  refine bf (bf (pj (zO (P:=fun L'=>L'=L.set x y) z (nh F (hx x (.head _))) e1 rfl) (fun _ s' o=>bW ?_) fun _ _ w=>w))
  obtain⟨g,H,L',h',tk,e,z',rfl⟩:=o
  cases e
  exact pj (Dc F f hf (L:=L.set x y) (σ:=σ.up h' tk) z' e2 (xd hl) fun z m=>hx z (.tail _ m)) (fun _ s' ⟨g,H,o⟩=>⟨g,H,GH.from o⟩) fun _ _ w=>w
theorem Zs {f:Fn}{fd:f6}{body:ah aZ} (O:WH c f fd body) (D:Gd c K) (hC:sL c n C) (hb:∀ env,Yk (A.deeper env) n) (hd:A.handled=au) (gd:A.guards=aa []) (hfr:A.frames=aa fr) (R:Rep c σ) (F:Fm c fr σ)
  {us:ah av}{ws:ah V} (e:dG (er σ.g) us ws) (hl:f.ps.length=ws.length){qual:Str}{fa:aC ax}{cd:av}{A':bF}{E':av->aF->Prop}{Q:Env->aF->Prop}
  (q:∀ env (E:qU c K A fr n C σ env) h' tk,env.scope=fd.scope->At E.kx (bZ.none.sets f.ps ws) (σ.up h' tk)->Q env (σ.up h' tk).s):
  aO (model c.prog c.w) A' (newFunctionEnv fd.scope fd.globals fd.closure ((f.ps.map dQ).zip us) qual fa cd au fd.builtins) Q E' σ.s:=by
 have sz:(σ.s.heap.push {cls:=.type "frame",data:=.dict #[]}).objs.size=σ.s.heap.objs.size+1:=LQ ..
 have core:∀ cs h1,CellsOk h1 (σ.s.heap.objs.size+1) cs->(∃ m,h1.Ns σ.s.heap.objs.size m)->(∀ b o,σ.get b=aa o->h1.get? b=aa o)->(∀ {x},(x,NameKind.cell)∈fd.scope.names->∃ a,cs.lookup x=aa a)->
   aO (model c.prog c.w) A' (forIn ((f.ps.map dQ).zip us) PUnit.unit (fun x _=>storeName (newEnv fd.scope σ.s.heap.objs.size fd.globals cs qual fa cd au fd.builtins) x.1 x.2>>=fun _=>pure (.yield ⟨⟩))>>=fun _=>pure (newEnv fd.scope σ.s.heap.objs.size fd.globals cs qual fa cd au fd.builtins)) Q E' {σ.s with heap:=h1}:=fun cs h1 ok hNs grow look=>by
  have fresh:∀ k,σ.s.heap.objs.size<=k->σ.get k=au:=fun k hk=>lj fun o e=>FZ.mpr hk (qw e)
  have E:qU c K A fr n C σ (newEnv fd.scope σ.s.heap.objs.size fd.globals cs qual fa cd au fd.builtins):=
   {D:=D,hC:=hC,hb:=hb _,R:=R,fm:=F,kind:=O.kind,gl:=O.gl,bl:=O.bl,hf:=rfl
    ca:=⟨hd,gd,aW (Option.map _) hfr,_,_,rfl,_,rfl⟩
    own:=fun a m=>(dS.mp m).elim (fun e=>e▸fresh _ (bD _)) fun m=>have⟨⟨n,b⟩,hm,e⟩:=l9.mp m;e▸fresh _ (LY (ok.empty n b hm).2)
    apart:=fun n n' a h1 h2=>name_of_addr ok.apart h1 h2
    lc:=fun n a hm e=>Nat.not_succ_le_self _ ((show a=σ.s.heap.objs.size from e)▸(ok.empty n a hm).2)
    co:=fun n h=>h.elim (fun h=>look (mem_of_lookup h)) fun h=>absurd rfl (O.QP _ (mem_of_lookup h))}
  refine bf (pj (Dc (A':=A') E.full _ (fun _ _ _=>rfl) (E.start (h':=h1) (tk:=σ.s.toks) grow hNs.choose_spec fun n a hm=>⟨_,(ok.empty n a hm).1⟩) e hl fun x m=>O.loc x m) (fun _ s' o=>bW ?_) fun _ _ w=>w)
  obtain⟨g,H,L',h2,tk,e,z,rfl⟩:=o
  cases e
  exact q _ E h2 tk rfl z
 rw[O.clo]
 unfold newFunctionEnv
 exact bf (Lz (bf (wpAny_layCells _ (fun _ _ _=>rfl) _ _ _ _ (core _ _ (sz▸cellsFrom_ok fd.scope.names (σ.s.heap.push {cls:=.type "frame",data:=.dict #[]}) (σ.s.heap.objs.size+1) [] ⟨fun _ _ hm=>(by contradiction),List.Pairwise.nil⟩ (gY sz.symm))
  ⟨_,(Heap.Ns.new σ.s.heap (.type "frame")).keeps (Tq fd.scope.names _)⟩ (fun b o e=>Tq _ _ b o (jN _ e)) uC))))
end
section
variable {c:Cx}{K:cW}{A:bF}{fr:ah Env}{n:Nat}{C:CC}{σ τ τ1:Sx}{env:Env}{X:PX}{L:bZ}{s':aF}
theorem qU.abf (E:qU c K A fr n C σ env){b:ax}{o:Obj} (e:σ.get b=aa o):b∉ownOf env:=fun m=>bP (E.own b m) e
theorem qU.frs (E:qU c K A fr n C σ env){b:ax}{o:Obj} (e:σ.get b=aa o) (m:b∉jM fr):b∉jM (env::fr):=fun h=>have h:b∈env.locals::jM fr:=vC (l:=fr) E.hf▸h
 (dS.mp h).elim (fun q=>E.abf e (q▸.head _)) m
theorem qU.pop (E:qU c K A fr n C σ env) (z:At E.kx L τ):Rel c (jM fr) [] σ τ:={z.rel with
 keep:=fun b o e f _=>have w:sH (jM (env::fr)) b o τ.s.heap:=z.rel.keep b o e f (E.abf e);⟨fun m=>w.k (E.frs e m),w.slots⟩}
theorem qU.Ki (E:qU c K A fr n C σ env) (z:At E.kx L τ1) (t:Th c (jM (env::fr)) τ1 τ s'){D:Cn}{ea:ax}{a0:av}{h':bB} (f1:Heap.FlyingW τ.s.heap fr ea (.ref (c.T.cA D)) a0 h') (u:s'.heap.UpToSlots h') (hx:X D τ.H):ExC c fr σ X (.ref ea) {s' with heap:=h'}:=by
 have t2:Th c (jM (env::fr)) τ1 τ {s' with heap:=h'}:=t.slots (k:=E.kx) z u
 have r:=E.pop z
 refine .mk ea a0 D τ rfl ⟨r.le.trans t.le,t.rep,fun b o e f m=>t2.k b o ((r.keep b o e f nofun).k m) (r.off b o e f) (E.frs e m),fun b o e f m=>?_,fun b o e f=>?_,t.gens.trans r.gens,t.drawn.trans r.drawn,t.os.trans r.os⟩ f1 hx
 ·obtain⟨sl,e1⟩:=(r.keep b o e f nofun).slots
  exact t2.sl b {o with slots:=sl} e1 (r.off b o e f) (vC (l:=fr) E.hf▸.tail _ m)
 ·obtain⟨sl,e1⟩:=(r.keep b o e f nofun).slots
  exact t.off b {o with slots:=sl} e1 (r.off b o e f)
theorem qU.Q3 (E:qU c K A fr n C σ env){M:eD}{e:av}{E':av->aF->Prop} (h:Jo E.kx ag (wJ X) e s'):aO M (A.deeper env) (leaving env e) (fun _ JJ=>ExC c fr σ X e JJ) E' s':=by
 cases h with
 |Zo L τ1 z f=>
  obtain⟨ea,a0,D,τ,he,t,f,x⟩:=f
  subst he
  exact wpAny_leaves_onW E.ca.frames E.hf f fun h' yH u=>E.Ki z t yH u x
 |held h=>
  obtain⟨L,τ1,τ,D,ea,a0,La,he,hf,z,t,f,x⟩:=h
  subst he
  unfold leaving
  refine bf (XR hf f.2.2.2 (wpAny_landsW f fun h' yH u=>?_))
  obtain⟨k1,k2,⟨_,_,k3⟩,k4⟩:=yH
  exact E.Ki z t ⟨k1,k2,k3,k4⟩ u x
 |made L τ1 D ea vs hr he z m gens drawn os x=>
  subst he
  refine wpAny_leaves_madeW (base:=hideAll τ1.s.heap (jM (env::fr))) E.ca.frames E.hf (fun b o q=>of_hideAll _ q) (funFrames_hide z.fm.ff fun aei he b hb=>List.mem_filterMap.mpr ⟨aei,he,hb⟩) m fun h' t yH _ _ u=>?_
  refine E.Ki (τ:=⟨{τ1.s with heap:=hideAll τ1.s.heap (jM (env::fr))},τ1.g,τ1.H⟩) z ⟨.refl _,z.rep.keeps (fun b o e f=>Lv _ e fun hm=>f (z.fm.ffn b hm)) fun b o e=>Lv _ (z.rep.stays b o e) fun hm=>bP (z.fm.ff.mem hm).1 e,fun b o e _ nm=>Lv _ e nm,fun b o e _ _=>⟨o.slots,m.keeps b o e⟩,fun b o e f=>⟨f.z,f.h,f.d⟩,gens,drawn,os⟩ yH u x
theorem Rp {f:Fn}{vs ws:ah V} (h:pJ f vs=aa ws):f.ps.length=ws.length:=by
 unfold pJ at h
 refine c7 h (fun e h=>eH h▸e.symm) fun _ h=>?_
 cases hd:f.dflt with
 |nil=>rw[hd] at h;contradiction
 |cons d ds=>
  rw[hd] at h
  exact c7 h (fun e h=>eH h▸e.symm.trans (bN (as:=vs) (bs:=[d])).symm) fun _ h=>by contradiction
theorem Ir (D:Gd c K) (F:NI c) (IH:sL c n (aM n)){f:Fn}{vs:ah V}{Q:PV}{us:ah av} (h:aM (n+1) f vs σ.H Q X) (hb:WK A (n+1)) (hd:A.handled=au) (gd:A.guards=aa []) (hfr:A.frames=aa fr) (R:Rep c σ) (fm:Fm c fr σ) (e:dG (er σ.g) us vs):
  iJ (model c.prog c.w) A (.call (.ref (c.T.fA f)) ⟨us,[]⟩) (Back (OkC c fr σ Q) (ExC c fr σ X)) σ.s:=by
 obtain⟨ws,hw,h⟩:=h
 obtain⟨o,fd,body,ho,hdt,O⟩:=F.fn f
 have b1:=hb.depth
 have b2:=hb.units
 refine I.Cf (by show A.depth < 1000;exact cw [A.depth,n] bJ 0x3e823001 0x387231210406150040 b1 aQ) (R.stays _ _ ho) hdt O.co O.gen O.bd (O.code.keeps R.stays) (R4 O R.stays e hw fun us' e'=>Zs O D IH (fun env=>⟨by show A.depth+1+_<=_;exact cw [A.depth,n] bJ 0x384231006151200440 0x387231210406150040 b1 aQ,by show A.units+3+_+_<=_;exact cw [A.units,n] bJ 0x26ac233c13103c1532004440 0x26ac232813121043c1500440 b2 aQ⟩) hd gd hfr R fm e' (Rp hw) fun env E h' tk hsc z=>⟨F.lim.keeps z.rep.stays,I.func ?_⟩)
 refine I.bT (Jl.all f.body E.full z (by show Oq env.scope f.body body=ag;rw[hsc];exact O.m) h) (fun fl s' hh=>?_) fun ev s' hx=>E.Q3 hx
 obtain⟨g',H',o⟩:=hh
 cases o with
 |next L z q=>exact .mk g' H' .none rfl (E.pop z) q
 |brk L z q=>exact q.elim
 |cont L z q=>exact q.elim
 |ret L v x e z q=>exact .mk g' H' x e (E.pop z) q
theorem Nf (D:Gd c K) (F:NI c):∀ n,sL c n (aM n)
 | 0=>fun f vs σ Q X h=>h.elim
 |n+1=>fun f vs σ Q X h A fr us hb ca R fm e=>Ir D F (Nf D F n) h hb ca.hd ca.gd ca.frames R fm e
end
theorem Y0 {o:aC (aC av)}{i:Int} (h:isI o i=ag):∃ t,o=aa (aa (.int i t)):=
 uq h fun o h=>uq h fun v h=>Hu h fun j t h=>eq_of_beq (a:=j) (b:=i) h▸⟨t,rfl⟩
theorem Ey {α:Type}{o:aC α}{p:α->aj} (h:o.all p=ag){x:α} (e:o=aa x):p x=ag:=by subst e;exact h
noncomputable def good (K:cW):aj:=(Xm K&&HX 30 70 K)&&good3 K
theorem AG {lo hi:Nat}{K:cW} (h:HX lo hi K=ag) (f:Fn) (e:AF K f=ao):f.n < lo∨hi<=f.n:=by
 have h:=Sm (p:=fun f=>(Nat.blt f.n lo || Nat.ble hi f.n) || AF K f) h f
 rw[e,Ge] at h
 exact(nT.mp h).imp aT aT
theorem MV {K:cW} (h:good K=ag) (f:Fn):AF K f=ag:=by
 cases e:AF K f with
 |true=>rfl
 |false=>
  have h1:=AG (bx (aU (aU h))) f e
  have h2:=AG (bx (aU h)) f e
  have h3:=AG (fG (bx h)) f e
  have h4:=aT f.h
  lia
theorem abZ {c:Cx}{K:cW} (X:K.In c.az) (hT:c.T=ed) (h:good K=ag):Gd c K:=by
 have hC:=Bv (p:=Xk K) (aU (aU (aU h)))
 have hF:=MV h
 have h:=bx h
 have hG:=FW (p:=fun n=>(HZ n).all fun i=>isI (nsIn K mainGlobals (dQ n)) i) (bx (aU (aU (aU h))))
 have hB:=l_.mp (bx (aU (aU h)))
 obtain⟨prog,w,az,T⟩:=c
 cases(show T=ed from hT)
 have exc:∀ C:Cn,C.isExc=ag->MW K C=ag:=fun C e=>(nT.mp (bx (aU (hC C)))).elim (fun q=>absurd e (uT (not_of q))) id
 exact
  {inb:=X
   cls:=fun C hf=>by
    have h:=(nT.mp (aU (aU (hC C)))).elim (fun q=>absurd (xp.mp q) hf) id
    exact
     {ga:=eq_of_beq (fG (fG (aU h)))
      sa:=eq_of_beq (bx (fG (fG h)))
      ng:=eq_of_beq (bx (fG (aU (aU (aU h)))))
      pl:=bx (fG (aU (aU h)))
      hd:=bx (fG (aU h))
      fld:=fun f m=>eq_of_beq (l_.mp (bx (fG h)) f m)
      mks:=bx (aU (aU (aU h)))
      ini:=fun f e=>eq_of_beq (Ey (bx (aU (aU h))) e)
      bk:=fun m f e=>eq_of_beq (Ey (FW (p:=fun m=>(oU C m).all fun f=>VC (findIn K (.ref (ed.cA C)) (dQ m)) (.ref (ed.fA f))) (bx (aU h)) m) e)
      clk:=bx h}
   fnk:=fun f=>⟨aU (aU (aU (hF f))),bx (aU (aU (hF f)))⟩
   gk:=fun n i e=>Y0 (Ey (hG n) e)
   gf:=fun f t=>(nT.mp (bx (aU (hF f)))).elim (fun q=>absurd t (uT (not_of q))) eq_of_beq
   gc:=fun C=>eq_of_beq (bx (hC C))
   gb:=fun b=>have q:Xl K b=ag:=hB b (by cases b<;>repeat first |exact .head _ |apply List.Mem.tail);⟨eq_of_beq (aU q),eq_of_beq (bx q)⟩
   gr:=⟨eq_of_beq (bx (aU h)),eq_of_beq (bx h)⟩
   exc:=fun C e=>aU (aU (exc C e))
   exk:=fun C e=>bx (aU (exc C e))
   exm:=fun C D e e'=>(nT.mp (Bv (p:=fun D=>!D.isExc || exmOne K (.ref (ed.cA C)) (.ref (ed.cA D))==aa (C.under D)) (bx (exc C e)) D)).elim (fun q=>absurd e' (uT (not_of q))) eq_of_beq}
section
variable {az:bB}{K:cW}{f:Fn}{v:av}{q:Str}
theorem Sd {x:V}{j:Int} (h:kq x=aa j):x=.int j:=by
 cases x with
 |int=>cases h;rfl
 |_=>contradiction
theorem Zt (X:K.In az) (h:MX K f v=ag):wo az f v:=
 (nT.mp h).elim (fun h=>.no (xp.mp (aU h)) (eq_of_beq (bx h))) fun h=>Aa (P:=fun v=>wo az f v) h fun d h=>uq (P:=fun y=>K.lookup d=y->wo az f (.ref d)) h (fun o h e=>by
  obtain⟨oc,od,dt,sl⟩:=o
  refine QE (P:=fun dt=>K.lookup d=aa ⟨oc,od,dt,sl⟩->wo az f (.ref d)) h (fun ds n h e=>?_) e
  obtain⟨l⟩:=ds
  refine ry (P:=fun l=>K.lookup d=aa ⟨oc,od,.seq ⟨l⟩ n,sl⟩->wo az f (.ref d)) h (fun w h e=>?_) e
  refine Hu (P:=fun w=>K.lookup d=aa ⟨oc,od,.seq ⟨[w]⟩ n,sl⟩->wo az f (.ref d)) h (fun i t h e=>?_) e
  refine ry (P:=fun l=>f.dflt=l->wo az f (.ref d)) h (fun x h q=>?_) rfl
  refine uq (P:=fun y=>kq x=y->wo az f (.ref d)) h (fun j h r=>?_) rfl
  exact .one d _ n i t rfl (X _ _ e) rfl (q.trans (by rw[Sd r,eq_of_beq h]))) rfl
theorem VV (X:K.In az) (h:HY K v q=ag):az.CodeRec v q:=
 Aa (P:=fun v=>az.CodeRec v q) h fun c h=>uq (P:=fun y=>K.lookup c=y->az.CodeRec (.ref c) q) h (fun o h e=>by
  obtain⟨oc,od,dt,sl⟩:=o
  refine Vl (P:=fun dt=>K.lookup c=aa ⟨oc,od,dt,sl⟩->az.CodeRec (.ref c) q) h (fun vs h e=>?_) e
  refine uq (P:=fun y=>vs[1]? =y->az.CodeRec (.ref c) q) h (fun w h r=>?_) rfl
  exact Qz (P:=fun w=>vs[1]? =aa w->az.CodeRec (.ref c) q) h (fun q' t h r=>by cases eq_of_beq h;exact⟨_,_,vs,t,rfl,X _ _ e,rfl,r⟩) r) rfl
theorem Ht {α:Type}{o:aC α} (h:o.isNone=ag):o=au:=Option.isNone_iff_eq_none.mp h
theorem ab2 {c:Cx} (X:K.In c.az){fd:f6} (h:Kv K f fd=ag):∃ body,WH c f fd body:=by
 unfold Kv at h
 split at h
 ·rename_i body hb
  exact⟨body,{bd:=hb,m:=aU (fG (fG (fG (aU (aU (aU h)))))),kind:=eq_of_beq (bx (fG (fG (fG (aU (aU (aU h))))))),co:=not_of (bx (fG (fG (fG (aU (aU h)))))),gen:=not_of (bx (fG (fG (fG (aU h))))),gl:=eq_of_beq (bx (fG (fG (fG h)))),bl:=eq_of_beq (bx (fG (fG (aU (aU (aU h)))))),clo:=xp.mp (bx (fG (fG (aU (aU h))))),po:=xp.mp (bx (fG (fG (aU h)))),ar:=eq_of_beq (bx (fG (fG h))),va:=Ht (bx (fG (aU (aU (aU h))))),ko:=xp.mp (bx (fG (aU (aU h)))),kw:=Ht (bx (fG (aU h))),nodup:=ij (bx (fG h)),loc:=l_.mp (bx (aU (aU (aU h)))),QP:=fun p m=>l7.mp (l_.mp (bx (aU (aU h))) p m),dfl:=Zt X (bx (aU h)),code:=VV X (bx h)}⟩
 ·contradiction
theorem Zn {c:Cx} (X:K.In c.az) (hT:c.T=ed) (h:good K=ag) (lim:c.az.NoLimit):NI c:=by
 have hF:=MV h
 refine⟨fun f=>?_,lim⟩
 refine uq (P:=fun y=>K.lookup (ed.fA f)=y->_) (bx (hF f)) (fun o h e=>?_) rfl
 obtain⟨oc,od,dt,sl⟩:=o
 refine Vk (P:=fun dt=>K.lookup (ed.fA f)=aa ⟨oc,od,dt,sl⟩->_) h (fun fd h e=>?_) e
 obtain⟨body,O⟩:=ab2 X h
 exact⟨_,fd,body,hT▸X _ _ e,rfl,O⟩
end
theorem Hj:∀ {os:ah Obj}{i:Nat}{as:ah Nat}{a:Nat}{o:Obj},((a:ax),o)∈pick i as os->∃ j,a=i+j/\os[j]? =aa o/\o.isFreed=ao
 |[],i,as,a,o,h=>absurd h uP
 |x::os,i,[],a,o,h=>absurd h uP
 |x::os,i,b::as,a,o,h=>by
  have step:∀ {as},((a:ax),o)∈pick (i+1) as os->∃ j,a=i+j/\(x::os)[j]? =aa o/\o.isFreed=ao:=fun h=>have⟨j,e,r⟩:=Hj h;⟨j+1,e.trans (iE i 1 j),r⟩
  have h:((a:ax),o)∈cond (Nat.beq i b) (cond x.isFreed (pick (i+1) as os) ((b,x)::pick (i+1) as os)) (pick (i+1) (b::as) os):=h
  cases e:Nat.beq i b with
  |false=>rw[e] at h;exact step h
  |true=>
   rw[e] at h
   cases hf:x.isFreed with
   |true=>rw[hf] at h;exact step h
   |false=>
    rw[hf] at h
    refine(dS.mp h).elim (fun q=>?_) step
    cases q
    exact⟨0,(NA e).symm,rfl,hf⟩
theorem QW {K:cW}{a:ax}{o:Obj} (h:K.lookup a=aa o):(a,o)∈K:=by
 induction K with
 |nil=>contradiction
 |cons p K ih=>
  rw[LW] at h
  split at h
  ·rename_i q;cases h;rw[eq_of_beq q];exact .head _
  ·exact .tail _ (ih h)
theorem U4 (as:ah Nat) (h:bB):Frag.In (pick 0 as h.objs.toList) h:=fun a o e=>by
 obtain⟨j,e,h2,h3⟩:=Hj (QW e)
 rw[jF] at e
 subst e
 exact Heap.get?_some_iff.mpr ⟨(BA ..).symm.trans h2,h3⟩
theorem Kr {s:aF} (e:good (pick 0 QT s.heap.objs.toList)=ag):∃ K:cW,K.In s.heap/\good K=ag:=⟨_,U4 _ _,e⟩
open _root_.PySem.Sem (wp)
theorem NM {M:eD}{t:Sem Fin}{R:fp->aF->Prop}{s:aF} (h:ia M callerA t (fun fin s'=>∃ f,fin=.done f/\R (.ok f) s') (fun e s'=>R (.error e) s') s) (p:Pos):
  wp M ⟨.builtin "claim.caller" {},au,au,[],au⟩ t (Sem.finPost M ⟨.builtin "claim.caller" {},au,au,[],au⟩ R) (fun e _ s'=>R (.error e) s') p s:=by
 refine BD M _ t (fun fin p' s' h'=>?_) (fun _ _ _ h'=>h') p s (h _ p caller_in (fun _ _=>by rfl) fun x hx=>by contradiction)
 obtain⟨f,rfl,hf⟩:=h'
 exact hf
theorem PT {prog:dx}{w:dy}{t:Sem Fin}{s:aF}{R:fp->aF->Prop} (adU:s.asleep)
  (h:ia (model prog w) callerA t (fun fin s'=>∃ f,fin=.done f/\(R (.ok f) s'/\leftWithCleanup s'.gens=ao)) (fun e s'=>R (.error e) s'/\leftWithCleanup s'.gens=ao) s):
  ∃ n r s' JJ,runN (denote table) prog w n s ⟨t,.builtin "claim.caller" {},default,[]⟩=.halted (outcomeOf r) s'/\
   schedN (denote table) prog w n (.single s ⟨t,.builtin "claim.caller" {},default,[]⟩)=.halted (outcomeOf r) s'/\s'.forget=JJ.forget/\R r JJ:=by
 obtain⟨n,r,s₁,s₂,hs,hn,hfo,hR⟩:=wp_halts_full (M:=model prog w) (R:=R) adU (NM (R:=fun r s'=>R r s'/\leftWithCleanup s'.gens=ao) h default)
 exact⟨n,r,s₂,s₁,hn,hs,hfo,hR⟩
theorem KI {c:ClaimW}{tree:ah av->Sem Fin}{w:dy}{s:aF}{free:ax->Prop}{gens:Prop}{br:bB->Prop} (hz:s.asleep) (xY:s.gens=#[])
  (abD:∀ args,c.pre args=ag->WData.layableAll args=ag->∀ ord:ah cI->ah cI,(∀ l,(ord l).Perm l)->
   ∃ vs s₁,layAllW c.records (classAt s.heap) w.params ord args s=aa (vs,s₁)/\
    ia (model c.prog w) callerA (tree vs) (fun fin s'=>∃ f,fin=.done f/\(c.Ends s args vs s₁ (.ok f) s'/\s'.os=s.os/\AllBare s'.gens/\br s'.heap))
     (fun e s'=>c.Ends s args vs s₁ (.error e) s'/\s'.os=s.os/\AllBare s'.gens/\br s'.heap) s₁):
  c.CallFrom (fun vs=>⟨tree vs,.builtin "claim.caller" {},default,[]⟩) w free gens br s:=by
 intro args EY Rk ord Ri
 obtain⟨vs,s₁,xX,abS⟩:=abD args EY Rk ord Ri
 have Ji:=layAllW_rest _ _ _ xX
 obtain⟨k,r,s',JJ,Kp,Y5,hfo,Rl,hos,hkp⟩:=PT (prog:=c.prog) (w:=w) (t:=tree vs) (s:=s₁) (R:=fun r s'=>c.Ends s args vs s₁ r s'/\s'.os=s.os/\br s'.heap)
  (Shared.asleep_of_life Ji.2.2.2 hz)
  (I.bT abS (fun fin s' ⟨f,e,h1,h2,h3,h4⟩=>⟨f,e,⟨h1,h2,h4⟩,acr h3⟩) fun e s' ⟨h1,h2,h3,h4⟩=>⟨⟨h1,h2,h4⟩,acr h3⟩)
 obtain⟨eh,_,_,eo,_⟩:=Shared.forget_eq hfo
 have Rl:=Rl.congr eh
 have hkp:br s'.heap:=eh▸hkp
 rw[<- eo] at hos
 have abM:s'.heap.life=s.heap.life:=(runN_life _ _ _ Kp).trans Ji.2.2.2
 refine⟨vs,s₁,xX,k,_,s',Y5,?_,(fun _ i x hx=>by rw[xY] at hx;simp at hx),hkp,by rw[abM],Shared.rest_eq hos⟩
 exact Or.imp (fun h=>Exists.imp (fun v h=>⟨aW outcomeOf h.1,h.2.1,h.2.2.1,h.2.2.2.1,fun b o y _=>h.2.2.2.2.1 b o y,h.2.2.2.2.2⟩) h)
  (fun h=>Exists.imp (fun e h=>Exists.imp (fun ob h=>Exists.imp (fun cls h=>⟨aW outcomeOf h.1,h.2.1,h.2.2.1,h.2.2.2.1,h.2.2.2.2.1,fun b o y _=>h.2.2.2.2.2 b o y⟩) h) h) h) Rl
abbrev Ye (q:dx) (loose:ah Str) (XP:(Str->aC av)->bB->Prop) (YP:dy->bB->Prop) (r:RowW) (d:DefRec) (kwd:ah (Str×ay)) (run:av->ah av->Sem av):Prop:=
 ∀ (w:dy) (s₀ s₁:aF) (mg mb:Str->aC av),Ground q loose r.records XP w s₀ mg mb s₁.heap->YP w s₁.heap->∀ (a:ax),mg d.name=aa (.ref a)->s₁.gens=#[]->
  ∀ (args:ah WData) (vals:ah av) (as:ah ax),r.claim.pre args=ag->WData.layableAll args=ag->Laid r.records w s₀ s₁ args vals as->
   ia (model r.prog w) callerA (run (.ref a) vals) (fun v s'=>GoodWG r.claim (classAt s₀.heap) (ExcName.means s₀.heap) args s₁ (.ok (.ret v)) s')
    (fun e s'=>GoodWG r.claim (classAt s₀.heap) (ExcName.means s₀.heap) args s₁ (.error e) s') s₁
theorem PySem.W.holds_open {r:OpenRow}{q:dx}{loose:ah Str}{Xt:aF->aj}{XP:(Str->aC av)->bB->Prop}{α:Type}{Yf:aF->α}{Ya:dy->α}{YP:dy->bB->Prop}{d:DefRec}{kwd:ah (Str×ay)}{N:Nat}
  (left:LeftO r.prog q loose Xt Yf Ya N) (hY:∀ w s,Yf s=Ya w->YP w s.heap) (hYk:∀ w h h',YP w h->(∀ b o,h.get? b=aa o->h'.get? b=aa o)->YP w h')
  (hX:∀ s,Xt s=ag->XP (s.heap.nsMap mainGlobals) s.heap) (hXk:∀ mg h h',XP mg h->(∀ b o,h.get? b=aa o->h'.get? b=aa o)->XP mg h')
  (Ze:defOf q r.name=aa (d,kwd)) (hp:r.prog.theDef r.name=aa (d.params,d.body,d.scope)) (hk:kwWritten? d.params.kwonlyargs d.params.kw_defaults=aa kwd) (hRf:∀ s,Xt s=ag->RecFacts r.records s.heap) (UC:(!r.writes || r.records.isEmpty)=ag)
  (k1:r.wellSaid=ag) (ok:(chainsOk q&&opensWell r.prog&&(frees r.toRowW&&r.within.isEmpty))=ag) (hb:r.prog.bare) (hw:r.toRowW.promised)
  (call:Ye q loose XP YP r.toRowW d kwd fun f vs=>_root_.PySem.call f vs):r.Holds:=by
 refine⟨k1,hw,?_⟩
 obtain⟨ok,k5⟩:=eU.mp ok
 obtain⟨hch,o1⟩:=eU.mp ok
 obtain⟨k5,k6⟩:=eU.mp k5
 obtain⟨Xc,hu,ha,hap,hm⟩:=frees_parts k5
 refine⟨⟨hb,o1,by show r.makers.map _=[];rw[hm];rfl⟩,hw.witness,fun w=>⟨(left.behind hX hch w).1,fun s' hs'=>?_⟩⟩
 obtain⟨s₀,hf,hg0,s,hT,hz,xY,hg,Pf,y⟩:=(left.behind (XP:=fun mg h=>XP mg h/\RecFacts r.records h) (fun s hs=>⟨hX s hs,hRf s hs⟩) hch w).2 s' hs'
 have G0:Ground q loose [] XP w s (s.heap.nsMap mainGlobals) (s.heap.nsMap builtinsNs) s.heap:=⟨Pf.T,Pf.B,Pf.D,Pf.TE,Pf.TD,Pf.W,Pf.X.1,Pf.cls,Pf.has,Pf.apart,Pf.once,Pf.K⟩
 have RF:=Pf.X.2
 have hT':=hT
 refine⟨s₀,hf,hg0,s,hT,(fun n hn=>by
  obtain rfl:n=r.name:=by split at hn<;>simp_all
  exact pinned_of_view hg G0 Ze hp hk),RF.1,RF.2.1,?_⟩
 have xY:s.gens=#[]:=Array.eq_empty_of_size_eq_zero (uM.mp xY)
 have G:Ground q loose r.records XP w s _ _ s.heap:=RF.ground G0
 refine KI (c:=r.toRowW.claim) hz xY fun args EY Rk ord Ri=>?_
 obtain⟨⟨vs,s₁⟩,xX⟩:=X6.mp (layAllW_isSome (P:=w.params) (ord:=ord) G.has args r.args s (pre_splitW EY).1)
 have keeps:=layAllW_keeps _ _ _ xX
 have Ji:=layAllW_rest _ _ _ xX
 obtain⟨as,hrd,hin,hold⟩:=reads_layAllW Ri _ _ _ xX Rk s₁.heap (fun _ _ e=>e)
 have L:Laid r.records w s s₁ args vs as:=⟨⟨ord,Ri,xX⟩,hrd,hin,hold,keeps,Ji.1.trans xY,Ji.2.2.1⟩
 have G₁:=G.keeps hXk keeps
 obtain⟨a,o,pm,cd,doc,dV,kV,h1,_⟩:=G₁.fn Ze
 have h:=call w s s₁ _ _ G₁ (hYk _ _ _ (hY w s y) keeps) a (defOf_name Ze▸h1) L.gens args vs as EY Rk L
 have hi:=ident_freeW hu ha hap
 have hwi:r.toRowW.claim.within=[]:=xp.mp k6
 refine⟨vs,s₁,xX,I.bind (I.any (wpAny_nsGet G₁.T.g ?_))⟩
 rw[show(s.heap.nsMap mainGlobals) r.name=aa (.ref a) from h1]
 exact I.bind (I.bT h (fun v s' g=>I.pure ⟨_,rfl,have z:=g.laid (c:=r.toRowW.claim) Xc hwi hi L;⟨z.1,z.2.1,z.2.2,fun q=>⟨namesKept_of hT' hg _ keeps g.2.1.old,noTable UC q⟩⟩⟩)
  fun e s' g=>have z:=g.laid (c:=r.toRowW.claim) Xc hwi hi L;⟨z.1,z.2.1,z.2.2,fun q=>⟨namesKept_of hT' hg _ keeps g.2.1.old,noTable UC q⟩⟩)
open _root_.PySem _root_.PyProof.Rows
theorem Hp.set_set (H:Hp) (a:ax) (o p:Mo):(H.set a o).set a p=H.set a p:=by
 funext b
 show(if b=a then aa p else(if b=a then aa o else H b))=if b=a then aa p else H b
 split<;>rfl
theorem le_refl (H:Hp):H.le H:=fun _ _ h=>h
theorem le_trans {a b c:Hp} (x:a.le b) (y:b.le c):a.le c:=fun _ _ h=>y _ _ (x _ _ h)
theorem a_ {H:Hp}{a b:ax}{o:Mo} (h:H a=aa o) (k:H b=au):a≠b:=fun e=>by rw[e,k] at h;contradiction
theorem f5 {H H1:Hp}{a:ax}{o:Mo} (l:H.le H1) (h:H a=au):H.le (H1.set a o):=fun b p e=>(bb (a_ e h)).trans (l _ _ e)
theorem iC {H:Hp}{a:ax}{o:Mo} (h:H a=au):H.le (H.set a o):=f5 (le_refl H) h
theorem Vv {H H1:Hp}{a:ax} (l:H.le H1) (h:H a=au):H.le (H1.drop a):=fun b p e=>(bb (a_ e h)).trans (l _ _ e)
theorem aN {H:Hp}{a:ax}{o:Mo}:(H.set a o) a=aa o:=a8 rfl
theorem bY {H:Hp}{a b:ax}{o p:Mo} (n:b≠a) (h:H b=aa p):(H.set a o) b=aa p:=(bb n).trans h
section
variable {H:Hp}{ad:ax}{D:Cn}{fs:ah (Nm×V)}{f:Nm}{xs:ah V}{d:ah aA}
theorem MZ (h:H ad=aa (.inst D fs)):Ro H f (.ref ad)=eF fs f:=by
 show((H ad).bind Mo.Rr).bind _=_
 rw[h];rfl
theorem E4 (h:H ad=aa (.i_ fs)):OF H f (.ref ad)=eF fs f:=by
 show((H ad).bind Mo.Zu).bind _=_
 rw[h];rfl
theorem ES (h:H ad=aa (.bE xs)):(H ad).bind Mo.tj=aa xs:=by rw[h];rfl
theorem ach (h:H ad=aa (.ba d)):(H ad).bind Mo.ba?=aa d:=by rw[h];rfl
theorem Lm (h:(H ad).bind Mo.tj=aa xs):H ad=aa (.bE xs):=by
 cases e:H ad with
 |none=>rw[e] at h;contradiction
 |some o=>rw[e] at h;cases o with
  |bE=>cases h;rfl
  |_=>contradiction
theorem fU (h:H ad=aa (.bE xs)):listOf H (.ref ad)=aa xs:=ES h
theorem Xx (h:H ad=aa (.inst D fs)):AW H (.ref ad)=aa D:=by
 show(H ad).bind Mo.cls?=_
 rw[h];rfl
theorem Xy (h:H ad=aa (.bE xs)):AW H (.ref ad)=au:=by
 show(H ad).bind Mo.cls?=_
 rw[h];rfl
theorem Xz (h:H ad=aa (.ba d)):AW H (.ref ad)=au:=by
 show(H ad).bind Mo.cls?=_
 rw[h];rfl
theorem Q8 (h:H ad=aa (.bE xs)):kindB H (.ref ad)=aa ag:=by
 show(H ad).bind Mo.kind?=_
 rw[h];rfl
theorem Q9 (h:H ad=aa (.ba d)):kindB H (.ref ad)=aa ao:=by
 show(H ad).bind Mo.kind?=_
 rw[h];rfl
theorem PR (h:H ad=aa (.bE xs)) (hl:xs.length<=line):truth H (.ref ad)=aa (!xs.isEmpty):=by
 show((H ad).bind Mo.tj).bind Kh=_
 rw[h];exact a8 hl
theorem QO (h:H ad=aa (.bE xs)):norm H (.ref ad)=.bE xs:=by
 unfold norm;rw[fU h];rfl
end
theorem lX {α:Type}{xs:ah α}{p:Nat}{u:α} (h:xs[p]? =aa u):p < xs.length:=(X_.mp h).1
theorem YD {n p:Nat}{i:Int} (hi:i=p) (h:p < n) (hl:n<=line):zY n i=aa p/\fits i:=by
 unfold line at hl
 subst hi
 refine⟨?_,by unfold fits;exact fu [p,n] 0x110110110040011000040001 RO rG 0x100000043100 h hl aQ⟩
 unfold zY
 rw[a8 (gw _),a8 (sA.mpr h)];rfl
theorem U0 {n:Nat} (h:0 < n):zY n (-1)=aa (n-1)/\fits (-1):=by
 refine⟨?_,by unfold fits;decide⟩
 unfold zY
 rw[bb (by decide),a8 (by exact cw [n] bJ 0x12800183 33 h aQ)];congr 1;exact gh [] 0x1200000112844201 [n] 0x11001100400110110011000600110011001100070120201100110040011000011006001900190011000701202001 0x30102 33 h aQ
theorem gV {n d:Nat}{i:Int}{p:Nat} (hi:i=p) (hp:p<=n) (hn:n<=line):bound n d (.int i)=aa p:=by
 subst hi
 unfold line at hn
 show Bc n p=_
 unfold Bc
 rw[a8 (by exact fu [p,n] 0x110110110040011000040001 RO dP 0x100000043100 hp hn aQ),clipAt_nat,dM hp]
theorem vJ {α:Type} (xs:ah α) (k:Nat):cut xs k xs.length=xs.drop k:=by
 unfold cut;exact mu (by rw[fJ];exact bD _)
theorem Ie {α:Type} (xs:ah α) (k:Nat):cut xs 0 k=xs.take k:=rfl
theorem gm {α:Type} (xs:ah α) (k q:Nat):(cut xs k q).length<=xs.length:=by
 unfold cut;rw[eW,fJ];exact aK (je _ _) (jc _ _)
def PE (C:CC) (L:bZ) (H:Hp) (e:E) (v:V):Prop:=∀ (Q:PV) (X:PX),Q v H->wE C e L H Q X
def GN (C:CC) (L:bZ) (H:Hp) (e:Es) (v:ah V):Prop:=∀ (Q:ah V->Hp->Prop) (X:PX),Q v H->wEs C e L H Q X
def PB (C:CC) (L:bZ) (H:Hp) (k:aj) (e:Es) (v:V):Prop:=∀ (Q:PV) (X:PX),Q v H->wB C k e L H Q X
def GG (C:CC) (L:bZ) (H:Hp) (e:E) (n:Nat):Prop:=∀ (Q:PV) (X:PX),(∀ s:Str,s.length<=n->Q (.str s) H)->wE C e L H Q X
def NG (C:CC) (L:bZ) (H:Hp) (e:Es):Prop:=∀ (Q:ah V->Hp->Prop) (X:PX),(∀ vs,Q vs H)->wEs C e L H Q X
def i9 (C:CC) (rz:aj) (r:Ss) (Q:PO) (X:fj):PO:=Ml (fun L1 H1=>wSs C rz r L1 H1 Q X) Q
theorem gi {α:Type}{v:α}{k:α->Prop} (h:k v):Got (aa v) k:=⟨v,rfl,h⟩
theorem i2 {i j:Int}{k:Int->Int->Prop} (h:k i j):oY (.int i) (.int j) k:=⟨i,rfl,j,rfl,h⟩
theorem EX {α:Type}{xs:ah α}{k:Nat}{u:α}{P:α->Prop} (h:xs[k]? =aa u) (hl:xs.length<=line) (z:P u):Got (kq (.int k)) fun i=>Idx xs i P:=
 have a:=YD (n:=xs.length) (p:=k) (i:=k) rfl (lX h) hl
 ⟨k,rfl,k,u,a.2,a.1,h,z⟩
theorem Az {α:Type}{xs:ah α}{u:α}{P:α->Prop} (h:xs.getLast?=aa u) (z:P u):Got (kq (.int (-1))) fun i=>Idx xs i P:=by
 rw[DT] at h
 have a:=U0 (n:=xs.length) (cE (bX _) (lX h))
 exact⟨-1,rfl,_,u,a.2,a.1,h,z⟩
theorem Rb {H:Hp}{ad:ax}{v:V}{xs:ah V}{P:V->Prop} (g:H ad=aa (.bE xs)) (h:Got (kq v) fun i=>Idx xs i P):Got (kq v) fun i=>Got ((H ad).bind Mo.tj) fun xs=>Idx xs i P:=
 have⟨i,e,q⟩:=h;⟨i,e,xs,ES g,q⟩
theorem M3 {H:Hp}{b:ax}{bs d:ah aA}{Q:PV} (h:H b=aa (.ba bs)) (hl:bs.length+d.length<=line) (q:Q .none (H.set b (.ba (bs++d)))):rp ao (.ref b) .jS [.bytes d] H Q:=⟨b,rfl,d,rfl,bs,h,hl,q⟩
theorem Q6 {H:Hp}{b:ax}{xs:ah V}{x:V}{Q:PV} (h:H b=aa (.bE xs)) (hl:xs.length < line) (q:Q .none (H.set b (.bE (xs++[x])))):rp ag (.ref b) .dg [x] H Q:=⟨b,rfl,xs,h,hl,q⟩
section
variable {C:CC}{rz:aj}{H:Hp}{L:bZ}{r a b:Ss}{e c:E}{es:Es}{v u w:V}{x f m:Nm}{i j:Int}{t:aj}{ad:ax}{D:Cn}{fs:ah (Nm×V)}{d d2:ah aA}{xs ys vs:ah V}{k p q:Nat}
theorem iP:PE C L H .none .none:=fun _ _ q=>q
theorem fF:PE C L H (.bool t) (.bool t):=fun _ _ q=>q
theorem aH:PE C L H (.int i) (.int i):=fun _ _ q=>q
theorem gU {bs:ah Nat}:PE C L H (.bytes bs) (.bytes (bs.map UInt8.ofNat)):=fun _ _ q=>q
theorem ai (h:L x=aa v):PE C L H (.aB x) v:=fun _ _ q=>⟨v,h,q⟩
theorem bw (h:HZ x=aa i):PE C L H (.glob x) (.int i):=fun _ _ q=>⟨i,h,q⟩
theorem gF (p:PE C L H e v) (h:v=w):PE C L H e w:=h▸p
theorem eV (p:PE C L H e (.int i)) (h:i=j):PE C L H e (.int j):=h▸p
theorem aP (p:PE C L H e (.ref ad)) (h:H ad=aa (.inst D fs)) (g:eF fs f=aa v):PE C L H (.aV e f) v:=fun Q X q=>p _ _ ⟨v,(MZ h).trans g,q⟩
theorem bI (p:PE C L H e (.obj D fs)) (g:eF fs f=aa v):PE C L H (.aV e f) v:=fun Q X q=>p _ _ ⟨v,g,q⟩
theorem bp (p:PE C L H e (.ref ad)) (h:H ad=aa (.i_ fs)) (g:eF fs f=aa v):PE C L H (.key e f) v:=fun Q X q=>p _ _ ⟨v,(E4 h).trans g,q⟩
theorem lS (p:PE C L H e v) (h:truth H v=aa t):PE C L H (.kL e) (.bool !t):=fun Q X q=>p _ _ ⟨t,h,q⟩
theorem Qq (p:PE C L H e v) (h:truth H v=aa t){a b:E} (q:PE C L H (if t=ag then a else b) w):PE C L H (.ite e a b) w:=fun Q X z=>p _ _ ⟨t,h,by
 cases t
 ·exact q _ _ z
 ·exact q _ _ z⟩
theorem jC (p:PE C L H e (.int i)) (q:PE C L H c (.int j)):PE C L H (.bR .add e c) (.int (i+j)):=fun Q X z=>p _ _ (q _ _ (gi z))
theorem dO (p:PE C L H e (.int (k:Nat))):PE C L H (.bR .add e (.int 1)) (.int ((k+1:Nat):Int)):=fun Q X z=>p _ _ (gi (k:=fun j=>_) z)
theorem Vg (p:PE C L H e (.int i)):PE C L H (.bR .add e (.int j)) (.int (i+j)):=fun Q X z=>p _ _ (gi (k:=fun j=>_) z)
theorem cS (p:PE C L H e (.int (k:Nat))) (g:PE C L H c (.int (q:Nat))):PE C L H (.bR .add e c) (.int ((k+q:Nat):Int)):=fun Q X z=>p _ _ (g _ _ (gi z))
theorem jb (p:PE C L H e (.int i)) (q:PE C L H c (.int j)):PE C L H (.bR .sub e c) (.int (i-j)):=fun Q X z=>p _ _ (q _ _ (i2 z))
theorem Er (p:PE C L H e (.int i)) (q:PE C L H c (.int j)) (hi:small i) (hj:small j):PE C L H (.bR .mul e c) (.int (i*j)):=fun Q X z=>p _ _ (q _ _ (gi ⟨hi,hj,z⟩))
theorem ME (p:PE C L H e (.int i)) (q:PE C L H c (.int j)) (h1:0 < j) (h2:j < 1073741824):PE C L H (.bR .fdiv e c) (.int (i / j)):=fun Q X z=>p _ _ (q _ _ (i2 ⟨h1,h2,z⟩))
theorem rj (p:PE C L H e (.int i)) (q:PE C L H c (.int j)) (h1:0 < j):PE C L H (.bR .mod e c) (.int (i % j)):=fun Q X z=>p _ _ (q _ _ (i2 ⟨h1,z⟩))
theorem sV (p:PE C L H e (.int (k:Nat))) (z:PE C L H c (.int (q:Nat))):PE C L H (.bR .band e c) (.int ((k&&& q:Nat):Int)):=fun Q X y=>p _ _ (z _ _ (i2 ⟨gw _,gw _,y⟩))
theorem Ex (p:PE C L H e (.int (k:Nat))) (z:PE C L H c (.int (q:Nat))):PE C L H (.bR .bor e c) (.int ((k |||q:Nat):Int)):=fun Q X y=>p _ _ (z _ _ (i2 ⟨gw _,gw _,y⟩))
theorem z7 (p:PE C L H e (.int (k:Nat))) (z:PE C L H c (.int (q:Nat))) (h1:small k) (h2:(q:Int)<=100):PE C L H (.bR .shl e c) (.int ((k <<< q:Nat):Int)):=fun Q X y=>p _ _ (z _ _ (i2 ⟨gw _,h1,gw _,h2,y⟩))
theorem YG (p:PE C L H e (.int (k:Nat))) (z:PE C L H c (.int (q:Nat))) (h2:(q:Int)<=100):PE C L H (.bR .shr e c) (.int ((k >>> q:Nat):Int)):=fun Q X y=>p _ _ (z _ _ (i2 ⟨gw _,gw _,h2,y⟩))
theorem zl (p:PE C L H e (.bytes d)) (q:PE C L H c (.bytes d2)) (h:d.length+d2.length<=line):PE C L H (.bR .add e c) (.bytes (d++d2)):=fun Q X z=>p _ _ (q _ _ (gi ⟨h,z⟩))
theorem U9 (p:PE C L H e (.bytes d)) (q:PE C L H c (.int j)) (h1:0<=j) (h2:j<=100) (h3:d≠[]) (h4:d.length<=16):PE C L H (.bR .mul e c) (.bytes (List.replicate j.toNat d).flatten):=fun Q X z=>p _ _ (q _ _ (gi ⟨h1,h2,h3,h4,z⟩))
theorem oA (p:PE C L H e (.bE xs)) (q:PE C L H c (.bE ys)) (h:xs.length+ys.length<=line):PE C L H (.bR .add e c) (.bE (xs++ys)):=fun Q X z=>p _ _ (q _ _ ⟨xs,ys,rfl,rfl,h,z⟩)
theorem eL (p:PE C L H e (.int i)) (q:PE C L H c (.int j)):PE C L H (.cB e .lt c) (.bool (decide (i < j))):=fun Q X z=>p _ _ (q _ _ (i2 z))
theorem WZ (p:PE C L H e (.int i)) (q:PE C L H c (.int j)):PE C L H (.cB e .le c) (.bool (decide (i<=j))):=fun Q X z=>p _ _ (q _ _ (i2 z))
theorem kn (p:PE C L H e (.int i)) (q:PE C L H c (.int j)):PE C L H (.cB e .gt c) (.bool (decide (j < i))):=fun Q X z=>p _ _ (q _ _ (i2 z))
theorem m9 (p:PE C L H e (.int i)) (q:PE C L H c (.int j)):PE C L H (.cB e .ge c) (.bool (decide (j<=i))):=fun Q X z=>p _ _ (q _ _ (i2 z))
theorem cU (p:PE C L H e (.int i)) (q:PE C L H c (.int j)):PE C L H (.cB e .eq c) (.bool (decide (i=j))):=fun Q X h=>p _ _ (q _ _ ⟨_,rfl,h⟩)
theorem kI (p:PE C L H e (.int i)) (q:PE C L H c (.int j)):PE C L H (.cB e .ne c) (.bool (!decide (i=j))):=fun Q X h=>p _ _ (q _ _ ⟨_,rfl,h⟩)
theorem Qt (p:PE C L H e v) (q:PE C L H c w) (h:tI 6 (norm H v) (norm H w)=aa t):PE C L H (.cB e .eq c) (.bool t):=fun Q X z=>p _ _ (q _ _ ⟨_,h,z⟩)
theorem iH (p:PE C L H e v) (q:PE C L H c w) (h:tI 6 (norm H v) (norm H w)=aa t):PE C L H (.cB e .ne c) (.bool !t):=fun Q X z=>p _ _ (q _ _ ⟨_,h,z⟩)
theorem YH (p:PE C L H e (.int i)):PE C L H (.cB e .is_ .none) (.bool ao):=fun Q X z=>p _ _ ⟨rfl,z⟩
theorem qg (p:PE C L H e .none):PE C L H (.cB e .lH .none) (.bool ao):=fun Q X z=>p _ _ ⟨rfl,z⟩
theorem Qr (p:PE C L H e (.int i)):PE C L H (.cB e .lH .none) (.bool ag):=fun Q X z=>p _ _ ⟨rfl,z⟩
theorem YJ (p:PE C L H e (.bytes d)):PE C L H (.cB e .lH .none) (.bool ag):=fun Q X z=>p _ _ ⟨rfl,z⟩
theorem YI (p:PE C L H e (.obj D fs)):PE C L H (.cB e .lH .none) (.bool ag):=fun Q X z=>p _ _ ⟨rfl,z⟩
theorem iW {w:aA} (p:PE C L H e (.bytes d)) (q:PE C L H c (.int k)) (h:d[k]? =aa w) (hl:d.length<=line):PE C L H (.idx e c) (.int w.toNat):=fun Q X z=>p _ _ (q _ _ (EX h hl z))
theorem gG (p:PE C L H e (.bE xs)) (q:PE C L H c (.int k)) (h:xs[k]? =aa u) (hl:xs.length<=line):PE C L H (.idx e c) u:=fun Q X z=>p _ _ (q _ _ (EX h hl z))
theorem sU (p:PE C L H e (.tup xs)) (q:PE C L H c (.int k)) (h:xs[k]? =aa u) (hl:xs.length<=line):PE C L H (.idx e c) u:=fun Q X z=>p _ _ (q _ _ (EX h hl z))
theorem Vb (p:PE C L H e (.ref ad)) (g:H ad=aa (.bE xs)) (q:PE C L H c (.int k)) (h:xs[k]? =aa u) (hl:xs.length<=line):PE C L H (.idx e c) u:=fun Q X z=>p _ _ (q _ _ (Rb g (EX h hl z)))
theorem z8 (p:PE C L H e (.bE xs)) (h:xs.getLast?=aa u):PE C L H (.idx e (.neg (.int 1))) u:=fun Q X z=>p _ _ ⟨1,rfl,Az h z⟩
theorem vr (p:PE C L H e (.ref ad)) (g:H ad=aa (.bE xs)) (h:xs.getLast?=aa u):PE C L H (.idx e (.neg (.int 1))) u:=fun Q X z=>p _ _ ⟨1,rfl,Rb g (Az h z)⟩
theorem JP {t:aj}{lo hi:E} (p:PE C L H e (.bytes d)) (g:PE C L H lo (.int k)) (h:PE C L H hi (.int q)) (hp:k<=d.length) (hq:q<=d.length) (hl:d.length<=line):PE C L H (.slice t e lo hi) (.bytes (cut d k q)):=fun Q X z=>p _ _ (g _ _ (h _ _ ⟨k,q,hl,gV rfl hp hl,gV rfl hq hl,z⟩))
theorem MA {t:aj} (p:PE C L H e (.bytes d)) (g:PE C L H c (.int k)) (hp:k<=d.length) (hl:d.length<=line):PE C L H (.slice t e c .none) (.bytes (d.drop k)):=fun Q X z=>p _ _ (g _ _ ⟨k,d.length,hl,gV rfl hp hl,rfl,by rw[vJ];exact z⟩)
theorem U6 {t:aj} (p:PE C L H e (.bytes d)) (g:PE C L H c (.int k)) (hp:k<=d.length) (hl:d.length<=line):PE C L H (.slice t e .none c) (.bytes (d.take k)):=fun Q X z=>p _ _ (g _ _ ⟨0,k,hl,rfl,gV rfl hp hl,z⟩)
theorem JO {lo hi:E} (p:PE C L H e (.bE xs)) (g:PE C L H lo (.int k)) (h:PE C L H hi (.int q)) (hp:k<=xs.length) (hq:q<=xs.length) (hl:xs.length<=line):PE C L H (.slice ag e lo hi) (.bE (cut xs k q)):=fun Q X z=>p _ _ (g _ _ (h _ _
 ⟨k,q,hl,gV rfl hp hl,gV rfl hq hl,aK (gm _ _ _) hl,z⟩))
theorem zh (p:PE C L H e (.bE xs)) (g:PE C L H c (.int k)) (hp:k<=xs.length) (hl:xs.length<=line):PE C L H (.slice ag e c .none) (.bE (xs.drop k)):=fun Q X z=>p _ _ (g _ _
 ⟨k,xs.length,hl,gV rfl hp hl,rfl,aK (gm _ _ _) hl,by rw[vJ];exact z⟩)
theorem Em (p:PE C L H e (.bE xs)) (g:PE C L H c (.int k)) (hp:k<=xs.length) (hl:xs.length<=line):PE C L H (.slice ag e .none c) (.bE (xs.take k)):=fun Q X z=>p _ _ (g _ _
 ⟨0,k,hl,rfl,gV rfl hp hl,aK (gm _ _ _) hl,z⟩)
theorem aE:GN C L H .nil []:=fun _ _ q=>q
theorem aq (p:PE C L H e v) (g:GN C L H es vs):GN C L H (.cons e es) (v::vs):=fun _ _ q=>p _ _ (g _ _ q)
theorem cG (p:GN C L H es vs) (h:vs.length<=line):PE C L H (.list ag es) (.bE vs):=fun _ _ q=>p _ _ ⟨h,q⟩
theorem dw (p:GN C L H es vs) (h:vs.length<=line):PE C L H (.tuple es) (.tup vs):=fun _ _ q=>p _ _ ⟨h,q⟩
theorem a9 {k:aj} (p:PB C L H k es v):PE C L H (.b6 k es) v:=p
theorem cP {k:aj} (p:PE C L H e v):PB C L H k (.cons e .nil) v:=p
theorem jl {e2:E} (p:PE C L H e v) (h:truth H v=aa ao):PB C L H ag (.cons e (.cons e2 es)) v:=fun Q X q=>p _ _ ⟨_,h,q⟩
theorem m_ {e2:E} (p:PE C L H e v) (h:truth H v=aa ag):PB C L H ao (.cons e (.cons e2 es)) v:=fun Q X q=>p _ _ ⟨_,h,q⟩
theorem dK {k:aj}{e2:E} (p:PE C L H e u) (h:truth H u=aa k) (g:PB C L H k (.cons e2 es) v):PB C L H k (.cons e (.cons e2 es)) v:=fun Q X q=>p _ _ ⟨_,h,by rw[TF];exact g _ _ q⟩
theorem eA (p:PE C L H e (.bytes d)) (h:d.length<=line):PE C L H (.bc .len (.cons e .nil)) (.int d.length):=fun Q X q=>p _ _ ⟨h,q⟩
theorem eX (p:PE C L H e (.bE xs)) (h:xs.length<=line):PE C L H (.bc .len (.cons e .nil)) (.int xs.length):=fun Q X q=>p _ _ ⟨h,q⟩
theorem ox (p:PE C L H e (.ref ad)) (g:H ad=aa (.bE xs)) (h:xs.length<=line):PE C L H (.bc .len (.cons e .nil)) (.int xs.length):=fun Q X q=>p _ _ ⟨xs,ES g,h,q⟩
theorem Vd (p:PE C L H e (.int i)) (h1:0<=i) (h2:i<=1000000):PE C L H (.bc .bytes (.cons e .nil)) (.bytes (List.replicate i.toNat 0)):=fun Q X q=>p _ _ ⟨h1,h2,q⟩
theorem MF (p:PE C L H e (.bytes d)):PE C L H (.bc .bytes (.cons e .nil)) (.bytes d):=fun Q X q=>p _ _ q
theorem oz {is:ah Int} (p:PE C L H e (.bE xs)) (h1:intsOf xs=aa is) (h2:octets is=aa d) (h3:d.length<=1000):PE C L H (.bc .bytes (.cons e .nil)) (.bytes d):=fun Q X q=>p _ _ ⟨is,h1,d,h2,h3,q⟩
theorem Ew (p:PE C L H e (.ref ad)) (g:H ad=aa (.ba d)) (h:d.length<=line):PE C L H (.bc .bytes (.cons e .nil)) (.bytes d):=fun Q X q=>p _ _ ⟨d,ach g,h,q⟩
theorem JQ (p:PE C L H e (.int i)) (q:PE C L H c (.int j)):PE C L H (.bc .min (.cons e (.cons c .nil))) (.int (min i j)):=fun Q X z=>p _ _ (q _ _ (i2 z))
theorem Qp (p:PE C L H e (.int i)) (q:PE C L H c (.int j)):PE C L H (.bc .max (.cons e (.cons c .nil))) (.int (max i j)):=fun Q X z=>p _ _ (q _ _ (i2 z))
theorem YF (p:PE C L H e (.bytes d)) (h:d.length<=1000000):PE C L H (.bc .sum (.cons e .nil)) (.int (d.map (fun u=>(u.toNat:Int))).sum):=fun Q X q=>p _ _ (gi ⟨h,q⟩)
theorem sT (p:PE C L H e v) (h:listOf H v=aa xs) (hl:xs.length<=line):PE C L H (.bc .tuple (.cons e .nil)) (.tup xs):=fun Q X q=>p _ _ ⟨xs,h,hl,q⟩
theorem la:GG C L H .cK 1000:=fun Q X q=>q
theorem Qh (p:PE C L H e (.int i)) (h:small i):GG C L H (.bc .str (.cons e .nil)) 1000:=fun Q X q=>p _ _ (gi ⟨h,q⟩)
theorem JN (p:GG C L H e k) (z:GG C L H c q) (h:k+q<=Mn):GG C L H (.bR .add e c) (k+q):=fun Q X y=>p _ _ fun s hs=>z _ _ fun t ht=>gi ⟨aK (fS hs ht) h,fun u hu=>y u (aK hu (fS hs ht))⟩
theorem YE:NG C L H .nil:=fun Q X q=>q _
theorem zg (p:GG C L H e k) (g:NG C L H es):NG C L H (.cons e es):=fun Q X q=>p _ _ fun s _=>g _ _ fun vs=>q _
theorem Qi (p:PE C L H e (.int i)) (h:small i):GG C L H (.fmt e) 1000:=fun Q X q=>p _ _ ⟨i,rfl,h,q⟩
theorem U2 (p:NG C L H es):GG C L H (.gQ es) 16000:=fun Q X q=>p _ _ fun vs=>q
end
section
variable {C:CC}{rz:aj}{Q:PO}{X:fj}{H:Hp}{L:bZ}{r a b:Ss}{e c:E}{es:Es}{v u w y:V}{x f m:Nm}{i j:Int}{t:aj}{ad:ax}{D:Cn}{fs:ah (Nm×V)}{d d2:ah aA}{xs ys vs:ah V}{k p q:Nat}{F:Fn}{Qv:PV}{Xv:PX}
theorem abu (p:PE C L H e v) (q:Qv v H):wE C e L H Qv Xv:=p _ _ q
theorem bQ (p:GN C L H es vs) (k:C F vs H Qv Xv):wE C (.bL F es) L H Qv Xv:=p _ _ k
theorem rA (k:wEs C es L H (fun vs H1=>C F vs H1 Qv Xv) Xv):wE C (.bL F es) L H Qv Xv:=k
theorem bH (p:PE C L H e (.ref ad)) (h:H ad=aa (.inst D fs)) (g:oU D m=aa F) (z:GN C L H es vs) (k:C F (.ref ad::vs) H Qv Xv):wE C (.bk e m es) L H Qv Xv:=p _ _ (by rw[Xx h];exact⟨F,g,z _ _ k⟩)
theorem Ay (p:PE C L H e (.ref ad)) (h:H ad=aa (.inst D fs)) (g:oU D m=aa F) (k:wEs C es L H (fun vs H1=>C F (.ref ad::vs) H1 Qv Xv) Xv):wE C (.bk e m es) L H Qv Xv:=p _ _ (by rw[Xx h];exact⟨F,g,k⟩)
theorem VA (p:PE C L H e (.obj D fs)) (g:oU D m=aa F) (z:GN C L H es vs) (k:C F (.obj D fs::vs) H Qv Xv):wE C (.bk e m es) L H Qv Xv:=p _ _ ⟨F,g,z _ _ k⟩
theorem oW (p:PE C L H e (.ref ad)) (h:H ad=aa (.bE xs)) (z:PE C L H c y) (hl:xs.length < line) (k:Qv .none (H.set ad (.bE (xs++[y])))):wE C (.bk e .dg (.cons c .nil)) L H Qv Xv:=p _ _ (by
 rw[Xy h]
 exact⟨ag,Q8 h,rfl,z _ _ ⟨ad,rfl,xs,h,hl,k⟩⟩)
theorem VB (p:PE C L H e (.ref ad)) (h:H ad=aa (.bE xs)) (k:wE C c L H (fun y H1=>rp ag (.ref ad) .dg [y] H1 Qv) Xv):wE C (.bk e .dg (.cons c .nil)) L H Qv Xv:=p _ _ (by
 rw[Xy h]
 exact⟨ag,Q8 h,rfl,k⟩)
theorem wU (p:PE C L H e (.ref ad)) (h:H ad=aa (.ba d)) (z:PE C L H c (.int i)) (h1:0<=i) (h2:i<=255) (hl:d.length < line) (k:Qv .none (H.set ad (.ba (d++[UInt8.ofNat i.toNat])))):wE C (.bk e .dg (.cons c .nil)) L H Qv Xv:=p _ _ (by
 rw[Xz h]
 exact⟨ao,Q9 h,rfl,z _ _ ⟨ad,rfl,i,rfl,d,h,h1,h2,hl,k⟩⟩)
theorem EV (p:PE C L H e (.ref ad)) (h:H ad=aa (.ba d)) (k:wE C c L H (fun y H1=>rp ao (.ref ad) .jS [y] H1 Qv) Xv):wE C (.bk e .jS (.cons c .nil)) L H Qv Xv:=p _ _ (by
 rw[Xz h]
 exact⟨ao,Q9 h,rfl,k⟩)
theorem Kk (p:PE C L H e (.ref ad)) (h:H ad=aa (.ba d)) (z:PE C L H c (.bytes d2)) (hl:d.length+d2.length<=line) (k:Qv .none (H.set ad (.ba (d++d2)))):wE C (.bk e .jS (.cons c .nil)) L H Qv Xv:=EV p h (z _ _ ⟨ad,rfl,d2,rfl,d,h,hl,k⟩)
theorem lV (z:GN C L H es vs) (g:rB D=aa F) (k:∀ a,H a=au->C F (.ref a::vs) (H.set a (.inst D [])) (fun r H2=>r=.none/\Qv (.ref a) H2) Xv):wE C (.new ao D es) L H Qv Xv:=z _ _ ⟨F,g,fun a ha=>k a ha⟩
theorem Ra (k:∀ a,H a=au->Qv (.ref a) (H.set a (.ba []))):wE C (.bc .bytearray .nil) L H Qv Xv:=k
theorem abv (z:PE C L H e (.bytes d)) (h:d.length<=line) (k:∀ a,H a=au->Qv (.ref a) (H.set a (.ba d))):wE C (.bc .bytearray (.cons e .nil)) L H Qv Xv:=z _ _ (gi ⟨h,k⟩)
theorem iI (z:GN C L H es vs) (h:vs.length<=line) (k:∀ a,H a=au->Qv (.ref a) (H.set a (.bE vs))):wE C (.list ao es) L H Qv Xv:=z _ _ ⟨h,k⟩
theorem Yp {Ql:ah V->Hp->Prop} (k:Ql [] H):wEs C .nil L H Ql Xv:=k
theorem q7 {Ql:ah V->Hp->Prop} (p:PE C L H e v) (k:wEs C es L H (fun vs H2=>Ql (v::vs) H2) Xv):wEs C (.cons e es) L H Ql Xv:=p _ _ k
theorem D7 {Ql:ah V->Hp->Prop} (k:wE C e L H (fun x H1=>wEs C es L H1 (fun vs H2=>Ql (x::vs) H2) Xv) Xv):wEs C (.cons e es) L H Ql Xv:=k
theorem bG (k:Q .next L H):wSs C rz .nil L H Q X:=k
theorem bC (k:wSs C rz r L H Q X):i9 C rz r Q X .next L H:=k
theorem Hb {s:S} (k:wS C rz s L H (i9 C rz r Q X) X):wSs C rz (.cons s r) L H Q X:=k
theorem bo (k:wE C e L H (fun v H1=>flat v=ag/\wSs C rz r L H1 Q X) (fun c H1=>X c L H1)):wSs C rz (.cons (.expr e) r) L H Q X:=k
theorem aR (p:PE C L H e v) (k:wSs C rz r (L.set x v) H Q X):wSs C rz (.cons (.bz x e) r) L H Q X:=p _ _ k
theorem bM (k:wE C e L H (fun v H1=>wSs C rz r (L.set x v) H1 Q X) (fun c H1=>X c L H1)):wSs C rz (.cons (.bz x e) r) L H Q X:=k
theorem Od {ns:ah Nm} (p:PE C L H e (.tup vs)) (h:ns.length=vs.length) (k:wSs C rz r (L.sets ns vs) H Q X):wSs C rz (.cons (.jA ns e) r) L H Q X:=p _ _ ⟨h,k⟩
theorem kG {ns:ah Nm} (k:wE C e L H (fun v H1=>qK ag ns v L fun L1=>wSs C rz r L1 H1 Q X) (fun c H1=>X c L H1)):wSs C rz (.cons (.jA ns e) r) L H Q X:=k
theorem cT (p:PE C L H c y) (z:PE C L H e (.ref ad)) (h:H ad=aa (.inst D fs)) (hl:fs.length < 100) (hf:f∈fieldsOf D) (k:wSs C rz r L (H.set ad (.inst D (cL fs f y))) Q X):wSs C rz (.cons (.setAttr e f c) r) L H Q X:=p _ _ (z _ _ ⟨ad,D,fs,rfl,h,hl,hf,k⟩)
theorem eP (k:wE C c L H (fun y H1=>wE C e L H1 (fun x H2=>xB x H2 f y fun H3=>wSs C rz r L H3 Q X) (fun c H1=>X c L H1)) (fun c H1=>X c L H1)):wSs C rz (.cons (.setAttr e f c) r) L H Q X:=k
theorem yC (z:PE C L H e (.ref ad)) (h:H ad=aa (.inst D fs)) (hl:fs.length < 100) (hf:f∈fieldsOf D) (k:wSs C rz r L (H.set ad (.inst D (cL fs f y))) Q X):wE C e L H (fun x H2=>xB x H2 f y fun H3=>wSs C rz r L H3 Q X) Xv:=z _ _ ⟨ad,D,fs,rfl,h,hl,hf,k⟩
theorem iN (p:PE C L H c y) (z:PE C L H e (.ref ad)) (h:H ad=aa (.i_ fs)) (hl:fs.length < 100) (k:wSs C rz r L (H.set ad (.i_ (cL fs f y))) Q X):wSs C rz (.cons (.c4 e f c) r) L H Q X:=p _ _ (z _ _ ⟨ad,fs,rfl,h,hl,k⟩)
theorem mL (k:wE C c L H (fun y H1=>wE C e L H1 (fun x H2=>y8 x H2 f y fun H3=>wSs C rz r L H3 Q X) (fun c H1=>X c L H1)) (fun c H1=>X c L H1)):wSs C rz (.cons (.c4 e f c) r) L H Q X:=k
theorem Dn (z:PE C L H e (.ref ad)) (h:H ad=aa (.i_ fs)) (hl:fs.length < 100) (k:wSs C rz r L (H.set ad (.i_ (cL fs f y))) Q X):wE C e L H (fun x H2=>y8 x H2 f y fun H3=>wSs C rz r L H3 Q X) Xv:=z _ _ ⟨ad,fs,rfl,h,hl,k⟩
theorem bj (p:PE C L (H.set ad (.inst D fs)) c y) (z:PE C L (H.set ad (.inst D fs)) e (.ref ad)) (hl:fs.length < 100) (hf:f∈fieldsOf D) (k:wSs C rz r L (H.set ad (.inst D (cL fs f y))) Q X):wSs C rz (.cons (.setAttr e f c) r) L (H.set ad (.inst D fs)) Q X:=cT p z aN hl hf (by rw[Hp.set_set];exact k)
theorem gg (p:PE C L (H.set ad (.i_ fs)) c y) (z:PE C L (H.set ad (.i_ fs)) e (.ref ad)) (hl:fs.length < 100) (k:wSs C rz r L (H.set ad (.i_ (cL fs f y))) Q X):wSs C rz (.cons (.c4 e f c) r) L (H.set ad (.i_ fs)) Q X:=iN p z aN hl (by rw[Hp.set_set];exact k)
theorem aa_ {op:Bo} (h:L x=aa u) (p:PE C L H e v) (k:Bt op u v fun z=>wSs C rz r (L.set x z) H Q X):wSs C rz (.cons (.aug x op e) r) L H Q X:=⟨u,h,p _ _ k⟩
theorem Ek (h:L x=aa (.int i)) (p:PE C L H e (.int j)) (k:wSs C rz r (L.set x (.int (i+j))) H Q X):wSs C rz (.cons (.aug x .add e) r) L H Q X:=⟨_,h,p _ _ (i2 k)⟩
theorem Yz (h:L x=aa (.int (p:Nat))) (z:PE C L H e (.int (q:Nat))) (k:wSs C rz r (L.set x (.int ((p |||q:Nat):Int))) H Q X):wSs C rz (.cons (.aug x .bor e) r) L H Q X:=⟨_,h,z _ _ (i2 ⟨gw _,gw _,k⟩)⟩
theorem Yy (h:L x=aa (.int (p:Nat))) (z:PE C L H e (.int (q:Nat))) (g:(q:Int)<=100) (k:wSs C rz r (L.set x (.int ((p >>> q:Nat):Int))) H Q X):wSs C rz (.cons (.aug x .shr e) r) L H Q X:=⟨_,h,z _ _ (i2 ⟨gw _,gw _,g,k⟩)⟩
theorem uk (z:PE C L H e (.ref ad)) (h:H ad=aa (.inst D fs)) (g:eF fs f=aa (.int i)) (p:PE C L H c (.int j)) (hl:fs.length < 100) (hf:f∈fieldsOf D) (k:wSs C rz r L (H.set ad (.inst D (cL fs f (.int (i+j))))) Q X):wSs C rz (.cons (.ie e f .add c) r) L H Q X:=
 z _ _ ⟨_,(MZ h).trans g,p _ _ (i2 ⟨ad,D,fs,rfl,h,hl,hf,k⟩)⟩
theorem Oc (z:PE C L H e (.ref ad)) (h:H ad=aa (.i_ fs)) (g:eF fs f=aa (.int i)) (p:PE C L H c (.int j)) (hl:fs.length < 100) (k:wSs C rz r L (H.set ad (.i_ (cL fs f (.int (i+j))))) Q X):wSs C rz (.cons (.sg e f .add c) r) L H Q X:=
 z _ _ ⟨_,(E4 h).trans g,p _ _ (i2 ⟨ad,fs,rfl,h,hl,k⟩)⟩
theorem Ob (z:PE C L H e (.ref ad)) (h:H ad=aa (.i_ fs)) (g:eF fs f=aa (.int i)) (p:PE C L H c (.int j)) (hl:fs.length < 100) (k:wSs C rz r L (H.set ad (.i_ (cL fs f (.int (i-j))))) Q X):wSs C rz (.cons (.sg e f .sub c) r) L H Q X:=
 z _ _ ⟨_,(E4 h).trans g,p _ _ (i2 ⟨ad,fs,rfl,h,hl,k⟩)⟩
theorem c5 (p:PE C L H c v) (h:truth H v=aa ag) (k:wSs C rz a L H (i9 C rz r Q X) X):wSs C rz (.cons (.dp c a b) r) L H Q X:=p _ _ ⟨_,h,k⟩
theorem mh (p:PE C L H c v) (h:truth H v=aa ao) (k:wSs C rz b L H (i9 C rz r Q X) X):wSs C rz (.cons (.dp c a b) r) L H Q X:=p _ _ ⟨_,h,k⟩
theorem bK (p:PE C L H c v) (h:truth H v=aa ao) (k:wSs C rz r L H Q X):wSs C rz (.cons (.dp c a .nil) r) L H Q X:=p _ _ ⟨_,h,k⟩
theorem He (p:PE C L H c v) (h:truth H v=aa t) (k1:t=ag->wSs C rz a L H (i9 C rz r Q X) X) (k2:t=ao->wSs C rz b L H (i9 C rz r Q X) X):wSs C rz (.cons (.dp c a b) r) L H Q X:=by
 cases t
 ·exact mh p h (k2 rfl)
 ·exact c5 p h (k1 rfl)
theorem q_ {z:Prop} [cN z] (p:PE C L H c (.bool (decide z))) (k1:z->wSs C rz a L H (i9 C rz r Q X) X) (k2:¬ z->wSs C rz b L H (i9 C rz r Q X) X):wSs C rz (.cons (.dp c a b) r) L H Q X:=
 He p rfl (fun h=>k1 (ij h)) (fun h=>k2 (Gw h))
theorem zU (k:wE C c L H (fun v H1=>Got (truth H1 v) fun t=>cond t (wSs C rz a L H1 (i9 C rz r Q X) X) (wSs C rz b L H1 (i9 C rz r Q X) X)) (fun c H1=>X c L H1)):wSs C rz (.cons (.dp c a b) r) L H Q X:=k
theorem cy (p:PE C L H e v) (k:Q (.ret v) L H):wSs C rz (.cons (.ret e) r) L H Q X:=p _ _ k
theorem gN (k:wE C e L H (fun v H1=>Q (.ret v) L H1) (fun c H1=>X c L H1)):wSs C rz (.cons (.ret e) r) L H Q X:=k
theorem P9 (k:Q (.ret .none) L H):wSs C rz (.cons .yz r) L H Q X:=k
theorem ot {n:Nat} (p:GG C L H e n) (k:X D L H):wSs C ag (.cons (.cC D e) r) L H Q X:=p _ _ fun s _=>⟨rfl,⟨s,rfl⟩,k⟩
theorem rb (h:L x=aa (.ref ad)) (g:H ad=aa (.bE xs)) (k:wSs C rz r (L.set x (.bE xs)) (H.drop ad) Q X):wSs C rz (.cons (.freeze x) r) L H Q X:=⟨ad,xs,h,g,k⟩
theorem tG (p:PE C L H e v) (h:gO H v=aa xs) (k:Loop x v xs (fun L H Q X=>wSs C ao b L H Q X) (i9 C rz r Q X) X L H):wSs C rz (.cons (.uz x e b) r) L H Q X:=p _ _ ⟨xs,h,k⟩
theorem ze (p:PE C L H c (.int j)) (h1:-(2 ^ 62)<=j) (h2:j < 2 ^ 62) (k:BY x (fun L H Q X=>wSs C ao b L H Q X) (i9 C rz r Q X) X (j-0).toNat 0 L H):wSs C rz (.cons (.forR x .none c b) r) L H Q X:=p _ _ ⟨0,j,rfl,rfl,by decide,by decide,h1,h2,k⟩
theorem Yw {lo:E} (g:PE C L H lo (.int i)) (p:PE C L H c (.int j)) (hn:lo.yD=ao) (h3:-(2 ^ 62)<=i) (h4:i < 2 ^ 62) (h1:-(2 ^ 62)<=j) (h2:j < 2 ^ 62) (k:BY x (fun L H Q X=>wSs C ao b L H Q X) (i9 C rz r Q X) X (j-i).toNat i L H):wSs C rz (.cons (.forR x lo c b) r) L H Q X:=g _ _ (p _ _ ⟨i,j,by rw[hn];rfl,rfl,h3,h4,h1,h2,k⟩)
theorem cb {p:Prop} [cN p] (h:¬ p):truth H (.bool (decide p))=aa ao:=aW aa (dU h)
theorem dD {p:Prop} [cN p] (h:p):truth H (.bool (decide p))=aa ag:=aW aa (c9 h)
theorem mY {p:Prop} [cN p] (h:p):truth H (.bool (!decide p))=aa ao:=aW (fun b=>aa (!b)) (c9 h)
theorem xO {p:Prop} [cN p] (h:¬ p):truth H (.bool (!decide p))=aa ag:=aW (fun b=>aa (!b)) (dU h)
theorem WR {p:Prop} [cN p] {A B:Prop} (k1:p->A) (k2:¬ p->B):Got (truth H (.bool (decide p))) fun t=>cond t A B:=by
 by_cases h:p
 ·exact⟨ag,dD h,k1 h⟩
 ·exact⟨ao,cb h,k2 h⟩
end
theorem bA {n:Nat}{f:Fn}{vs ws:ah V}{H:Hp}{Q:PV}{X:PX} (h:pJ f vs=aa ws) (k:wSs (aM n) ag f.body (bZ.none.sets f.ps ws) H (Cc Q) (wJ X)):aM (n+1) f vs H Q X:=⟨ws,h,k⟩
section
variable {n:Nat}{rz:aj}{L:bZ}{H:Hp}{Q:PO}{X:fj}
theorem u_ {d:E}{b:Ss} (J:Nat->bZ->Hp->Prop) (k:Nat) (h0:J k L H)
  (step:∀ k L H,J k L H->wE (aM n) d L H (fun v H1=>Got (truth H1 v) fun t=>cond t (wSs (aM n) ao b L H1 (mi (fun L H=>∃ j,j < k/\J j L H) Q) X) (Q .next L H1)) (fun c H1=>X c L H1)):wS (aM n) rz (.kD d b) L H Q X:=⟨J,k,h0,step⟩
theorem Aq {x:Nm}{src:V}{b:Ss}{full:ah V} (J:ah V->bZ->Hp->Prop)
  (step:∀ v r L H,J (v::r) L H->gO H src=aa full/\wSs (aM n) ao b (L.set x v) H (mi (J r) Q) X)
  (done:∀ L H,J [] L H->gO H src=aa full/\Q .next L H) (h0:J full L H):Loop x src full (fun L H Q X=>wSs (aM n) ao b L H Q X) Q X L H:=⟨J,h0,done,step⟩
theorem Ot {x:Nm}{b:Ss}{m:Nat}{i:Int} (J:Nat->Int->bZ->Hp->Prop)
  (step:∀ m i L H,J (m+1) i L H->wSs (aM n) ao b (L.set x (.int i)) H (mi (J m (i+1)) Q) X)
  (done:∀ i L H,J 0 i L H->Q .next L H) (h0:J m i L H):BY x (fun L H Q X=>wSs (aM n) ao b L H Q X) Q X m i L H:=⟨J,h0,done,step⟩
theorem YU {x:Nm}{src v:V}{b:Ss} (h:gO H src=aa [v]) (k:wSs (aM n) ao b (L.set x v) H (mi (fun L H=>gO H src=aa [v]/\Q .next L H) Q) X):Loop x src [v] (fun L H Q X=>wSs (aM n) ao b L H Q X) Q X L H:=
 ⟨fun r L' H'=>(r=[v]/\L'=L/\H'=H)∨(r=[]/\gO H' src=aa [v]/\Q .next L' H'),.inl ⟨rfl,rfl,rfl⟩,fun L' H' z=>z.elim (fun z=>nomatch z.1) fun z=>z.2,fun w r L' H' z=>z.elim (fun z=>by
  obtain⟨e,rfl,rfl⟩:=z
  cases e
  exact⟨h,dH (dj n) b (oE fun L1 H1 z=>.inr ⟨rfl,z⟩) (fun _ _ _ z=>z) k⟩) fun z=>nomatch z.1⟩
end
noncomputable def vi (n:Nat):ah aA:=if n < 128 then[UInt8.ofNat n] else UInt8.ofNat (n % 128+128)::vi (n / 128)
termination_by n
decreasing_by exact gh [] oI [n] 0x197f1080104002011 257 vO (by assumption) aQ
theorem jV {n:Nat} (h:n < 128):vi n=[UInt8.ofNat n]:=by rw[vi,a8 h]
theorem wC {n:Nat} (h:¬ n < 128):vi n=UInt8.ofNat (n % 128+128)::vi (n / 128):=by rw[vi,bb h]
theorem qd (n:Nat):1<=(vi n).length:=by
 rw[vi];split<;>simp
theorem q9:∀ (k n:Nat),1<=k->n < 128 ^ k->(vi n).length<=k
 | 0,n,h,_=>by exact cw [(vi n).length] 0x110020 0x2000 0x2120 h aQ
 |k+1,n,_,h=>by
  rw[vi]
  split
  ·simp
  ·rename_i hn
   cases k with
   |zero=>exact fu [(UInt8.ofNat (n % 128+128)::vi (n / 128)).length,n] 0x1101100040011 0x12000 0x80131016 0x8013101 hn h aQ
   |succ k=>
    have:n / 128 < 128 ^ (k+1):=by
     rw[Nat.div_lt_iff_lt_mul (by decide)]
     calc n < 128 ^ (k+1+1):=h
      _=128 ^ (k+1)*128:=by rw[Nat.pow_succ]
    have:=q9 (k+1) (n / 128) (lE [k] hM 0x12004120 aQ) this
    simp;exact cw [(vi (n / 128)).length,k] bJ pR pR this aQ
theorem Sk (n:Nat):n&&& 127=n % 128:=ZU n 7
theorem abb {n:Nat} (h:n < 128):n ||| 128=n+128:=by
 have:∀ m:Fin 128,(m.val ||| 128)=m.val+128:=by decide+kernel
 exact this ⟨n,h⟩
theorem ofNat_toNat {n:Nat} (h:n < 256):(UInt8.ofNat n).toNat=n:=by simp;exact cw [n] bJ nB nB h aQ
theorem rR {n:Nat}{H:Hp}{Q:PV}{X:PX}{m:Nat}{most:Int} (hm:(m:Int)<=most) (hl:(vi m).length<=20) (q:∀ H',H.le H'->Q (.bytes (vi m)) H'):aM (n+1) .qc [.int m,.int most] H Q X:=by
 refine bA rfl ?_
 refine bK (a9 (dK (eL (ai rfl) aH) (cb (lE [m] mn 0x200146 aQ)) (cP (kn (ai rfl) (ai rfl))))) (cb (gh [most] 0 [m] mD 0x10046 19 hm aQ)) ?_
 refine bM (Ra fun a ha=>?_)
 refine Hb (u_ (fun k L H1=>∃ bs j,L .xn=aa (.int (j:Nat))/\L .kB=aa (.ref a)/\H1 a=aa (.ba bs)/\H.le H1/\bs++vi j=vi m/\k=j) m ⟨[],m,rfl,rfl,aN,iC ha,rfl,rfl⟩ ?_)
 rintro k L H1 ⟨bs,j,h1,h2,h3,h4,h5,rfl⟩
 have hlen:bs.length+(vi k).length=(vi m).length:=by rw[<- h5,bN]
 have hp:=qd k
 refine abu (v:=.bool (decide (128<=(k:Int)))) (by exact m9 (ai h1) aH) (WR (fun hk=>?_) (fun hk=>?_))
 ·have e1:((k&&& 127 ||| 128:Nat))=k % 128+128:=by rw[Sk,abb (dE _ (by decide))]
  have e2:k >>> 7=k / 128:=DU k 7
  have lW:k % 128 < 128:=dE _ (by decide)
  rw[wC (by exact cw [k] mD vO 0x180133 hk aQ)] at h5
  refine bo (wU (i:=((k % 128+128:Nat):Int)) (ai h2) h3 (e1▸Ex (q:=128) (sV (q:=127) (ai h1) aH) aH) (lT [] oI [k] hM 0x80132041023 aQ) (lT [] oI [k] x9 0xff13801320413 aQ) (by unfold line;exact fu [bs.length,(vi m).length,(vi k).length] eI rK 0x1413100 0x10200042 hl hlen aQ) ⟨rfl,?_⟩)
  refine aa_ (v:=.int 7) h1 aH (i2 ⟨gw _,by decide,by decide,?_⟩)
  refine bG ⟨k / 128,by exact gh [] oI [k] 0x197f180103002 257 0x180133 hk aQ,bs++[UInt8.ofNat (k % 128+128)],k / 128,?_,h2,aN,f5 h4 ha,?_,rfl⟩
  ·exact aW (fun z:Nat=>aa (Vx.int (z:Int))) e2
  ·rw[<- h5,dF];rfl
 ·rw[jV (by exact cw [k] oZ rF 0x1801336 hk aQ)] at h5
  refine bC (bo (wU (ai h2) h3 (ai h1) (lE [k] hM pQ aQ) (cw [k] oZ AV 0x1801336 hk aQ) (by unfold line;exact fu [bs.length,(vi m).length,(vi k).length] eI rK 0x1413100 0x10200042 hl hlen aQ) ⟨rfl,?_⟩))
  refine cy (Ew (ai h2) aN (by unfold line;rw[bN];simp;exact fu [bs.length,(vi m).length,(vi k).length] eI 0xffffff33000 0x1413100 0x10200042 hl hlen aQ)) ?_
  show Q (.bytes (bs++[UInt8.ofNat k])) _
  rw[h5]
  exact q _ (f5 h4 ha)
theorem pI {α:Type}{d xs r:ah α}{p k:Nat} (h:d.drop p=xs++r) (hk:k < xs.length):d[p+k]? =xs[k]? :=by
 rw[<- BS,h,I_ hk]
theorem iy {α:Type}{d r:ah α}{x:α}{p:Nat} (h:d.drop p=x::r):d[p]? =aa x:=by
 have:=pI (k:=0) (xs:=[x]) h (nS 0);exact this
theorem s_ {α:Type}{d xs r:ah α}{p:Nat} (h:d.drop p=xs++r) (hx:xs≠[]):p+xs.length<=d.length:=by
 have:=aW List.length h
 rw[fJ,bN] at this
 have:1<=xs.length:=qB.mpr hx
 exact nk [] 0x200104 [p,xs.length,d.length,r.length] 0x11001101900500190001901105002 x8 0x30104402 0x10120 (by assumption) this aQ
theorem fo {α:Type}{d xs r:ah α}{p:Nat} (h:d.drop p=xs++r):d.drop (p+xs.length)=r:=by
 rw[<- xh,h,Te]
theorem GU (m:Nat):vi m≠[]:=fun q=>by have:=qd m;rw[q] at this;exact absurd this (by decide)
theorem Ol {m:Nat} (h:m < 256):octets [(m:Int)]=aa [UInt8.ofNat m]:=by
 unfold octets;rw[a8 ⟨gw _,by exact cw [m] bJ AV nB h aQ⟩];rfl
theorem Fl {n:Nat}{H:Hp}{Q:PV}{X:PX}{m:Nat} (hm:m < 2 ^ 64) (q:∀ H',H.le H'->Q (.bytes (vi m)) H'):aM (n+2) .zZ [.int m] H Q X:=by
 refine bA rfl ?_
 by_cases h:m < 128
 ·refine c5 (a9 (dK (m9 (ai rfl) aH) (dD (lE [m] hM pQ aQ)) (cP (eL (ai rfl) aH)))) (by exact dD (cw [m] bJ AU rF h aQ)) (cy (oz (is:=[(m:Int)]) (by exact cG (aq (ai rfl) aE) (aT rfl)) rfl (Ol (cw [m] bJ nB rF h aQ)) (aT rfl)) ?_)
  exact jV h▸q H (le_refl H)
 ·refine bK (a9 (dK (m9 (ai rfl) aH) (dD (cw [m] oZ pQ vO h aQ)) (cP (eL (ai rfl) aH)))) (by exact cb (cw [m] vN 0x801300146 vO h aQ)) (gN (bQ (aq (ai rfl) (aq (bw rfl) aE)) ?_))
  exact rR (cw [m] bJ 0xffffffffffffffff830013 pP hm aQ) (aK (q9 10 m (by decide) (cw [m] bJ Ip pP hm aQ)) (by decide)) q
theorem A0 {n:Nat}{H:Hp}{Q:PV}{X:PX}{m:Nat} (hm:m < 2 ^ 32) (q:∀ H',H.le H'->Q (.bytes (vi m)) H'):aM (n+2) .vp [.int m] H Q X:=by
 refine bA rfl ?_
 by_cases h:m < 128
 ·refine c5 (a9 (dK (m9 (ai rfl) aH) (dD (lE [m] hM pQ aQ)) (cP (eL (ai rfl) aH)))) (by exact dD (cw [m] bJ AU rF h aQ)) (cy (oz (is:=[(m:Int)]) (by exact cG (aq (ai rfl) aE) (aT rfl)) rfl (Ol (cw [m] bJ nB rF h aQ)) (aT rfl)) ?_)
  exact jV h▸q H (le_refl H)
 ·refine bK (a9 (dK (m9 (ai rfl) aH) (dD (cw [m] oZ pQ vO h aQ)) (cP (eL (ai rfl) aH)))) (by exact cb (cw [m] vN 0x801300146 vO h aQ)) (gN (bQ (aq (ai rfl) (aq (bw rfl) aE)) ?_))
  exact rR (cw [m] bJ 0xffffffff430013 oa hm aQ) (aK (q9 10 m (by decide) (cw [m] bJ Ip oa hm aQ)) (by decide)) q
theorem vu {a b i:Nat} (h:a < 2 ^ i):a |||(b <<< i)=a+b*2 ^ i:=by
 rw[TG,Nat.or_comm,SG,<- Nat.two_pow_add_eq_or_of_lt h]
 exact lE [2 ^ i*b,a] rL 0x104100042 aQ
theorem mK {k:Nat} (h:k < 2 ^ 64):small (k:Int):=by unfold small;rw[Int.natAbs_natCast];exact fq h (by decide)
theorem Mu {n:Nat}{L:bZ}{H:Hp}{Q:PO}{X:fj}{data:ah aA}{p t a o:Nat}{i:Int}{u:aA} (hl:data.length<=line) (g:data[p+t]? =aa u) (ho:u.toNat=o) (hs:7*t<=100) (h6:a < 2 ^ (7*t)) (h1:L .bq=aa (.bytes data)) (h3:L .dX=aa (.int ((p+t:Nat):Int))) (h4:L .wt=aa (.int ((7*t:Nat):Int))) (h5:L .xn=aa (.int a)){r:Ss}
  (k:wSs (aM n) ao r ((((L.set .Pu (.int i)).set .oP (.int (o:Nat))).set .dX (.int ((p+t+1:Nat):Int))).set .xn (.int ((a+o % 128*2 ^ (7*t):Nat):Int))) H Q X):
  wSs (aM n) ao (.cons (.dp (.cB (.aB .dX) .ge (.bc .len (.cons (.aB .bq) .nil))) (.cons (.cC .gJ .cK) .nil) .nil) (.cons (.bz .oP (.idx (.aB .bq) (.aB .dX))) (.cons (.aug .dX .add (.int 1)) (.cons (.aug .xn .bor (.bR .shl (.bR .band (.aB .oP) (.int 127)) (.aB .wt))) r)))) (L.set .Pu (.int i)) H Q X:=by
 have lW:=(X_.mp g).1
 refine bK (m9 (ai h3) (eA (ai h1) hl)) (cb (cw [data.length,p,t] mD 0x20104100136 0x201041 lW aQ)) ?_
 refine aR (v:=.int (o:Nat)) (eV (iW (ai h1) (ai h3) g hl) (aW Nat.cast ho)) ?_
 refine Ek (i:=((p+t:Nat):Int)) h3 aH ?_
 have e:a |||((o&&& 127) <<< (7*t))=a+o % 128*2 ^ (7*t):=by rw[Sk,vu h6]
 refine Yz (p:=a) (q:=(o&&& 127) <<< (7*t)) h5 (z7 (k:=o&&& 127) (q:=7*t) (sV (k:=o) (q:=127) (ai rfl) aH) (ai h4) (mK (cE Nat.and_le_right (by decide))) (cw [t] bJ 0x641300071513 0x64130007150 hs aQ)) ?_
 rw[e];exact k
theorem tN {n:Nat}{H:Hp}{Q:PV}{X:PX}{data rest:ah aA}{p m k:Nat}{most:Int} (hd:data.drop p=vi m++rest) (hl:data.length<=line) (hk:(vi m).length<=k) (hk2:k<=14) (hm:(m:Int)<=most)
  (q:Q (.tup [.int m,.int ((p+(vi m).length:Nat):Int)]) H):aM (n+1) .rf [.bytes data,.int p,.int k,.int most] H Q X:=by
 refine bA rfl ?_
 refine bK (eL (ai rfl) aH) (cb (lE [p] mn 0x200146 aQ)) ?_
 refine aR aH ?_
 refine aR aH ?_
 refine ze (ai rfl) (lE [k] hM Io aQ) (cw [k] bJ Im 0xe2000 hk2 aQ) ?_
 refine Ot (fun j i L H1=>H1=H/\∃ t:Nat,i=t/\t+j=k/\L .bq=aa (.bytes data)/\L .zJ=aa (.int most)/\L .dX=aa (.int ((p+t:Nat):Int))/\L .wt=aa (.int ((7*t:Nat):Int))/\∃ a b:Nat,L .xn=aa (.int a)/\a < 2 ^ (7*t)/\m=a+b*2 ^ (7*t)/\
   data.drop (p+t)=vi b++rest/\t+(vi b).length=(vi m).length) ?_ ?_ ⟨rfl,0,rfl,by exact lT [] 0x200174101 [k] Nb 0x100242 aQ,rfl,rfl,rfl,rfl,0,m,rfl,by decide,by exact lE [m] rL 0x11006024002 aQ,hd,jF _⟩
 ·rintro j i L H1 ⟨rfl,t,rfl,hj,h1,h2,h3,h4,a,b,h5,h6,h7,h8,h9⟩
  have hb:=qd b
  by_cases hs:b < 128
  ·rw[jV hs] at h8 h9
   refine Mu hl (iy h8) (ofNat_toNat (cw [b] bJ nB rF hs aQ)) (fu [t,k,j] 0x71071011030 0x64130007150 0xe2100 0x10122040042 hk2 hj aQ) h6 h1 h3 h4 h5 ?_
   rw[Nat.mod_eq_of_lt hs,<- h7]
   refine c5 (eL (ai rfl) aH) (dD (cw [b] bJ AU rF hs aQ)) ?_
   refine bK (kn (ai rfl) (ai h2)) (cb (gh [most] 0 [m] mD 0x10046 19 hm aQ)) ?_
   refine cy (dw (aq (ai rfl) (aq (ai rfl) aE)) (aT rfl)) ?_
   have:p+t+1=p+(vi m).length:=by rw[<- h9];rfl
   rw[this];exact q
  ·rw[wC hs] at h8 h9
   have agq:b % 128 < 128:=dE _ (by decide)
   refine Mu hl (iy h8) (ofNat_toNat (n:=b % 128+128) (lT [] oI [b] x9 0x1002380132041 aQ)) (fu [t,k,j] 0x71071011030 0x64130007150 0xe2100 0x10122040042 hk2 hj aQ) h6 h1 h3 h4 h5 ?_
   have e3:(b % 128+128) % 128=b % 128:=by lia
   rw[e3]
   have hv:=qd (b / 128)
   rw[jf] at h9
   refine bK (eL (ai rfl) aH) (cb (lT [] oI [b] mn 0x80138013204146 aQ)) ?_
   refine Ek (i:=((7*t:Nat):Int)) h4 aH (bG ?_)
   have ep:2 ^ (7*(t+1))=2 ^ (7*t)*128:=Nat.pow_add 2 (7*t) 7
   refine⟨rfl,t+1,rfl,by exact cw [t,j,k] DB 0x20101200442 0x20121040042 hj aQ,h1,h2,rfl,rfl,a+b % 128*2 ^ (7*t),b / 128,rfl,?_,?_,?_,by exact cw [t,(vi (b / 128)).length,(vi m).length] DB 0x20101200442 0x20121040042 h9 aQ⟩
   ·rw[ep]
    have:b % 128*2 ^ (7*t)<=127*2 ^ (7*t):=Nat.mul_le_mul_right _ (lT [] oI [b] x9 0x7f13200 aQ)
    exact fu [a,b % 128*2 ^ (7*t),2 ^ (7*t)] eI 0x801206100041 0x20001 0x207f15100 h6 this aQ
   ·rw[h7,ep,dT,<- Nat.mul_assoc,Nat.mul_right_comm,<- Nat.add_mul,SG (b / 128),Nat.mod_add_div]
   ·have:=aW (List.drop 1) h8
    rw[xh] at this
    exact this
 ·rintro i L H1 ⟨rfl,t,rfl,hj,h1,h2,h3,h4,a,b,h5,h6,h7,h8,h9⟩
  have hb:=qd b
  exact(YO [(vi m).length,k,t,(vi b).length] 0x110110190110050 11 dP 0x10022042 0x302042 0x30120 hk hj h9 hb aQ:False).elim
section
variable {n:Nat}{H:Hp}{Q:PV}{X:PX}
theorem Cg {data rest:ah aA}{p m:Nat} (hd:data.drop p=vi m++rest) (hl:data.length<=line) (hm:m < 2 ^ 64) (q:Q (.tup [.int m,.int ((p+(vi m).length:Nat):Int)]) H):aM (n+2) .ou [.bytes data,.int p] H Q X:=by
 refine bA rfl ?_
 have lW:=s_ hd (GU m)
 have hp:=qd m
 by_cases h:m < 128
 ·rw[jV h] at hd q
  have g:=iW (C:=aM (n+1)) (L:=bZ.none.sets Fn.ou.ps [.bytes data,.int p]) (H:=H) (e:=.aB .bq) (c:=.aB .dX) (ai rfl) (ai rfl) (iy hd) hl
  rw[ofNat_toNat (show m < 256 by exact cw [m] bJ nB rF h aQ)] at g
  refine c5 (a9 (dK (m9 (ai rfl) aH) (dD (lE [p] hM pQ aQ)) (dK (eL (ai rfl) (eA (ai rfl) hl)) (dD (fu [p,data.length,(vi m).length] eI 0x1010014 x7 0x20120 lW hp aQ)) (cP (eL g aH))))) (by exact dD (cw [m] bJ AU rF h aQ)) ?_
  refine cy (dw (aq g (aq (dO (ai rfl)) aE)) (aT rfl)) ?_
  exact q
 ·have Zg:=hd
  rw[wC h] at hd
  have g:=iW (C:=aM (n+1)) (L:=bZ.none.sets Fn.ou.ps [.bytes data,.int p]) (H:=H) (e:=.aB .bq) (c:=.aB .dX) (ai rfl) (ai rfl) (iy hd) hl
  rw[ofNat_toNat (show m % 128+128 < 256 by exact lT [] oI [m] x9 0x1002380132041 aQ)] at g
  refine bK (a9 (dK (m9 (ai rfl) aH) (dD (lE [p] hM pQ aQ)) (dK (eL (ai rfl) (eA (ai rfl) hl)) (dD (fu [p,data.length,(vi m).length] eI 0x1010014 x7 0x20120 lW hp aQ)) (cP (eL g aH))))) (cb (lT [] oI [m] mn 0x80138013204146 aQ)) ?_
  exact gN (bQ (aq (ai rfl) (aq (ai rfl) (aq aH (aq (bw rfl) aE)))) (tN (k:=10) Zg hl (q9 10 m (by decide) (cw [m] bJ Ip pP hm aQ)) (by decide) (cw [m] bJ 0xffffffffffffffff830013 pP hm aQ) q))
theorem yK {data rest:ah aA}{p m:Nat} (hd:data.drop p=vi m++rest) (hl:data.length<=line) (hm:m < 2 ^ 32) (q:Q (.tup [.int m,.int ((p+(vi m).length:Nat):Int)]) H):aM (n+2) .k_ [.bytes data,.int p] H Q X:=by
 refine bA rfl ?_
 have lW:=s_ hd (GU m)
 have hp:=qd m
 by_cases h:m < 128
 ·rw[jV h] at hd q
  have g:=iW (C:=aM (n+1)) (L:=bZ.none.sets Fn.k_.ps [.bytes data,.int p]) (H:=H) (e:=.aB .bq) (c:=.aB .dX) (ai rfl) (ai rfl) (iy hd) hl
  rw[ofNat_toNat (show m < 256 by exact cw [m] bJ nB rF h aQ)] at g
  refine c5 (a9 (dK (m9 (ai rfl) aH) (dD (lE [p] hM pQ aQ)) (dK (eL (ai rfl) (eA (ai rfl) hl)) (dD (fu [p,data.length,(vi m).length] eI 0x1010014 x7 0x20120 lW hp aQ)) (cP (eL g aH))))) (by exact dD (cw [m] bJ AU rF h aQ)) ?_
  refine cy (dw (aq g (aq (dO (ai rfl)) aE)) (aT rfl)) ?_
  exact q
 ·have Zg:=hd
  rw[wC h] at hd
  have g:=iW (C:=aM (n+1)) (L:=bZ.none.sets Fn.k_.ps [.bytes data,.int p]) (H:=H) (e:=.aB .bq) (c:=.aB .dX) (ai rfl) (ai rfl) (iy hd) hl
  rw[ofNat_toNat (show m % 128+128 < 256 by exact lT [] oI [m] x9 0x1002380132041 aQ)] at g
  refine bK (a9 (dK (m9 (ai rfl) aH) (dD (lE [p] hM pQ aQ)) (dK (eL (ai rfl) (eA (ai rfl) hl)) (dD (fu [p,data.length,(vi m).length] eI 0x1010014 x7 0x20120 lW hp aQ)) (cP (eL g aH))))) (cb (lT [] oI [m] mn 0x80138013204146 aQ)) ?_
  exact gN (bQ (aq (ai rfl) (aq (ai rfl) (aq aH (aq (bw rfl) aE)))) (tN (k:=5) Zg hl (q9 5 m (by decide) (cw [m] bJ 0x80000000053001 oa hm aQ)) (by decide) (cw [m] bJ 0xffffffff430013 oa hm aQ) q))
theorem yI {m:Nat} (hm:m < 2 ^ 64) (q:Q (.int ((vi m).length:Nat)) H):aM (n+1) .ix [.int m] H Q X:=by
 refine bA rfl ?_
 refine bK (a9 (dK (eL (ai rfl) aH) (cb (lE [m] mn 0x200146 aQ)) (cP (kn (ai rfl) (bw rfl))))) (cb (cw [m] mD 0x1ffffffffffffffff8346 pP hm aQ)) ?_
 refine aR aH ?_
 refine Hb (u_ (fun k L H1=>H1=H/\∃ c:Nat,L .xn=aa (.int (k:Nat))/\L .eK=aa (.int c)/\c+(vi k).length=(vi m).length+1) m ⟨rfl,1,rfl,rfl,by exact lE [(vi m).length] rL 0x12004001242 aQ⟩ ?_)
 rintro k L H1 ⟨rfl,c,h1,h2,h3⟩
 refine abu (v:=.bool (decide (128<=(k:Int)))) (by exact m9 (ai h1) aH) (WR (fun hk=>?_) (fun hk=>?_))
 ·rw[wC (by exact cw [k] mD vO 0x180133 hk aQ),jf] at h3
  have e2:k >>> 7=k / 128:=DU k 7
  refine Yy (p:=k) (q:=7) h1 aH (by decide) (Ek (i:=(c:Nat)) h2 aH (bG ?_))
  exact⟨k / 128,by exact gh [] oI [k] 0x197f180103002 257 0x180133 hk aQ,rfl,c+1,aW (fun z:Nat=>aa (Vx.int (z:Int))) e2,rfl,by exact cw [c,(vi (k / 128)).length,(vi m).length] DB 0x12204101200442 0x12204121040042 h3 aQ⟩
 ·rw[jV (by exact cw [k] oZ rF 0x1801336 hk aQ)] at h3
  have:c=(vi m).length:=Nat.add_right_cancel h3
  subst this
  exact bC (cy (ai h2) q)
noncomputable def fx (m:Nat):ah aA:=[UInt8.ofNat (m % 256),UInt8.ofNat (m / 256 % 256),UInt8.ofNat (m / 65536 % 256),UInt8.ofNat (m / 16777216)]
theorem Ln (n:Nat):n&&& 255=n % 256:=ZU n 8
theorem Aj {m:Nat} {is:ah Int}{bs:ah aA} (h:m < 256) (g:octets is=aa bs):octets ((m:Int)::is)=aa (UInt8.ofNat m::bs):=by
 unfold octets;rw[a8 ⟨gw _,by exact cw [m] bJ AV nB h aQ⟩,g];rfl
theorem Cj {m:Nat} (hm:m < 2 ^ 32) (q:Q (.bytes (fx m)) H):aM (n+1) .rg [.int m] H Q X:=by
 refine bA rfl ?_
 have e1:m >>> 8=m / 256:=DU m 8
 have e2:m >>> 16=m / 65536:=DU m 16
 have e3:m >>> 24=m / 16777216:=DU m 24
 refine bK (a9 (dK (eL (ai rfl) aH) (cb (lE [m] mn 0x200146 aQ)) (cP (kn (ai rfl) (bw rfl))))) (cb (cw [m] mD 0x1ffffffff4346 oa hm aQ)) ?_
 have sh:∀ k:Nat,(k:Int)<=100->PE (aM n) (bZ.none.sets Fn.rg.ps [.int m]) H (.bR .shr (.aB .xn) (.int k)) (.int ((m >>> k:Nat):Int)):=fun k hk=>YG (ai rfl) aH hk
 refine cy (oz (is:=[((m % 256:Nat):Int),((m / 256 % 256:Nat):Int),((m / 65536 % 256:Nat):Int),((m / 16777216:Nat):Int)]) (cG (aq (Ln m▸sV (q:=255) (ai rfl) aH) (aq (Ln (m / 256)▸sV (q:=255) (e1▸sh 8 (by decide)) aH) (aq (Ln (m / 65536)▸sV (q:=255) (e2▸sh 16 (by decide)) aH) (aq (e3▸sh 24 (by decide)) aE)))) (aT rfl)) rfl
  (Aj (dE _ (by decide)) (Aj (dE _ (by decide)) (Aj (dE _ (by decide)) (Ol (gh [] 0x10000004003101 [m] 0x1901101000000403002 0x10023101 oa hm aQ))))) (aT rfl)) q
theorem AZ {data rest:ah aA}{p m:Nat} (hd:data.drop p=fx m++rest) (hl:data.length<=line) (hm:m < 2 ^ 32) (q:Q (.int m) H):aM (n+1) .jW [.bytes data,.int p] H Q X:=by
 refine bA rfl ?_
 have lW:p+4<=data.length:=s_ hd nofun
 have g0:data[p]? =aa (UInt8.ofNat (m % 256)):=pI (k:=0) hd (aT rfl)
 have g1:data[p+1]? =aa (UInt8.ofNat (m / 256 % 256)):=pI (k:=1) hd (aT rfl)
 have g2:data[p+2]? =aa (UInt8.ofNat (m / 65536 % 256)):=pI (k:=2) hd (aT rfl)
 have g3:data[p+3]? =aa (UInt8.ofNat (m / 16777216)):=pI (k:=3) hd (aT rfl)
 refine bK (a9 (dK (eL (ai rfl) aH) (cb (lE [p] mn 0x200146 aQ)) (cP (kn (Vg (ai rfl)) (eA (ai rfl) hl))))) (cb (cw [data.length,p] mD 0x42101400146 0x421040 lW aQ)) ?_
 have it:∀ (k o:Nat),data[p+k]? =aa (UInt8.ofNat o)->o < 256->PE (aM n) (bZ.none.sets Fn.jW.ps [.bytes data,.int p]) H (.idx (.aB .bq) (.bR .add (.aB .dX) (.int k))) (.int (o:Nat)):=fun k o g h=>by
  have a:PE (aM n) (bZ.none.sets Fn.jW.ps [.bytes data,.int p]) H (.bR .add (.aB .dX) (.int k)) (.int ((p+k:Nat):Int)):=eV (jC (ai rfl) aH) (Tt p k).symm
  have b:=iW (e:=.aB .bq) (ai rfl) a g hl
  rw[ofNat_toNat h] at b
  exact b
 have i0:PE (aM n) (bZ.none.sets Fn.jW.ps [.bytes data,.int p]) H (.idx (.aB .bq) (.aB .dX)) (.int ((m % 256:Nat):Int)):=eV (iW (k:=p) (ai rfl) (ai rfl) g0 hl) (aW Nat.cast (ofNat_toNat (dE _ (by decide))))
 have lt:∀ o:Nat,o < 256->small (o:Int):=fun o h=>mK (fq h (by decide))
 have e:(m % 256 |||(m / 256 % 256) <<< 8 |||(m / 65536 % 256) <<< 16 |||(m / 16777216) <<< 24)=m:=by
  rw[vu (show m % 256 < 2 ^ 8 by exact lT [] 0x1002003101 [m] x9 0x10023201 aQ),vu (show m % 256+m / 256 % 256*2 ^ 8 < 2 ^ 16 by exact lT [] 0x100210301002003201 [m] 0x1002001100110501202 0x1000033010024062041 aQ),vu (show m % 256+m / 256 % 256*2 ^ 8+m / 65536 % 256*2 ^ 16 < 2 ^ 24 by exact lT [] 0x100250301000030030100210301002003401 [m] 0x10000300100200110011070321202 0x10000004301000038060100240620441 aQ)]
  lia
 refine cy (eV (Ex (k:=m % 256 |||(m / 256 % 256) <<< 8 |||(m / 65536 % 256) <<< 16) (q:=(m / 16777216) <<< 24) (Ex (k:=m % 256 |||(m / 256 % 256) <<< 8) (q:=(m / 65536 % 256) <<< 16) (Ex (k:=m % 256) (q:=(m / 256 % 256) <<< 8) i0
  (z7 (q:=8) (it 1 _ g1 (lT [] 0x100210301002003201 [m] DA 0x10023401 aQ)) aH (lt _ (lT [] 0x100210301002003201 [m] DA 0x10023401 aQ)) (by decide))) (z7 (q:=16) (it 2 _ g2 (lT [] 0x10021030100003003201 [m] DA 0x10023401 aQ)) aH (lt _ (lT [] 0x10021030100003003201 [m] DA 0x10023401 aQ)) (by decide))) (z7 (q:=24) (it 3 _ g3 (gh [] 0x10000004003101 [m] 0x1901101000000403002 0x10023101 oa hm aQ)) aH (lt _ (gh [] 0x10000004003101 [m] 0x1901101000000403002 0x10023101 oa hm aQ)) (by decide))) (aW Nat.cast e)) q
noncomputable def G4 (b:ah aA):Nat:=(b.map (·.toNat)).sum
noncomputable def ck (b:ah aA):Nat:=(G4 b*251+b.length*65537+7) % 2 ^ 32
theorem XA (b:ah aA):ck b < 2 ^ 32:=dE _ (by decide)
theorem P0 (b:ah aA):(b.map (fun u=>(u.toNat:Int))).sum=(G4 b:Nat):=by
 unfold G4
 induction b with
 |nil=>rfl
 |cons x b ih=>rw[gv,LK,ih];rfl
theorem UP (b:ah aA):G4 b<=255*b.length:=by
 unfold G4
 induction b with
 |nil=>exact bD _
 |cons x b ih=>
  have:=x.toNat_lt
  rw[gv,LK,jf];exact fu [x.toNat,(List.map (fun(x:aA) ↦ x.toNat) b).sum,b.length] eI 0x12204ff15100040 0x20ff15100 nB ih this aQ
theorem A9 {b:ah aA} (hl:b.length<=1000000) (q:Q (.int (ck b:Nat)) H):aM (n+1) .checksum [.int 2,.bytes b] H Q X:=by
 refine bA rfl ?_
 have hs:=UP b
 refine bK (cU (ai rfl) (bw rfl)) (cb (lE [] mn 0x122256 aQ)) ?_
 refine c5 (by exact cU (ai rfl) (bw rfl)) rfl (cy (eV (sV (k:=G4 b*251+b.length*65537+7) (q:=4294967295) (jC (jC (Er (i:=(G4 b:Nat)) (eV (YF (ai rfl) hl) (P0 b)) aH (mK (fu [G4 b,b.length] 0x11ff1011030 pP 0xf424033100 0x10ff15000 hl hs aQ)) (mK (k:=251) (by decide))) (Er (i:=(b.length:Nat)) (by exact eA (ai rfl) (by unfold line;exact cw [b.length] bJ pT qJ hl aQ)) aH (mK (cw [b.length] bJ pP qJ hl aQ)) (mK (k:=65537) (by decide)))) aH) (bw rfl)) (aW Nat.cast (ZU _ 32))) q)
end
theorem Ik {α:Type}{d xs r:ah α}{p:Nat} (h:d.drop p=xs++r):cut d p (p+xs.length)=xs:=by
 unfold cut;rw[h,pX,Td]
noncomputable def lp (b:ah aA):ah aA:=vi b.length++b
theorem Q2 (b:ah aA):(lp b).length=(vi b.length).length+b.length:=bN
theorem abn (b:ah aA):lp b≠[]:=fun q=>GU _ (List.append_eq_nil_iff.mp q).1
def cH (b:ax) (H H':Hp):Prop:=∀ c o,c≠b->H c=aa o->H' c=aa o
theorem cH.trans {b:ax}{x y z:Hp} (h:cH b x y) (k:cH b y z):cH b x z:=fun c o n e=>k c o n (h c o n e)
theorem cH.le {b:ax}{H₀ H H':Hp} (l:H₀.le H) (n:H₀ b=au) (k:cH b H H'):H₀.le H':=fun c o e=>k c o (a_ e n) (l c o e)
theorem cH.of_le {b:ax}{H H':Hp} (l:H.le H'):cH b H H':=fun c o _ e=>l c o e
theorem cH.set {b:ax}{H H':Hp}{o:Mo} (k:cH b H H'):cH b H (H'.set b o):=fun c p n e=>(bb n).trans (k c p n e)
theorem cH.refl {b:ax} (H:Hp):cH b H H:=fun _ _ _ e=>e
noncomputable def cu (d:ah aA) (p:Nat):Mo:=.inst .Cursor [(.bq,.bytes d),(.dX,.int p)]
section
variable {n:Nat}{H:Hp}{Q:PV}{X:PX}{a:ax}{d rest:ah aA}{p m:Nat}
theorem yL {b:ah aA} (hd:d.drop p=lp b++rest) (hl:d.length<=line) (hb:b.length < 2 ^ 32) (q:Q (.tup [.bytes b,.int ((p+(lp b).length:Nat):Int)]) H):aM (n+3) .tH [.bytes d,.int p] H Q X:=by
 refine bA rfl ?_
 have h1:d.drop p=vi b.length++(b++rest):=by rw[hd,lp,dF]
 have h2:=fo h1
 have lW:=s_ hd (abn b)
 rw[Q2] at lW q
 refine kG (bQ (aq (ai rfl) (aq (ai rfl) aE)) (yK h1 hl hb ⟨rfl,?_⟩))
 rw[<- dT] at lW q
 refine bK (kn (cS (ai rfl) (ai rfl)) (eA (ai rfl) hl)) (cb (cw [d.length,p,(vi b.length).length,b.length] mD 0x30201044100146 0x302010440 lW aQ)) ?_
 refine cy (dw (aq (gF (MF (JP (q:=p+(vi b.length).length+b.length) (ai rfl) (ai rfl) (by exact cS (ai rfl) (ai rfl)) (cw [p,(vi b.length).length,d.length,b.length] bJ x8 0x20301000440 lW aQ) lW hl)) (aW Vx.bytes (Ik h2))) (aq (cS (ai rfl) (ai rfl)) aE)) (aT rfl)) q
theorem wZ (ha:H a=aa (.inst .Cursor [])) (hl:d.length<=line) (hp:p<=d.length) (q:Q .none (H.set a (cu d p))):aM (n+1) .jB [.ref a,.bytes d,.int p] H Q X:=by
 refine bA rfl ?_
 refine bK (a9 (dK (eL (ai rfl) aH) (cb (lE [p] mn 0x200146 aQ)) (cP (kn (ai rfl) (eA (ai rfl) hl))))) (cb (cw [d.length,p] mD 0x10100146 256 hp aQ)) ?_
 refine cT (ai rfl) (ai rfl) ha (aT rfl) (by decide) ?_
 refine bj (ai rfl) (ai rfl) (aT rfl) (by decide) ?_
 exact q
theorem OX (ha:H a=aa (.inst .Cursor [])) (hl:d.length<=line) (q:Q .none (H.set a (cu d 0))):aM (n+1) .jB [.ref a,.bytes d] H Q X:=by
 have h:=wZ (n:=n) (Q:=Q) (X:=X) ha hl (bX _) q
 obtain⟨ws,h2,h3⟩:=h
 cases h2
 exact⟨_,rfl,h3⟩
theorem ZG (ha:H a=aa (cu d p)) (hl:d.length<=line) (q:Q (.int ((d.length:Int)-p)) H):aM (n+1) .yn [.ref a] H Q X:=by
 refine bA rfl ?_
 refine cy (jb (eA (aP (ai rfl) ha rfl) hl) (aP (ai rfl) ha rfl)) ?_
 exact q
theorem tf (ha:H a=aa (cu d p)) (hd:d.drop p=vi m++rest) (hl:d.length<=line) (hm:m < 2 ^ 64) (q:Q (.int m) (H.set a (cu d (p+(vi m).length)))):aM (n+3) .jz [.ref a] H Q X:=by
 refine bA rfl ?_
 have hp:=qd m
 have lW:=s_ hd (GU m)
 refine aR (aP (ai rfl) ha rfl) ?_
 have it:∀ (o:Nat) (L:bZ) (H:Hp) (q:Nat),L .aG=aa (.ref a)->L .dX=aa (.int p)->H a=aa (cu d q)->d[p]? =aa (UInt8.ofNat o)->o < 256->PE (aM (n+2)) L H (.idx (.aV (.aB .aG) .bq) (.aB .dX)) (.int (o:Nat)):=fun o L H q k1 k2 k3 g h=>by
  have b:=iW (e:=.aV (.aB .aG) .bq) (aP (C:=aM (n+2)) (ai k1) k3 rfl) (ai k2) g hl
  rw[ofNat_toNat h] at b
  exact b
 by_cases h:m < 128
 ·rw[jV h] at hd q
  have b:=it m ((bZ.none.sets Fn.jz.ps [.ref a]).set .dX (.int p)) H p rfl rfl ha (iy hd) (cw [m] bJ nB rF h aQ)
  refine c5 (a9 (dK (eL (ai rfl) (eA (aP (ai rfl) ha rfl) hl)) (dD (fu [p,d.length,(vi m).length] eI 0x1010014 0x20120 x7 hp lW aQ)) (cP (eL b aH)))) (by exact dD (cw [m] bJ AU rF h aQ)) ?_
  refine cT (dO (ai rfl)) (ai rfl) ha (aT rfl) (by decide) ?_
  exact cy (it m _ _ (p+1) rfl rfl aN (iy hd) (cw [m] bJ nB rF h aQ)) q
 ·have B9:=hd
  rw[wC h] at hd
  have b:=it (m % 128+128) ((bZ.none.sets Fn.jz.ps [.ref a]).set .dX (.int p)) H p rfl rfl ha (iy hd) (lT [] oI [m] x9 0x1002380132041 aQ)
  refine bK (a9 (dK (eL (ai rfl) (eA (aP (ai rfl) ha rfl) hl)) (dD (fu [p,d.length,(vi m).length] eI 0x1010014 0x20120 x7 hp lW aQ)) (cP (eL b aH)))) (cb (lT [] oI [m] mn 0x80138013204146 aQ)) ?_
  refine kG (bQ (aq (aP (ai rfl) ha rfl) (aq (ai rfl) aE)) (Cg B9 hl hm ⟨rfl,?_⟩))
  refine cT (ai rfl) (ai rfl) ha (aT rfl) (by decide) ?_
  refine cy (ai rfl) ?_
  exact q
theorem yg {b:ah aA} (ha:H a=aa (cu d p)) (hd:d.drop p=lp b++rest) (hl:d.length<=line) (hb:b.length < 2 ^ 32) (q:Q (.bytes b) (H.set a (cu d (p+(lp b).length)))):aM (n+4) .qP [.ref a] H Q X:=by
 refine bA rfl ?_
 refine kG (bQ (aq (aP (ai rfl) ha rfl) (aq (aP (ai rfl) ha rfl) aE)) (yL hd hl hb ⟨rfl,?_⟩))
 refine cT (ai rfl) (ai rfl) ha (aT rfl) (by decide) ?_
 refine cy (ai rfl) ?_
 exact q
theorem Nn (ha:H a=aa (cu d p)) (hl:d.length<=line) (hp:d.length<=p) (q:Q .none H):aM (n+1) .yp [.ref a] H Q X:=by
 refine bA rfl ?_
 refine bK (eL (aP (ai rfl) ha rfl) (eA (aP (ai rfl) ha rfl) hl)) (cb (cw [p,d.length] mD 0x10100146 256 hp aQ)) ?_
 exact q
theorem V9 {b:aj} (ha:H a=aa (cu d p)) (hd:d.drop p=(if b then[1] else[0])++rest) (hl:d.length<=line) (q:Q (.bool b) (H.set a (cu d (p+1)))):aM (n+1) .yo [.ref a] H Q X:=by
 refine bA rfl ?_
 have g:d[p]? =aa (UInt8.ofNat b.toNat):=by cases b<;>exact iy hd
 have lW:=lX g
 refine bK (m9 (aP (ai rfl) ha rfl) (eA (aP (ai rfl) ha rfl) hl)) (cb (cw [d.length,p] mD 0x10100136 257 lW aQ)) ?_
 refine aR (v:=.int (b.toNat:Nat)) (eV (iW (aP (ai rfl) ha rfl) (aP (ai rfl) ha rfl) g hl) (by cases b<;>rfl)) ?_
 have hb:b.toNat<=1:=by cases b<;>decide
 refine bK (kn (ai rfl) aH) (cb (cw [b.toNat] mD 0x11246 0x12000 hb aQ)) ?_
 refine uk (ai rfl) ha rfl aH (aT rfl) (by decide) (cy (gF (by exact cU (ai rfl) aH) (?_:Vx.bool (decide ((b.toNat:Int)=1))=.bool b)) q)
 cases b<;>rfl
structure iF (H:Hp) (a b:ax) (bs:ah aA):Prop where
 at_:H a=aa (.inst .Sink [(.fX,.ref b)])
 ba:H b=aa (.ba bs)
 ne:a≠b
theorem iF.turn {b:ax}{bs cs:ah aA}{H':Hp} (S:iF H a b bs) (k:cH b H H'):iF (H'.set b (.ba cs)) a b cs:=
 ⟨bY S.ne (k _ _ S.ne S.at_),aN,S.ne⟩
variable {b:ax}{bs:ah aA}
theorem ZD (ha:H a=aa (.inst .Sink [])) (q:∀ b H',H b=au->iF H' a b []->cH a H H'->Q .none H'):aM (n+1) .t9 [.ref a] H Q X:=by
 refine bA rfl (eP (Ra fun b hb=>?_))
 have ne:=a_ ha hb
 exact yC (ai rfl) (bY ne ha) (aT rfl) (by decide) (q b _ hb ⟨aN,bY ne.symm aN,ne⟩ fun c o nc e=>bY nc (iC hb _ _ e))
theorem wX (S:iF H a b bs) (hm:m < 2 ^ 64) (hl:bs.length<=1000000) (q:∀ H',iF H' a b (bs++vi m)->cH b H H'->Q .none H'):aM (n+3) .ym [.ref a,.int m] H Q X:=by
 refine bA rfl ?_
 have s1:=S.at_
 by_cases h:m < 128
 ·rw[jV h] at q
  exact c5 (a9 (dK (m9 (ai rfl) aH) (dD (lE [m] hM pQ aQ)) (cP (eL (ai rfl) aH)))) (by exact dD (cw [m] bJ AU rF h aQ)) (bo (wU (aP (ai rfl) s1 rfl) S.ba (ai rfl) (lE [m] hM pQ aQ) (cw [m] bJ AV rF h aQ) (by unfold line;exact cw [bs.length] bJ rK qJ hl aQ) ⟨rfl,q _ (S.turn (.refl H)) (.set (.refl H))⟩))
 ·have hv:=q9 10 m (by decide) (cw [m] bJ Ip pP hm aQ)
  exact mh (a9 (dK (m9 (ai rfl) aH) (dD (cw [m] oZ pQ vO h aQ)) (cP (eL (ai rfl) aH)))) (by exact cb (cw [m] vN 0x801300146 vO h aQ)) (bo (EV (aP (ai rfl) s1 rfl) S.ba (bQ (aq (ai rfl) aE) (Fl hm fun H' l=>M3 (l _ _ S.ba) (by unfold line;exact fu [bs.length,(vi m).length] eI 0x100000043100040 qJ nA hl hv aQ) ⟨rfl,q _ (S.turn (.of_le l)) (.set (.of_le l))⟩))))
theorem yd {x:ah aA} (S:iF H a b bs) (hx:x.length<=1000000) (hl:bs.length<=1000000) (q:∀ H',iF H' a b (bs++lp x)->cH b H H'->Q .none H'):aM (n+3) .t8 [.ref a,.bytes x] H Q X:=by
 refine bA rfl ?_
 have s1:=S.at_
 have hv:=q9 10 x.length (by decide) (cw [x.length] bJ Ip qJ hx aQ)
 refine bo (EV (aP (ai rfl) s1 rfl) S.ba (bQ (aq (eA (ai rfl) (by unfold line;exact cw [x.length] bJ pT qJ hx aQ)) aE) (A0 (cw [x.length] bJ oa qJ hx aQ) fun H' l=>M3 (l _ _ S.ba) (by unfold line;exact fu [bs.length,(vi x.length).length] eI 0x100000043100040 qJ nA hl hv aQ) ⟨rfl,?_⟩)))
 have e1:=bY (o:=.ba (bs++vi x.length)) S.ne (l _ _ S.at_)
 refine bo (Kk (aP (ai rfl) e1 rfl) aN (ai rfl) (by unfold line;rw[bN];exact GK [bs.length,(vi x.length).length,x.length] x6 0x100000043201000440 0xf424033200 qJ nA hx hl hv aQ) ⟨rfl,?_⟩)
 rw[Hp.set_set,dF]
 exact q _ (S.turn (.of_le l)) (.set (.of_le l))
theorem RU (S:iF H a b bs) (hm:m < 256) (hl:bs.length<=1000000) (q:∀ H',iF H' a b (bs++[UInt8.ofNat m])->cH b H H'->Q .none H'):aM (n+1) .BV [.ref a,.int m] H Q X:=by
 refine bA rfl ?_
 have s1:=S.at_
 refine bK (a9 (dK (eL (ai rfl) aH) (cb (lE [m] mn 0x200146 aQ)) (cP (kn (ai rfl) aH)))) (cb (cw [m] mD 0x1ff1346 nB hm aQ)) ?_
 exact bo (wU (aP (ai rfl) s1 rfl) S.ba (ai rfl) (lE [m] hM pQ aQ) (cw [m] bJ AV nB hm aQ) (by unfold line;exact cw [bs.length] bJ rK qJ hl aQ) ⟨rfl,q _ (S.turn (.refl H)) (.set (.refl H))⟩)
theorem V2 {x:aj} (S:iF H a b bs) (hl:bs.length<=1000000) (q:∀ H',iF H' a b (bs++if x then[1] else[0])->cH b H H'->Q .none H'):aM (n+1) .DW [.ref a,.bool x] H Q X:=by
 refine bA rfl ?_
 have s1:=S.at_
 have h1:bs.length < line:=by unfold line;exact cw [bs.length] bJ rK qJ hl aQ
 cases x
 ·exact mh (ai rfl) rfl (bo (wU (aP (ai rfl) s1 rfl) S.ba aH (by decide) (by decide) h1 ⟨rfl,q _ (S.turn (.refl H)) (.set (.refl H))⟩))
 ·exact c5 (ai rfl) rfl (bo (wU (aP (ai rfl) s1 rfl) S.ba aH (by decide) (by decide) h1 ⟨rfl,q _ (S.turn (.refl H)) (.set (.refl H))⟩))
theorem V3 (S:iF H a b bs) (hl:bs.length<=line) (q:Q (.bytes bs) H):aM (n+1) .DX [.ref a] H Q X:=by
 have s1:=S.at_
 exact bA rfl (cy (Ew (aP (ai rfl) s1 rfl) S.ba hl) q)
end
def g_ (S:ah ax) (H H':Hp):Prop:=∀ c o,c∉S->H c=aa o->H' c=aa o
theorem pM {H:Hp}{a:ax}{o:Mo} (h:H a=au):(H.set a o).drop a=H:=by
 funext b
 by_cases e:b=a
 ·subst e;exact(a8 rfl).trans h.symm
 ·exact(bb e).trans (bb e)
theorem set_comm {H:Hp}{a b:ax}{o p:Mo} (h:a≠b):(H.set a o).set b p=(H.set b p).set a o:=by
 funext c
 show(if c=b then aa p else if c=a then aa o else H c)=if c=a then aa o else if c=b then aa p else H c
 by_cases e:c=b
 ·subst e;rw[a8 rfl,bb h.symm,a8 rfl]
 ·rw[bb e,bb e]
theorem set_drop {H:Hp}{a b:ax}{o:Mo} (h:a≠b):(H.set a o).drop b=(H.drop b).set a o:=by
 funext c
 show(if c=b then au else if c=a then aa o else H c)=if c=a then aa o else if c=b then au else H c
 by_cases e:c=b
 ·subst e;rw[a8 rfl,bb h.symm,a8 rfl]
 ·rw[bb e,bb e]
theorem rq {H:Hp}{a:ax}{o:Mo}{x:V}{xs:ah V} (ha:H a=au) (h:listOf H x=aa xs):listOf (H.set a o) x=aa xs:=by
 cases x with
 |ref c=>exact fU (bY (a_ (Lm h) ha) (Lm h))
 |_=>exact h
noncomputable def nv (n:Nat):V:=.int (n:Int)
noncomputable def cfo (vs:ah Nat):ah (Nm×V):=[(.kZ,.bE (vs.map nv)),(.iU,.bE []),(.iT,.bE []),(.eO,.bE []),(.gE,.bool ao)]
noncomputable def Nc (vs:ah Nat):V:=.obj .hJ (cfo vs)
noncomputable def ids (vs:ah Nat):ah aA:=vi vs.length++(vs.map vi).flatten
noncomputable def Nd (vs:ah Nat):ah aA:=ids vs++(ids []++(ids []++(ids []++[0])))
noncomputable def cfr (vs:ah Nat):V:=.tup [.tup (vs.map nv),.tup [],.tup [],.tup [],.bool ao]
def me (vs:ah Nat):Prop:=vs.Pairwise (· < ·)/\vs.length<=2/\∀ v∈vs,v < 2 ^ 32
theorem me.nil:me []:=⟨.nil,by simp,by simp⟩
structure En where
 t:Nat
 i:Nat
 k:Nat
 d:ah aA
noncomputable def En.fs (e:En):ah (Nm×V):=[(.bO,nv e.t),(.cp,nv e.i),(.cM,nv e.k),(.bq,.bytes e.d)]
noncomputable def En.v (e:En):V:=.obj .Entry e.fs
noncomputable def En.row (e:En):V:=.tup [nv e.t,nv e.i,nv e.k,.bytes e.d]
noncomputable def En.enc (e:En):ah aA:=vi e.t++(vi e.i++(vi e.k++lp e.d))
structure En.Ok (e:En):Prop where
 t:e.t < 2 ^ 32
 i:e.i < 2 ^ 32
 k:e.k=0∨e.k=2
 d:e.d.length<=2
structure Hd where
 t:Nat
 v:Nat
 c:Nat
noncomputable def Hd.fs (h:Hd):ah (Nm×V):=[(.bO,nv h.t),(.oj,nv h.v),(.h_,nv h.c)]
noncomputable def Hd.o (h:Hd):V:=.obj .fQ h.fs
noncomputable def Hd.row (h:Hd):V:=.tup [nv h.t,nv h.v,nv h.c]
noncomputable def Hd.bs (h:Hd):ah aA:=1::(vi h.t++(vi h.v++vi h.c))
def Hd.Ok (h:Hd):Prop:=h.t < 2 ^ 32/\h.v < 2 ^ 32/\h.c < 2 ^ 32
noncomputable def En.bs (e:En):ah aA:=2::e.enc
noncomputable def fold (b t:Nat) (vs:ah Nat):ah aA:=4::(vi b++(vi t++lp (Nd vs)))
section
variable {n:Nat}{H:Hp}{Q:PV}{X:PX}{a:ax}
theorem VE (vs:ah Nat):intsOf (vs.map nv)=aa (vs.map fun n:Nat=>(n:Int)):=by
 induction vs with
 |nil=>rfl
 |cons v vs ih=>rw[gv,gv,<- Gg (f:=((v:Int):: ·)),<- ih];rfl
theorem Q_ {L:bZ}{C:CC}{e:E}{x:V}{xs:ah V} {is:ah Int} (p:PE C L H e x) (h:listOf H x=aa xs) (g:intsOf xs=aa is) (hl:is.length<=2) (hp:is.Pairwise (· <= ·)):PE C L H (.bc .sorted (.cons e .nil)) (.bE (is.map .int)):=fun Q X q=>p _ _ ⟨xs,h,is,g,hl,fun js h1 h2=>by
 have e:js=is:=acy (le:=(· <= ·)) (fun a b _ _ h1 h2=>Int.le_antisymm h1 h2) h2 hp h1
 rw[e];exact q⟩
theorem vQ {x:V}{vs:ah Nat} (hv:me vs) (hx:listOf H x=aa (vs.map nv)) (q:Q (.bE (vs.map nv)) H):aM (n+1) .rising [x] H Q X:=by
 refine bA rfl (bM (iI aE (bX _) fun b hb=>?_))
 have hs:=Q_ (C:=aM n) (L:=(bZ.none.sets Fn.rising.ps [x]).set .kB (.ref b)) (e:=.aB .NK) (ai rfl) (rq (o:=.bE []) hb hx) (VE vs) (by rw[cF];exact hv.2.1) (Gq.mpr (hv.1.imp fun h=>uO.mpr (fH h)))
 rw[LB] at hs
 refine tG hs rfl ?_
 refine Aq (fun r L H1=>∃ done rest,vs=done++rest/\r=rest.map nv/\L .kB=aa (.ref b)/\H1=H.set b (.bE (done.map nv))) ?_ ?_ ⟨[],vs,rfl,rfl,rfl,rfl⟩
 ·rintro v r L H1 ⟨done,rest,h1,h2,h3,rfl⟩
  refine⟨rfl,?_⟩
  cases rest with
  |nil=>contradiction
  |cons w rest=>
   cases h2
   have uX:(done.map nv).length < line:=by have:=hv.2.1;rw[h1,bN,jf] at this;rw[cF];unfold line;exact cw [done.length,rest.length] bJ rK 0x22121040040 this aQ
   have go:∀ {v:V},PE (aM n) (L.set .wx (nv w)) (H.set b (.bE (done.map nv))) (.b6 ao (.cons (.kL (.aB .kB)) (.cons (.cB (.idx (.aB .kB) (.neg (.int 1))) .ne (.aB .wx)) .nil))) v->truth (H.set b (.bE (done.map nv))) v=aa ag->
     wSs (aM n) ao yi (L.set .wx (nv w)) (H.set b (.bE (done.map nv))) (mi (fun L1 H1=>∃ done WY,vs=done++WY/\rest.map nv=WY.map nv/\L1 .kB=aa (.ref b)/\H1=H.set b (.bE (done.map nv))) (i9 (aM n) ag (.cons (.freeze .kB) (.cons (.ret (.aB .kB)) .nil)) (Cc Q) (wJ X))) (wJ X):=fun p t=>
    c5 p t (bo (oW (ai h3) aN (ai rfl) uX ⟨rfl,bC (bG ⟨done++[w],rest,by rw[h1,dF];rfl,rfl,h3,by rw[Hp.set_set,f7];rfl⟩)⟩))
   have hn:PE (aM n) (L.set .wx (nv w)) (H.set b (.bE (done.map nv))) (.kL (.aB .kB)) (.bool !(!(done.map nv).isEmpty)):=lS (ai h3) (PR aN (fH uX))
   rcases XM done with rfl |⟨d0,u,rfl⟩
   ·exact go (a9 (m_ hn rfl)) rfl
   ·have e1:((d0.concat u).map nv).isEmpty=ao:=by rw[I7,f7];cases d0<;>rfl
    have e2:((d0.concat u).map nv).getLast?=aa (nv u):=by rw[I7,f7];exact So
    rw[e1] at hn
    have hu:u≠w:=by
     have:=hv.1
     rw[h1,I7,dF,Nv] at this
     exact sy (X9 this.2.1 (uS ..))
    exact go (a9 (dK hn rfl (cP (kI (vr (ai h3) aN e2) (ai rfl))))) (xO (cw [u,w] AS 0x10100156 0x100026 hu aQ))
 ·rintro L H1 ⟨done,rest,h1,h2,h3,rfl⟩
  refine⟨rfl,?_⟩
  cases rest with
  |cons w rest=>contradiction
  |nil=>
   rw[fT] at h1;subst h1
   exact bC (rb h3 aN (cy (ai rfl) (by rw[pM hb];exact q)))
theorem ZK {x:V}{vs:ah Nat} (hv:me vs) (hx:listOf H x=aa (vs.map nv)) (ha:H a=au) (q:Q .none (H.set a (.inst .hJ (cfo vs)))):aM (n+2) .n_ [.ref a,x,.bE [],.bE [],.bE [],.bool ao] (H.set a (.inst .hJ [])) Q X:=by
 refine bA rfl ?_
 refine eP (bQ (aq (ai rfl) aE) (vQ hv (rq ha hx) (yC (ai rfl) aN (aT rfl) (by decide) ?_)))
 refine eP (bQ (aq (ai rfl) aE) (vQ .nil rfl (yC (ai rfl) aN (aT rfl) (by decide) ?_)))
 refine eP (bQ (aq (ai rfl) aE) (vQ .nil rfl (yC (ai rfl) aN (aT rfl) (by decide) ?_)))
 refine eP (bQ (aq (ai rfl) aE) (vQ .nil rfl (yC (ai rfl) aN (aT rfl) (by decide) ?_)))
 refine bj (ai rfl) (ai rfl) (aT rfl) (by decide) ?_
 rw[Hp.set_set,Hp.set_set,Hp.set_set,Hp.set_set]
 exact q
end
section
variable {C:CC}{L:bZ}{n:Nat}{H:Hp}{Q:PV}{X:PX}{a ad:ax}{e c:E}{es:Es}{vs:ah V}{v:V}{F:Fn}{D:Cn}{fs:ah (Nm×V)}{m:Nm}
theorem eE (p:GN C L H es vs) (k:∀ (Q:PV) (X:PX),Q v H->C F vs H Q X):PE C L H (.bL F es) v:=fun Q X q=>p _ _ (k _ _ q)
theorem d_ (p:PE C L H e (.ref ad)) (h:H ad=aa (.inst D fs)) (g:oU D m=aa F) (z:GN C L H es vs) (k:∀ (Q:PV) (X:PX),Q v H->C F (.ref ad::vs) H Q X):PE C L H (.bk e m es) v:=fun Q X q=>bH p h g z (k _ _ q)
theorem jX (p:PE C L H e (.obj D fs)) (g:oU D m=aa F) (z:GN C L H es vs) (k:∀ (Q:PV) (X:PX),Q v H->C F (.obj D fs::vs) H Q X):PE C L H (.bk e m es) v:=fun Q X q=>VA p g z (k _ _ q)
theorem zk (p:GN C L H es vs) (g:rB D=aa F) (k:∀ (Q:PV) (X:PX) a,H a=au->Q .none (H.set a (.inst D fs))->C F (.ref a::vs) (H.set a (.inst D [])) Q X):PE C L H (.new ag D es) (.obj D fs):=fun Q X q=>p _ _ ⟨F,g,fun a ha=>k _ _ a ha ⟨rfl,fs,aN,by rw[pM ha];exact q⟩⟩
theorem V8 {t i k d:V} (q:Q .none (H.set a (.inst .Entry [(.bO,t),(.cp,i),(.cM,k),(.bq,d)]))):aM (n+1) .sJ [.ref a,t,i,k,d] (H.set a (.inst .Entry [])) Q X:=by
 refine bA rfl ?_
 refine cT (ai rfl) (ai rfl) aN (aT rfl) (by decide) ?_;refine bj (ai rfl) (ai rfl) (aT rfl) (by decide) ?_;refine bj (ai rfl) (ai rfl) (aT rfl) (by decide) ?_;refine bj (ai rfl) (ai rfl) (aT rfl) (by decide) ?_
 rw[Hp.set_set];exact q
theorem ZH {t i k:V} (q:Q .none (H.set a (.inst .fQ [(.bO,t),(.oj,i),(.h_,k)]))):aM (n+1) .n9 [.ref a,t,i,k] (H.set a (.inst .fQ [])) Q X:=by
 refine bA rfl ?_
 refine cT (ai rfl) (ai rfl) aN (aT rfl) (by decide) ?_;refine bj (ai rfl) (ai rfl) (aT rfl) (by decide) ?_;refine bj (ai rfl) (ai rfl) (aT rfl) (by decide) ?_
 rw[Hp.set_set];exact q
theorem ZC {t i k d:V} (q:Q .none (H.set a (.inst .Snapshot [(.cp,t),(.bO,i),(.dq,k),(.bq,d)]))):aM (n+1) .oL [.ref a,t,i,k,d] (H.set a (.inst .Snapshot [])) Q X:=by
 refine bA rfl ?_
 refine cT (ai rfl) (ai rfl) aN (aT rfl) (by decide) ?_;refine bj (ai rfl) (ai rfl) (aT rfl) (by decide) ?_;refine bj (ai rfl) (ai rfl) (aT rfl) (by decide) ?_;refine bj (ai rfl) (ai rfl) (aT rfl) (by decide) ?_
 rw[Hp.set_set];exact q
theorem vt {t i k d:V} (p:GN (aM (n+1)) L H es [t,i,k,d]):PE (aM (n+1)) L H (.new ag .Entry es) (.obj .Entry [(.bO,t),(.cp,i),(.cM,k),(.bq,d)]):=zk p rfl fun _ _ _ _ q=>V8 q
theorem oy {t i k:V} (p:GN (aM (n+1)) L H es [t,i,k]):PE (aM (n+1)) L H (.new ag .fQ es) (.obj .fQ [(.bO,t),(.oj,i),(.h_,k)]):=zk p rfl fun _ _ _ _ q=>ZH q
theorem My {t i k d:V} (p:GN (aM (n+1)) L H es [t,i,k,d]):PE (aM (n+1)) L H (.new ag .Snapshot es) (.obj .Snapshot [(.cp,t),(.bO,i),(.dq,k),(.bq,d)]):=zk p rfl fun _ _ _ _ q=>ZC q
theorem Eu {x:V}{vs:ah Nat} (hv:me vs) (hx:listOf H x=aa (vs.map nv)) (p:GN (aM (n+2)) L H es [x,.bE [],.bE [],.bE [],.bool ao]):PE (aM (n+2)) L H (.new ag .hJ es) (Nc vs):=zk p rfl fun _ _ _ ha q=>ZK hv hx ha q
theorem ZJ {e:En} (q:Q e.row H):aM (n+1) .DZ [e.v] H Q X:=bA rfl (cy (dw (aq (bI (ai rfl) rfl) (aq (bI (ai rfl) rfl) (aq (bI (ai rfl) rfl) (aq (bI (ai rfl) rfl) aE)))) (aT rfl)) q)
theorem KV {h:Hd} (q:Q h.row H):aM (n+1) .uc [h.o] H Q X:=bA rfl (cy (dw (aq (bI (ai rfl) rfl) (aq (bI (ai rfl) rfl) (aq (bI (ai rfl) rfl) aE))) (aT rfl)) q)
theorem V6 {h:Hd} (q:Q h.o H):aM (n+2) .sI [h.o] H Q X:=bA rfl (cy (oy (aq (bI (ai rfl) rfl) (aq (bI (ai rfl) rfl) (aq (bI (ai rfl) rfl) aE)))) q)
theorem KX {vs:ah Nat} (hv:me vs) (q:Q (cfr vs) H):aM (n+1) .ue [Nc vs] H Q X:=by
 have hl:(vs.map nv).length<=line:=by have:=hv.2.1;rw[cF];unfold line;exact cw [vs.length] bJ pT rJ this aQ
 exact bA rfl (cy (dw (aq (sT (bI (ai rfl) rfl) rfl hl) (aq (sT (bI (ai rfl) rfl) rfl (bX _)) (aq (sT (bI (ai rfl) rfl) rfl (bX _)) (aq (sT (bI (ai rfl) rfl) rfl (bX _)) (aq (bI (ai rfl) rfl) aE))))) (aT rfl)) q)
noncomputable def En.size (e:En):Nat:=(vi e.t).length+(vi e.i).length+(vi e.k).length+(vi e.d.length).length+e.d.length
theorem Mx {k:Nat} (p:PE (aM (n+1)) L H c (.int k)) (h:k < 2 ^ 64):PE (aM (n+1)) L H (.bL .ix (.cons c .nil)) (.int (vi k).length):=eE (aq p aE) fun _ _ q=>yI h q
theorem En.Ok.k2 {e:En} (h:e.Ok):e.k<=2:=by have:=h.k;exact cw [e.k] 0x1100110300110011030011 rJ 0x22002020028 this aQ
theorem V7 {e:En} (h:e.Ok) (q:Q (.int (e.size:Nat)) H):aM (n+2) .B6 [e.v] H Q X:=by
 refine bA rfl ?_
 have h1:=h.t
 have h2:=h.i
 have h3:=h.k2
 have h4:=h.d
 refine aR (eA (bI (ai rfl) rfl) (by unfold line;exact cw [e.d.length] bJ pT rJ h4 aQ)) ?_
 refine aR (cS (cS (Mx (bI (ai rfl) rfl) (cw [e.t] bJ pP oa h1 aQ)) (Mx (bI (ai rfl) rfl) (cw [e.i] bJ pP oa h2 aQ))) (Mx (bI (ai rfl) rfl) (cw [e.k] bJ pP rJ h3 aQ))) ?_
 exact cy (cS (cS (ai rfl) (Mx (ai rfl) (cw [e.d.length] bJ pP rJ h4 aQ))) (ai rfl)) q
theorem c_ {m:Nat} (h:m < 2 ^ 32):(vi m).length<=5:=q9 5 m (by decide) (ma h (by decide))
theorem size_le {e:En} (h:e.Ok):e.size<=42:=by
 have h1:=c_ h.t
 have h2:=c_ h.i
 have h3:=c_ (m:=e.k) (cE h.k2 (by decide))
 have h4:=c_ (m:=e.d.length) (cE h.d (by decide))
 have:=h.d
 unfold En.size;exact nm5 [(vi e.t).length,(vi e.i).length,(vi e.k).length,(vi e.d.length).length,e.d.length] 0x11011011011011011060 0x2a13403020100044440 0x52000 0x52100 0x52200 0x52300 0x22400 h1 h2 h3 h4 this aQ
theorem vF {e:En} (h:e.Ok):e.enc.length<=42:=by
 have:=size_le h
 rw[En.enc,bN,bN,bN,Q2]
 unfold En.size at this;exact cw [(vi e.t).length,(vi e.i).length,(vi e.k).length,(vi e.d.length).length,e.d.length] bJ 0x2a13403042041040040 0x2a13403020100044440 this aQ
theorem none_le {H0 H:Hp} (l:H0.le H) (ha:H a=au):H0 a=au:=by
 cases e:H0 a with
 |none=>rfl
 |some o=>rw[l _ _ e] at ha;contradiction
structure GL (H0 H:Hp) (a b:ax) (bs:ah aA):Prop where
 at_:iF H a b bs
 le:H0.le H
 no:H0 b=au
section
variable {H0:Hp}{b:ax}{bs:ah aA}{rz:aj}{r:Ss}{Qo:PO}{Xo:fj}{x:Nm}{i:Nat}
theorem GL.go {H':Hp}{cs:ah aA} (S:GL H0 H a b bs) (T:iF H' a b cs) (k:cH b H H'):GL H0 H' a b cs:=⟨T,k.le S.le S.no,S.no⟩
theorem GL.up {H':Hp} (S:GL H0 H a b bs) (l:H.le H'):GL H0 H' a b bs:=⟨⟨l _ _ S.at_.at_,l _ _ S.at_.ba,S.at_.ne⟩,le_trans S.le l,S.no⟩
theorem ER (k:∀ a b H',GL H H' a b []->wSs (aM (n+1)) rz r (L.set x (.ref a)) H' Qo Xo):wSs (aM (n+1)) rz (.cons (.bz x (.new ao .Sink .nil)) r) L H Qo Xo:=
 bM (lV aE rfl fun a ha=>ZD aN fun b H1 hb S1 k1=>⟨rfl,k a b H1 ⟨S1,cH.le (iC ha) ha k1,none_le (iC ha) hb⟩⟩)
theorem xT (S:GL H0 H a b bs) (p:PE (aM (n+3)) L H e (.ref a)) (z:PE (aM (n+3)) L H c (.int i)) (hm:i < 2 ^ 64) (hl:bs.length<=1000000) (k:∀ H',GL H0 H' a b (bs++vi i)->wSs (aM (n+3)) rz r L H' Qo Xo):wSs (aM (n+3)) rz (.cons (.expr (.bk e .eJ (.cons c .nil))) r) L H Qo Xo:=
 bo (bH p S.at_.at_ rfl (aq z aE) (wX S.at_ hm hl fun H' T kk=>⟨rfl,k _ (S.go T kk)⟩))
theorem WT (S:GL H0 H a b bs) (p:PE (aM (n+1)) L H e (.ref a)) (z:PE (aM (n+1)) L H c (.int i)) (hm:i < 256) (hl:bs.length<=1000000) (k:∀ H',GL H0 H' a b (bs++[UInt8.ofNat i])->wSs (aM (n+1)) rz r L H' Qo Xo):wSs (aM (n+1)) rz (.cons (.expr (.bk e .oP (.cons c .nil))) r) L H Qo Xo:=
 bo (bH p S.at_.at_ rfl (aq z aE) (RU S.at_ hm hl fun H' T kk=>⟨rfl,k _ (S.go T kk)⟩))
theorem aaW {y:ah aA} (S:GL H0 H a b bs) (p:PE (aM (n+3)) L H e (.ref a)) (z:PE (aM (n+3)) L H c (.bytes y)) (hm:y.length<=1000000) (hl:bs.length<=1000000) (k:∀ H',GL H0 H' a b (bs++lp y)->wSs (aM (n+3)) rz r L H' Qo Xo):wSs (aM (n+3)) rz (.cons (.expr (.bk e .jJ (.cons c .nil))) r) L H Qo Xo:=
 bo (bH p S.at_.at_ rfl (aq z aE) (yd S.at_ hm hl fun H' T kk=>⟨rfl,k _ (S.go T kk)⟩))
theorem aaX {y:aj} (S:GL H0 H a b bs) (p:PE (aM (n+1)) L H e (.ref a)) (z:PE (aM (n+1)) L H c (.bool y)) (hl:bs.length<=1000000) (k:∀ H',GL H0 H' a b (bs++if y then[1] else[0])->wSs (aM (n+1)) rz r L H' Qo Xo):wSs (aM (n+1)) rz (.cons (.expr (.bk e .CY (.cons c .nil))) r) L H Qo Xo:=
 bo (bH p S.at_.at_ rfl (aq z aE) (V2 S.at_ hl fun H' T kk=>⟨rfl,k _ (S.go T kk)⟩))
theorem zd (S:GL H0 H a b bs) (p:PE (aM (n+1)) L H e (.ref a)) (hl:bs.length<=line) (k:Qo (.ret (.bytes bs)) L H):wSs (aM (n+1)) rz (.cons (.ret (.bk e .qE .nil)) r) L H Qo Xo:=
 gN (bH p S.at_.at_ rfl aE (V3 S.at_ hl k))
end
theorem du {x y:ah aA}{i j k:Nat} (h:x.length<=i) (g:y.length<=j) (l:i+j<=k):(x++y).length<=k:=by
 rw[bN];exact aK (fS h g) l
theorem A7 {e:En} (h:e.Ok) (q:∀ H',H.le H'->Q (.bytes e.enc) H'):aM (n+4) .vE [e.v] H Q X:=by
 refine bA rfl (ER fun a b H1 S1=>?_)
 have l1:([]++vi e.t).length<=5:=c_ h.t
 have l2:([]++vi e.t++vi e.i).length<=10:=du l1 (c_ h.i) (by decide)
 have h3:e.k < 2 ^ 32:=cE h.k2 (by decide)
 have l3:([]++vi e.t++vi e.i++vi e.k).length<=15:=du l2 (c_ h3) (by decide)
 have up:∀ {k},k < 2 ^ 32->k < 2 ^ 64:=fun h=>fq h (by decide)
 refine xT S1 (ai rfl) (bI (ai rfl) rfl) (up h.t) (by decide) fun H2 S2=>?_
 refine xT S2 (ai rfl) (bI (ai rfl) rfl) (up h.i) (aK l1 (by decide)) fun H2 S2=>?_
 refine xT S2 (ai rfl) (bI (ai rfl) rfl) (up h3) (aK l2 (by decide)) fun H2 S2=>?_
 refine aaW S2 (ai rfl) (bI (ai rfl) rfl) (aK h.d (by decide)) (aK l3 (by decide)) fun H2 S2=>?_
 have e1:[]++vi e.t++vi e.i++vi e.k++lp e.d=e.enc:=by rw[dF,dF];rfl
 rw[e1] at S2
 exact zd S2 (ai rfl) (aK (vF h) (by decide)) (q _ S2.le)
theorem j8 {e:En} (h:e.Ok) (q:∀ H',H.le H'->Q (.bytes e.bs) H'):aM (n+5) .j7 [e.v] H Q X:=by
 refine bA rfl (gN ?_)
 refine(oz (is:=[2]) (d:=[2]) (cG (aq (bw rfl) aE) (aT rfl)) rfl rfl (by decide):PE _ _ _ _ _) _ _ ?_
 refine bQ (aq (ai rfl) aE) (A7 h fun H1 l1=>gi ⟨?_,q _ l1⟩)
 exact aK (dW (vF h) 1) (by decide)
theorem o6 {h:Hd} (hh:h.Ok) (q:∀ H',H.le H'->Q (.bytes h.bs) H'):aM (n+4) .oF [h.o] H Q X:=by
 refine bA rfl (ER fun a b H1 S1=>?_)
 obtain⟨h1,h2,h3⟩:=hh
 have l0:([]++[UInt8.ofNat 1]).length<=1:=bD 1
 have l1:([]++[UInt8.ofNat 1]++vi h.t).length<=6:=du l0 (c_ h1) (by decide)
 have l2:([]++[UInt8.ofNat 1]++vi h.t++vi h.v).length<=11:=du l1 (c_ h2) (by decide)
 have l3:([]++[UInt8.ofNat 1]++vi h.t++vi h.v++vi h.c).length<=16:=du l2 (c_ h3) (by decide)
 have up:∀ {k},k < 2 ^ 32->k < 2 ^ 64:=fun h=>fq h (by decide)
 refine WT (i:=1) S1 (ai rfl) (bw rfl) (by decide) (by decide) fun H2 S2=>?_
 refine xT S2 (ai rfl) (bI (ai rfl) rfl) (up h1) (by decide) fun H2 S2=>?_
 refine xT S2 (ai rfl) (bI (ai rfl) rfl) (up h2) (aK l1 (by decide)) fun H2 S2=>?_
 refine xT S2 (ai rfl) (bI (ai rfl) rfl) (up h3) (aK l2 (by decide)) fun H2 S2=>?_
 have e1:[]++[UInt8.ofNat 1]++vi h.t++vi h.v++vi h.c=h.bs:=by rw[dF,dF];rfl
 rw[e1] at S2 l3
 exact zd S2 (ai rfl) (aK l3 (by decide)) (q _ S2.le)
theorem aby {vs:ah Nat} (hl:vs.length<=2) (h3:∀ v∈vs,v < 2 ^ 32):((vs.map vi).flatten).length<=5*vs.length:=by
 clear hl
 induction vs with
 |nil=>exact bD 0
 |cons x vs ih=>
  rw[gv,qA,bN,jf]
  have:=c_ (h3 x (uS ..))
  have:=ih fun v hv=>h3 v (List.mem_cons_of_mem _ hv)
  exact fu [(vi x).length,(List.map vi vs).flatten.length,vs.length] eI 0x122040515100040 0x52000 0x200515100 (by assumption) this aQ
theorem s6 {vs:ah Nat} (hv:me vs):(ids vs).length<=15:=by
 obtain⟨h1,h2,h3⟩:=hv
 exact du (c_ (cE h2 (by decide))) (aby h2 h3) (cw [vs.length] 0x51011020 0xf20005155240 rJ h2 aQ)
theorem OS {vs:ah Nat}{b:ax}{bs:ah aA} (hv:me vs) (S:iF H a b bs) (hl:bs.length<=1000) (q:∀ H',iF H' a b (bs++ids vs)->cH b H H'->Q .none H'):aM (n+4) .sS [.ref a,.bE (vs.map nv)] H Q X:=by
 refine bA rfl ?_
 obtain⟨h1,h2,h3⟩:=hv
 have hvl:vs.length < 2 ^ 32:=cE h2 (by decide)
 refine bo (bH (ai rfl) S.at_ rfl (aq (eV (eX (ai rfl) (by rw[cF];unfold line;exact cw [vs.length] bJ pT rJ h2 aQ)) (aW Nat.cast (cF ..))) aE) (wX S (fq hvl (by decide)) (aK hl (by decide)) fun H1 S1 k1=>⟨rfl,tG (ai rfl) rfl ?_⟩))
 have l5:(bs++vi vs.length).length<=1005:=du hl (c_ hvl) (by decide)
 refine Aq (fun r L H1=>∃ done rest,vs=done++rest/\r=rest.map nv/\L .gz=aa (.ref a)/\iF H1 a b (bs++vi vs.length++(done.map vi).flatten)/\cH b H H1) ?_ ?_ ⟨[],vs,rfl,rfl,rfl,by rw[BG,xo,fT];exact S1,k1⟩
 ·rintro v r L H2 ⟨done,rest,e1,e2,e3,S2,k2⟩
  refine⟨rfl,?_⟩
  cases rest with
  |nil=>contradiction
  |cons w rest=>
   cases e2
   have hd:done.length<=2:=by rw[e1,bN] at h2;exact cw [done.length,(w::rest).length] bJ rJ 0x22100040 h2 aQ
   have hd5:=aby hd fun v hv=>h3 v (by rw[e1];exact Nu _ hv)
   have hw:=h3 w (by rw[e1];exact t4 _ (uS ..))
   refine bo (bH (ai e3) S2.at_ rfl (aq (ai rfl) aE) (wX S2 (fq hw (by decide)) (du l5 hd5 (cw [done.length] 0x51011020 0xf42403300051503ed2340 rJ hd aQ)) fun H3 S3 k3=>⟨rfl,?_⟩))
   refine bG ⟨done++[w],rest,by rw[e1,dF];rfl,rfl,e3,?_,k2.trans k3⟩
   rw[f7,xA,<- dF,gv,BG,qA,xo,fT]
   exact S3
 ·rintro L H2 ⟨done,rest,e1,e2,e3,S2,k2⟩
  refine⟨rfl,?_⟩
  cases rest with
  |cons w rest=>contradiction
  |nil=>
   rw[fT] at e1;subst e1
   exact q _ (by rw[dF] at S2;exact S2) k2
theorem Eg {H0:Hp}{b:ax}{bs:ah aA}{vs:ah Nat}{rz:aj}{r:Ss}{Qo:PO}{Xo:fj} (hv:me vs) (S:GL H0 H a b bs) (p:PE (aM (n+4)) L H e (.ref a)) (z:PE (aM (n+4)) L H c (.bE (vs.map nv))) (hl:bs.length<=1000) (k:∀ H',GL H0 H' a b (bs++ids vs)->wSs (aM (n+4)) rz r L H' Qo Xo):wSs (aM (n+4)) rz (.cons (.expr (.bL .sS (.cons e (.cons c .nil)))) r) L H Qo Xo:=
 bo (bQ (aq p (aq z aE)) (OS hv S.at_ hl fun H' T kk=>⟨rfl,k _ (S.go T kk)⟩))
theorem td {vs:ah Nat} (hv:me vs):(Nd vs).length<=61:=du (s6 hv) (du (s6 .nil) (du (s6 .nil) (du (s6 .nil) (bD 1) (bD _)) (bD _)) (bD _)) (bD _)
theorem Ck {vs:ah Nat} (hv:me vs) (q:∀ H',H.le H'->Q (.bytes (Nd vs)) H'):aM (n+5) .x4 [Nc vs] H Q X:=by
 refine bA rfl (ER fun a b H1 S1=>?_)
 have l0:=s6 .nil
 have l1:([]++ids vs).length<=15:=s6 hv
 have l2:=du l1 l0 (bD _)
 have l3:=du l2 l0 (bD _)
 have l4:=du l3 l0 (bD _)
 refine Eg hv S1 (ai rfl) (bI (ai rfl) rfl) (by decide) fun H2 S2=>?_
 refine Eg .nil S2 (ai rfl) (bI (ai rfl) rfl) (aK l1 (by decide)) fun H2 S2=>?_
 refine Eg .nil S2 (ai rfl) (bI (ai rfl) rfl) (aK l2 (by decide)) fun H2 S2=>?_
 refine Eg .nil S2 (ai rfl) (bI (ai rfl) rfl) (aK l3 (by decide)) fun H2 S2=>?_
 refine aaX S2 (ai rfl) (bI (ai rfl) rfl) (aK l4 (by decide)) fun H2 S2=>?_
 have e1:[]++ids vs++ids []++ids []++ids []++(if ao=ag then[1] else[0])=Nd vs:=by rw[dF,dF,dF];rfl
 rw[e1] at S2
 exact zd S2 (ai rfl) (aK (td hv) (by decide)) (q _ S2.le)
theorem o7 {b t:Nat}{vs:ah Nat} (hb:b < 2 ^ 32) (ht:t < 2 ^ 32) (hv:me vs) (q:∀ H',H.le H'->Q (.bytes (fold b t vs)) H'):aM (n+6) .oG [.int b,.int t,Nc vs] H Q X:=by
 refine bA rfl (ER fun a b' H1 S1=>?_)
 have l0:([]++[UInt8.ofNat 4]).length<=1:=bD 1
 have l1:([]++[UInt8.ofNat 4]++vi b).length<=6:=du l0 (c_ hb) (by decide)
 have l2:([]++[UInt8.ofNat 4]++vi b++vi t).length<=11:=du l1 (c_ ht) (by decide)
 have l3:=td hv
 have l4:(lp (Nd vs)).length<=66:=du (c_ (cE l3 (by decide))) l3 (bD _)
 have l5:([]++[UInt8.ofNat 4]++vi b++vi t++lp (Nd vs)).length<=77:=du l2 l4 (bD _)
 have up:∀ {k},k < 2 ^ 32->k < 2 ^ 64:=fun h=>fq h (by decide)
 refine WT (i:=4) S1 (ai rfl) (bw rfl) (by decide) (by decide) fun H2 S2=>?_
 refine xT S2 (ai rfl) (ai rfl) (up hb) (by decide) fun H2 S2=>?_
 refine xT S2 (ai rfl) (ai rfl) (up ht) (aK l1 (by decide)) fun H2 S2=>?_
 refine bo (Ay (ai rfl) S2.at_.at_ rfl (D7 (bQ (aq (ai rfl) aE) (Ck hv fun H' l'=>?_))))
 have S3:=S2.up l'
 refine yd S3.at_ (aK l3 (by decide)) (aK l2 (by decide)) fun H4 T kk=>⟨rfl,?_⟩
 have S4:=S3.go T kk
 have e1:[]++[UInt8.ofNat 4]++vi b++vi t++lp (Nd vs)=fold b t vs:=by rw[dF,dF];rfl
 rw[e1] at S4 l5
 exact zd S4 (ai rfl) (aK l5 (by decide)) (q _ S4.le)
end
noncomputable def kF (t i:Nat):En:=⟨t,i,if i % 5=4 then 2 else 0,List.replicate (i % 3) (UInt8.ofNat ((t+i) % 256))⟩
theorem UQ {t i:Nat} (ht:t < 2 ^ 32) (hi:i < 2 ^ 32):(kF t i).Ok:=
 ⟨ht,hi,if h:i % 5=4 then .inr (a8 h) else .inl (bb h),by show(List.replicate _ _).length<=2;rw[nN];exact lT [] 0x31003101 [i] x9 0x22200 aQ⟩
noncomputable def ents:Nat->ah Nat->ah En
 |_,[]=>[]
 |i,t::ts=>kF t i::ents (i+1) ts
theorem fh:∀ (i:Nat) (ts:ah Nat),(ents i ts).length=ts.length
 |_,[]=>rfl
 |i,t::ts=>aW (· +1) (fh (i+1) ts)
theorem rE:∀ (i:Nat) (ts us:ah Nat),ents i (ts++us)=ents i ts++ents (i+ts.length) us
 |_,[],_=>rfl
 |i,t::ts,us=>aW (kF t i:: ·) ((rE (i+1) ts us).trans (by rw[dT,nP 1];rfl))
theorem rD:∀ (i:Nat) (ts:ah Nat) (k:Nat),(ents i ts)[k]? =ts[k]?.map (kF · (i+k))
 |_,[],_=>rfl
 |i,t::ts,0=>rfl
 |i,t::ts,k+1=>(rD (i+1) ts k).trans (by rw[dT,nP 1];rfl)
theorem mQ:∀ (i:Nat) (ts:ah Nat) (k:Nat),(ents i ts).take k=ents i (ts.take k)
 |_,[],k=>by rw[xg];exact xg
 |_,t::ts,0=>rfl
 |i,t::ts,k+1=>aW (kF t i:: ·) (mQ (i+1) ts k)
theorem pK:∀ (i:Nat) (ts:ah Nat) (k:Nat),(ents i ts).drop k=ents (i+k) (ts.drop k)
 |_,[],k=>by rw[BJ];exact BJ
 |_,t::ts,0=>rfl
 |i,t::ts,k+1=>(pK (i+1) ts k).trans (by rw[dT,nP 1];rfl)
theorem zw {i:Nat}{ts:ah Nat} (ht:∀ t∈ts,t < 2 ^ 32) (hi:i+ts.length < 2 ^ 32):∀ e∈ents i ts,e.Ok:=by
 intro e he
 obtain⟨k,hk⟩:=XG he
 rw[rD] at hk
 cases q:ts[k]? with
 |none=>rw[q] at hk;contradiction
 |some t=>
  rw[q] at hk;(injection hk with hk;subst hk)
  exact UQ (ht t (Bx q)) (cE (dW (fH (lX q)) i) hi)
theorem filter_some {α β:Type} (f:α->β) (xs:ah α):xs.filterMap (fun a=>aa (f a))=xs.map f:=by
 induction xs with
 |nil=>rfl
 |cons a xs ih=>exact aW (f a:: ·) ih
theorem N3 {α:Type}{src:V}{step:V->Hp->(aC V->Hp->Prop)->Prop}{Q:ah V->Hp->Prop}{H:Hp} (f:α->V) (g:α->aC V)
  (r:ah α) (hs:gO H src=aa (r.map f)) (h:∀ v∈r,∀ k:aC V->Hp->Prop,k (g v) H->step (f v) H k) (q:Q (r.filterMap g) H):Uh src (r.map f) step Q H:=
 ⟨fun l acc H'=>H'=H/\∃ done rest,r=done++rest/\l=rest.map f/\acc=done.filterMap g,⟨rfl,[],r,rfl,rfl,rfl⟩,fun acc H' ⟨e,done,rest,e1,e2,e3⟩=>by
  subst e e1 e3
  cases rest with
  |nil=>rw[fT] at hs q ⊢;exact⟨hs,q⟩
  |cons=>(contradiction),fun v l acc H' ⟨e,done,rest,e1,e2,e3⟩=>by
  subst e e3
  cases rest with
  |nil=>contradiction
  |cons w rest=>
   cases e2
   refine⟨hs,h w (by rw[e1];exact t4 _ (.head _)) _ ⟨rfl,done++[w],rest,by rw[e1,dF];rfl,rfl,?_⟩⟩
   rw[List.filterMap_append,GA]
   cases g w with
   |none=>exact(fT _).symm
   |some y=>rfl⟩
def Dx (C:CC) (elt:E) (tup:aj) (fL:ah Nm) (c:E) (L0:bZ):V->Hp->(aC V->Hp->Prop)->Prop:=fun v H2 k=>qK tup fL v L0 fun L1=>wE C c L1 H2 (fun x H3=>Got (cond c.yD (aa ag) (truth H3 x)) fun t=>
    cond t (wE C elt L1 H3 (fun y H4=>k (aa y) H4) Vq) (k au H3)) Vq
section
variable {C:CC}{L L0:bZ}{H:Hp}{Q:PV}{X:PX}{elt it cc:E}{tup fz:aj}{fL fv:ah Nm}{src v w u:V}{x:Nm}{vs:ah V}{α:Type}
theorem wR (f:α->V) (g:α->aC V) (xs:ah α) (p:PE C L H it src) (hs:gO H src=aa (xs.map f)) (hl:xs.length<=line) (hx:∀ a∈xs,∀ k:aC V->Hp->Prop,k (g a) H->Dx C elt tup fL cc (L.only fv) (f a) H k) (q:mk fz (xs.filterMap g) H Q):wE C (.comp fz elt tup fL it cc fv) L H Q X:=
 p _ _ ⟨_,hs,by rw[cF];exact hl,N3 f g xs hs hx q⟩
theorem aeo {k:aC V->Hp->Prop} (p:PE C (L0.set x v) H elt w) (q:k (aa w) H):Dx C elt ao [x] .none L0 v H k:=⟨ag,rfl,p _ _ q⟩
theorem aen {k:aC V->Hp->Prop} (h:fL.length=vs.length) (p:PE C (L0.sets fL vs) H elt w) (q:k (aa w) H):Dx C elt ag fL .none L0 (.tup vs) H k:=⟨h,ag,rfl,p _ _ q⟩
theorem RJ {k:aC V->Hp->Prop}{t:aj} (hn:cc.yD=ao) (c:PE C (L0.set x v) H cc u) (ht:truth H u=aa t) (p:PE C (L0.set x v) H elt w) (q:k (if t then aa w else au) H):Dx C elt ao [x] cc L0 v H k:=c _ _ ⟨t,by rw[hn];exact ht,by cases t;exact q;exact p _ _ q⟩
theorem ab_ {k:aC V->Hp->Prop}{t:aj} (h:fL.length=vs.length) (hn:cc.yD=ao) (c:PE C (L0.sets fL vs) H cc u) (ht:truth H u=aa t) (p:PE C (L0.sets fL vs) H elt w) (q:k (if t then aa w else au) H):Dx C elt ag fL cc L0 (.tup vs) H k:=⟨h,c _ _ ⟨t,by rw[hn];exact ht,by cases t;exact q;exact p _ _ q⟩⟩
theorem Hq (f g:α->V) (xs:ah α) (p:PE C L H it src) (hs:gO H src=aa (xs.map f)) (hl:xs.length<=line) (hx:∀ a∈xs,PE C ((L.only fv).set x (f a)) H elt (g a)):PE C L H (.comp ag elt ao [x] it .none fv) (.bE (xs.map g)):=
 fun Q X q=>wR f (fun a=>aa (g a)) xs p hs hl (fun a ha k hk=>aeo (hx a ha) hk) (by rw[filter_some];exact⟨by rw[cF];exact hl,q⟩)
theorem Hn (f:α->ah V) (g:α->V) (xs:ah α) (p:PE C L H it src) (hs:gO H src=aa (xs.map fun a=>.tup (f a))) (hl:xs.length<=line) (hf:∀ a∈xs,fL.length=(f a).length) (hx:∀ a∈xs,PE C ((L.only fv).sets fL (f a)) H elt (g a)):PE C L H (.comp ag elt ag fL it .none fv) (.bE (xs.map g)):=
 fun Q X q=>wR (fun a=>.tup (f a)) (fun a=>aa (g a)) xs p hs hl (fun a ha k hk=>aen (hf a ha) (hx a ha) hk) (by rw[filter_some];exact⟨by rw[cF];exact hl,q⟩)
theorem Qa {c:E}{b r:Ss}{rz:aj}{Qo:PO}{Xo:fj} (k:wE C c L H (fun h H2=>BX .none h ag fun i j=>BY x (fun L H Q X=>wSs C ao b L H Q X) (i9 C rz r Qo Xo) Xo (j-i).toNat i L H2) (fun c H1=>Xo c L H1)):wSs C rz (.cons (.forR x .none c b) r) L H Qo Xo:=k
end
theorem vn {C:CC}{L:bZ}{H:Hp}{Q:PO}{X:fj}{rz t:aj}{r a:Ss}{c d:E}{u:V} (p:PE C L H c u) (h:truth H u=aa t) (z:t=ag->∃ w,PE C L H d w/\truth H w=aa ao) (k:wSs C rz r L H Q X):wSs C rz (.cons (.dp (.b6 ag (.cons c (.cons d .nil))) a .nil) r) L H Q X:=by
 cases t
 ·exact bK (a9 (jl p h)) h k
 ·obtain⟨w,p2,h2⟩:=z rfl
  exact bK (a9 (dK p h (cP p2))) h2 k
noncomputable def GX (Q:PO) (J:bZ->Hp->Prop):PO:=mi J Q
section
variable {n:Nat}{x:Nm}{src:V}{b:Ss}{Q:PO}{X:fj}{L:bZ}{H:Hp}{α:Type}
theorem qo (f:α->V) (xs:ah α) (I:ah α->bZ->Hp->Prop) (h0:I [] L H)
  (it:∀ done L H,I done L H->gO H src=aa (xs.map f))
  (step:∀ done w rest L H,xs=done++w::rest->I done L H->wSs (aM n) ao b (L.set x (f w)) H (GX Q (I (done++[w]))) X)
  (fin:∀ L H,I xs L H->Q .next L H):Loop x src (xs.map f) (fun L H Q X=>wSs (aM n) ao b L H Q X) Q X L H:=
 ⟨fun l L H=>∃ done rest,xs=done++rest/\l=rest.map f/\I done L H,⟨[],xs,rfl,rfl,h0⟩,fun L H ⟨done,rest,e1,e2,h⟩=>by
  refine⟨it _ _ _ h,fin _ _ ?_⟩
  cases rest with
  |nil=>rw[e1,fT];exact h
  |cons=>(contradiction),fun v l L H ⟨done,rest,e1,e2,h⟩=>by
  cases rest with
  |nil=>contradiction
  |cons w rest=>
   cases e2
   refine⟨it _ _ _ h,dH (dj n) b (oE fun L1 H1 z=>⟨done++[w],rest,by rw[e1,dF];rfl,rfl,z⟩) (fun _ _ _ z=>z) (step done w rest L H e1 h)⟩⟩
theorem Ky {i:Int}{k:Nat} (c:Nat) (hc:k=c) (I:Nat->bZ->Hp->Prop) (h0:I 0 L H)
  (step:∀ m L H,m < c->I m L H->wSs (aM n) ao b (L.set x (.int (i+m))) H (GX Q (I (m+1))) X)
  (fin:∀ L H,I c L H->Q .next L H):BY x (fun L H Q X=>wSs (aM n) ao b L H Q X) Q X k i L H:=
 ⟨fun k i' L H=>∃ m:Nat,i'=i+m/\m+k=c/\I m L H,⟨0,(SN i).symm,(jF k).trans hc,h0⟩,fun _ L H ⟨m,_,e,h⟩=>fin _ _ (e▸h),fun k i' L H ⟨m,e1,e2,h⟩=>by
  subst e1
  exact dH (dj n) b (oE fun L1 H1 z=>⟨m+1,nQ i m 1,(Nat.succ_add_eq_add_succ m k).trans e2,z⟩) (fun _ _ _ z=>z) (step m L H (e2▸NB (sx k)) h)⟩
end
section
variable {n:Nat}{H:Hp}{Q:PV}{X:PX}{a:ax}{d rest:ah aA}{p m:Nat}
theorem Fj (ha:H a=aa (cu d p)) (hd:d.drop p=vi m++rest) (hl:d.length<=line) (hm:m < 2 ^ 64) (hr:m<=rest.length) (q:Q (.int m) (H.set a (cu d (p+(vi m).length)))):aM (n+4) .zM [.ref a] H Q X:=by
 refine bA rfl ?_
 have h1:=aW List.length hd
 have h3:=s_ hd (GU m)
 rw[fJ,bN] at h1
 refine bM (bH (ai rfl) ha rfl aE (tf ha hd hl hm ?_))
 refine bK (kn (ai rfl) (d_ (ai rfl) aN rfl aE fun _ _ q=>ZG aN hl q)) (cb (EN [] 0x10000105 [d.length,p,(vi m).length,m,rest.length] 0x11001100006001900110019011007002001 0x301201041001746 0x40300 0x40204502 0x201040 hr h1 h3 aQ)) ?_
 exact cy (ai rfl) q
theorem Ru (vs:ah Nat):vs.length<=((vs.map vi).flatten).length:=by
 induction vs with
 |nil=>exact bD 0
 |cons v vs ih=>rw[gv,qA,bN,jf];have:=qd v;exact fu [vs.length,(vi v).length,(List.map vi vs).flatten.length] eI 0x20104120040 pO 0x10120 ih this aQ
theorem OI (done:ah Nat) (w:Nat):((done++[w]).map vi).flatten=(done.map vi).flatten++vi w:=by
 rw[f7,xA,gv,BG,qA,xo,fT]
theorem KL {vs:ah Nat} (hv:me vs) (ha:H a=aa (cu d p)) (hd:d.drop p=ids vs++rest) (hl:d.length<=line) (q:Q (.bE (vs.map nv)) (H.set a (cu d (p+(ids vs).length)))):aM (n+5) .pz [.ref a] H Q X:=by
 refine bA rfl (bM (iI aE (bX _) fun b hb=>?_))
 obtain⟨h1,h2,h3⟩:=hv
 have Ku:a≠b:=a_ ha hb
 rw[ids,dF] at hd
 have h4:vs.length<=((vs.map vi).flatten++rest).length:=by rw[bN];exact aK (Ru vs) (ft ..)
 refine Qa (bQ (aq (ai rfl) aE) (Fj (bY Ku ha) hd hl (cw [vs.length] bJ pP rJ h2 aQ) h4 ⟨0,vs.length,rfl,rfl,by decide,by decide,by exact lE [vs.length] hM Io aQ,by exact cw [vs.length] bJ Im rJ h2 aQ,?_⟩))
 refine Ky vs.length (lT [] 0x200174101 [vs.length] Nb 258 aQ) (fun m L H1=>L .dB=aa (.ref a)/\L .kB=aa (.ref b)/\H1=(H.set b (.bE ((vs.take m).map nv))).set a (cu d (p+(vi vs.length++((vs.take m).map vi).flatten).length))) ⟨rfl,rfl,by rw[LP,BG,BG,xo,fT]⟩ ?_ ?_
 ·rintro m L H1 hm ⟨e3,e4,rfl⟩
  have ew:vs[m]? =aa vs[m]:=lK hm
  have et:vs.take (m+1)=vs.take m++[vs[m]]:=(List.take_append_getElem hm).symm
  have ev:vs=vs.take m++vs[m]::vs.drop (m+1):=by rw[List.getElem_cons_drop,I6]
  generalize vs[m]=w at et ev
  generalize vs.take m=done at et ev
  generalize vs.drop (m+1)=rs at ev
  have hd2:d.drop (p+(vi vs.length++(done.map vi).flatten).length)=vi w++((rs.map vi).flatten++rest):=fo (by
   rw[hd,dF];refine aW (_++ ·) ?_
   rw[ev,f7,xA,dF,gv,qA,dF])
  have hw:w < 2 ^ 64:=fq (h3 w (by rw[ev];exact t4 _ (uS ..))) (by decide)
  refine bM (bH (ai e3) aN rfl aE (tf aN hd2 hl hw ?_))
  rw[Hp.set_set]
  have hB:∀ o:Mo,((H.set b (.bE (done.map nv))).set a o) b=aa (.bE (done.map nv)):=fun o=>bY Ku.symm aN
  have uX:(done.map nv).length < line:=by rw[cF];rw[ev,bN] at h2;unfold line;exact cw [done.length,(w::rs).length] bJ rK 0x22100040 h2 aQ
  have hp:p+(vi vs.length++(done.map vi).flatten).length+(vi w).length=p+(vi vs.length++((done++[w]).map vi).flatten).length:=by rw[OI,<- dF,bN (bs:=vi w),dT]
  generalize p+(vi vs.length++(done.map vi).flatten).length+(vi w).length=p' at hp ⊢
  have t1:=PR (hB (cu d p')) (fH uX)
  refine vn (ai e4) t1 (fun hz=>?_) (bo (oW (ai e4) (hB _) (ai rfl) uX ⟨rfl,bG ⟨e3,e4,?_⟩⟩))
  ·rcases XM done with rfl |⟨d0,u,rfl⟩
   ·contradiction
   ·rw[I7] at hB ev
    rw[ev,dF,Nv] at h1
    have hu:u < w:=X9 h1.2.1 (uS ..)
    rw[I7]
    exact⟨_,WZ (ai rfl) (vr (ai e4) (hB _) (by rw[f7];exact So)),cb (cw [w,u] mD 0x10100136 257 hu aQ)⟩
  rw[et,<- hp,set_comm Ku,Hp.set_set,f7];rfl
 ·rintro L H1 ⟨e3,e4,rfl⟩
  rw[sE]
  refine bC (rb e4 (bY Ku.symm aN) (cy (ai rfl) ?_))
  rw[set_drop Ku,pM hb]
  exact q
end
section
variable {n p m:Nat}{rz:aj}{r:Ss}{L:bZ}{H:Hp}{Q:PO}{X:fj}{a:ax}{d rest:ah aA}{e:E}{x:Nm}
theorem HF (z:PE (aM (n+1)) L H e (.bytes d)) (hl:d.length<=line) (k:∀ a,H a=au->wSs (aM (n+1)) rz r (L.set x (.ref a)) (H.set a (cu d 0)) Q X):wSs (aM (n+1)) rz (.cons (.bz x (.new ao .Cursor (.cons e .nil))) r) L H Q X:=
 bM (lV (aq z aE) rfl fun a ha=>OX aN hl ⟨rfl,by rw[Hp.set_set];exact k a ha⟩)
theorem wW (z:PE (aM (n+3)) L (H.set a (cu d p)) e (.ref a)) (hd:d.drop p=vi m++rest) (hl:d.length<=line) (hm:m < 2 ^ 64) (k:wSs (aM (n+3)) rz r (L.set x (nv m)) (H.set a (cu d (p+(vi m).length))) Q X):wSs (aM (n+3)) rz (.cons (.bz x (.bk e .eJ .nil)) r) L (H.set a (cu d p)) Q X:=
 bM (bH z aN rfl aE (tf aN hd hl hm (by rw[Hp.set_set];exact k)))
theorem Zv {b:ah aA} (z:PE (aM (n+4)) L (H.set a (cu d p)) e (.ref a)) (hd:d.drop p=lp b++rest) (hl:d.length<=line) (hm:b.length < 2 ^ 32) (k:wSs (aM (n+4)) rz r (L.set x (.bytes b)) (H.set a (cu d (p+(lp b).length))) Q X):wSs (aM (n+4)) rz (.cons (.bz x (.bk e .jJ .nil)) r) L (H.set a (cu d p)) Q X:=
 bM (bH z aN rfl aE (yg aN hd hl hm (by rw[Hp.set_set];exact k)))
theorem zA {vs:ah Nat} (hv:me vs) (z:PE (aM (n+5)) L (H.set a (cu d p)) e (.ref a)) (hd:d.drop p=ids vs++rest) (hl:d.length<=line) (k:wSs (aM (n+5)) rz r (L.set x (.bE (vs.map nv))) (H.set a (cu d (p+(ids vs).length))) Q X):wSs (aM (n+5)) rz (.cons (.bz x (.bL .pz (.cons e .nil))) r) L (H.set a (cu d p)) Q X:=
 bM (bQ (aq z aE) (KL hv aN hd hl (by rw[Hp.set_set];exact k)))
theorem Zw {b:aj} (z:PE (aM (n+1)) L (H.set a (cu d p)) e (.ref a)) (hd:d.drop p=(if b then[1] else[0])++rest) (hl:d.length<=line) (k:wSs (aM (n+1)) rz r (L.set x (.bool b)) (H.set a (cu d (p+1))) Q X):wSs (aM (n+1)) rz (.cons (.bz x (.bk e .CY .nil)) r) L (H.set a (cu d p)) Q X:=
 bM (bH z aN rfl aE (V9 aN hd hl (by rw[Hp.set_set];exact k)))
theorem AO (z:PE (aM (n+1)) L (H.set a (cu d p)) e (.ref a)) (hl:d.length<=line) (hp:d.length<=p) (k:wSs (aM (n+1)) rz r L (H.set a (cu d p)) Q X):wSs (aM (n+1)) rz (.cons (.expr (.bk e .qE .nil)) r) L (H.set a (cu d p)) Q X:=
 bo (bH z aN rfl aE (Nn aN hl hp ⟨rfl,k⟩))
theorem vG {xs:ah aA} (h:d.drop p=xs):d.length<=p+xs.length:=by
 rw[<- h,fJ];exact lT [] vM [d.length,p] 0x11011020011001103002 oH aQ
end
section
variable {n:Nat}{H:Hp}{Q:PV}{X:PX}{a:ax}{d rest:ah aA}{p m:Nat}
theorem Cp {vs:ah Nat} (hv:me vs) (q:∀ H',H.le H'->Q (Nc vs) H'):aM (n+6) .x5 [.bytes (Nd vs)] H Q X:=by
 have hl:(Nd vs).length<=line:=aK (td hv) (by decide)
 have e0:(Nd vs).drop 0=ids vs++(ids []++(ids []++(ids []++[0]))):=rfl
 have e1:=fo e0
 have e2:=fo e1
 have e3:=fo e2
 have e4:=fo e3
 refine bA rfl (HF (ai rfl) hl fun a ha=>?_)
 refine zA hv (ai rfl) e0 hl (zA .nil (ai rfl) e1 hl (zA .nil (ai rfl) e2 hl (zA .nil (ai rfl) e3 hl (Zw (b:=false) (rest:=[]) (ai rfl) e4 hl (AO (ai rfl) hl (vG e4) ?_)))))
 exact cy (Eu hv rfl (aq (ai rfl) (aq (ai rfl) (aq (ai rfl) (aq (ai rfl) (aq (ai rfl) aE)))))) (q _ (iC ha))
theorem A8 {e:En} (h:e.Ok) (q:∀ H',H.le H'->Q e.v H'):aM (n+6) .vI [.bytes e.enc] H Q X:=by
 have hl:e.enc.length<=line:=aK (vF h) (by decide)
 have e0:e.enc.drop 0=vi e.t++(vi e.i++(vi e.k++lp e.d)):=rfl
 have e1:=fo e0
 have e2:=fo e1
 have e3:=fo e2
 have up:∀ {k},k < 2 ^ 32->k < 2 ^ 64:=fun h=>fq h (by decide)
 refine bA rfl (HF (ai rfl) hl fun a ha=>?_)
 refine wW (ai rfl) e0 hl (up h.t) (wW (ai rfl) e1 hl (up h.i) (wW (ai rfl) e2 hl (cE h.k2 (by decide)) ?_))
 refine bK (v:=.bool ao) ?_ rfl (Zv (rest:=[]) (ai rfl) (by rw[fT];exact e3) hl (cE h.d (by decide)) (AO (ai rfl) hl (vG e3) ?_))
 ·rcases h.k with k |k
  ·exact gF (a9 (jl (kI (ai rfl) (bw rfl)) (mY (cw [e.k] 0x11011003001100030001 0x20015 0x2002 k aQ)))) (by rw[k];rfl)
  ·exact gF (a9 (dK (kI (ai rfl) (bw rfl)) (xO (cw [e.k] 0x110190030001 0x200156 0x22002 k aQ)) (cP (kI (ai rfl) (bw rfl))))) (by rw[k];rfl)
 ·exact cy (vt (aq (ai rfl) (aq (ai rfl) (aq (ai rfl) (aq (ai rfl) aE))))) (q _ (iC ha))
theorem kP {x:V}{es:ah En} (hx:listOf H x=aa (es.map En.v)) (hl:es.length<=1000) (q:Q (.bE (es.map En.row)) H):aM (n+2) .j6 [x] H Q X:=
 bA rfl (cy (Hq En.v En.row es (ai rfl) hx (aK hl (by decide)) fun _ _=>jX (ai rfl) rfl aE fun _ _ q=>ZJ q) q)
theorem o5 {x:V}{es:ah En} (hx:listOf H x=aa (es.map En.row)) (hl:es.length<=1000) (q:Q (.bE (es.map En.v)) H):aM (n+2) .rx [x] H Q X:=
 bA rfl (cy (Hn (fun e:En=>[nv e.t,nv e.i,nv e.k,.bytes e.d]) En.v es (ai rfl) hx (aK hl (by decide)) (fun _ _=>rfl) fun _ _=>vt (aq (ai rfl) (aq (ai rfl) (aq (ai rfl) (aq (ai rfl) aE))))) q)
theorem Qf (z:Nat) (u:aA):(List.replicate z [u]).flatten=List.replicate z u:=by
 induction z with
 |zero=>rfl
 |succ z ih=>rw[List.replicate_succ,qA,ih];rfl
theorem uF {t i c:Nat} (ht:t < 2 ^ 32) (hi:i < 2 ^ 32) (hc:c<=1000) (q:Q (.bE ((ents i (List.replicate c t)).map En.row)) H):aM (n+1) .vA [.int t,.int i,.int c] H Q X:=by
 refine bA rfl (bM (iI aE (bX _) fun b hb=>?_))
 refine Yw (i:=i) (ai rfl) (jC (ai rfl) (ai rfl)) rfl (lE [i] hM Io aQ) (cw [i] bJ Im oa hi aQ) (lE [i,c] hM 0x101001440000000000000008383 aQ) (fu [i,c] eI 0x40000000000000008310100144 oa 0x3e823100 hi hc aQ) ?_
 refine Ky c (lT [] 0x1101001474102 [i,c] Nb 0x10202 aQ) (fun m L H1=>L .bO=aa (.int t)/\L .f9=aa (.ref b)/\H1=H.set b (.bE ((ents i (List.replicate m t)).map En.row))) ⟨rfl,rfl,rfl⟩ ?_ ?_
 ·rintro m L H1 hm ⟨e3,e4,rfl⟩
  have hl:((ents i (List.replicate m t)).map En.row).length < line:=by rw[cF,fh,nN];unfold line;exact fu [m,c] eI rK 0x3e823100 rG hc hm aQ
  have i1:(i+m) % 3 < 3:=dE _ (by decide)
  have i2:(t+(i+m)) % 256 < 256:=dE _ (by decide)
  have en:ents i (List.replicate (m+1) t)=ents i (List.replicate m t)++[kF t (i+m)]:=by
   rw[List.replicate_succ',rE,nN];rfl
  have key:∀ L2 kk,L2 .bO=aa (.int t)->L2 .f9=aa (.ref b)->L2 .xi=aa (.int (i+m))->L2 .cM=aa (nv kk)->kk=(kF t (i+m)).k->
    wSs (aM n) ao (.cons (.expr (.bk (.aB .f9) .dg (.cons (.tuple (.cons (.aB .bO) (.cons (.aB .xi) (.cons (.aB .cM) (.cons (.bR .mul (.bc .bytes (.cons (.list ag (.cons (.bR .mod (.bR .add (.aB .bO) (.aB .xi)) (.int 256)) .nil)) .nil)) (.bR .mod (.aB .xi) (.int 3))) .nil))))) .nil))) .nil) L2 (H.set b (.bE ((ents i (List.replicate m t)).map En.row)))
     (GX (i9 (aM n) ag (.cons (.freeze .f9) (.cons (.ret (.aB .f9)) .nil)) (Cc Q) (wJ X)) (fun L H1=>L .bO=aa (.int t)/\L .f9=aa (.ref b)/\H1=H.set b (.bE ((ents i (List.replicate (m+1) t)).map En.row)))) (wJ X):=by
   rintro L2 _ k1 k2 k3 k4 rfl
   have b1:PE (aM n) L2 (H.set b (.bE ((ents i (List.replicate m t)).map En.row))) (.bR .mod (.bR .add (.aB .bO) (.aB .xi)) (.int 256)) (.int (((t+(i+m)) % 256:Nat):Int)):=rj (jC (ai k1) (ai k3)) aH (by decide)
   have b2:=oz (cG (aq b1 aE) (aT rfl)) rfl (Ol i2) (aT rfl)
   have b3:PE (aM n) L2 (H.set b (.bE ((ents i (List.replicate m t)).map En.row))) (.bR .mod (.aB .xi) (.int 3)) (.int (((i+m) % 3:Nat):Int)):=rj (ai k3) aH (by decide)
   have b4:=U9 b2 b3 (lT [] 0x31100043102 [i,m] hM 0x301023 aQ) (gh [] 0x31100043102 [i,m] bJ 0x64133013 0x32301 i1 aQ) nofun (aT rfl)
   rw[Int.toNat_natCast,Qf] at b4
   refine bo (oW (ai k2) aN (dw (aq (ai k1) (aq (ai k3) (aq (ai k4) (aq b4 aE)))) (aT rfl)) hl ⟨rfl,bG ⟨k1,k2,?_⟩⟩)
   rw[Hp.set_set,en,f7];rfl
  refine aR (bw rfl) (q_ (z:=(((i+m) % 5:Nat):Int)=4) (cU (show PE _ _ _ _ (.int (((i+m) % 5:Nat):Int)) from rj (i:=(i:Int)+m) (j:=5) (ai rfl) aH (by decide)) aH) (fun h=>aR (bw rfl) (bG (bC (key _ 2 e3 e4 rfl rfl (a8 (gh [] 0x51100043102 [i,m] DB 0x42302 0x423015 h aQ)).symm)))) fun h=>bG (bC (key _ 0 e3 e4 rfl rfl (bb (gh [] 0x51100043102 [i,m] AS 0x423026 0x4230156 h aQ)).symm)))
 ·rintro L H1 ⟨e3,e4,rfl⟩
  exact bC (rb e4 aN (cy (ai rfl) (by rw[pM hb];exact q)))
theorem PZ {es:ah En} (he:∀ e∈es,e.Ok):(es.map En.size).sum<=42*es.length:=by
 induction es with
 |nil=>exact bD 0
 |cons e es ih=>
  have:=size_le (he e (.head _))
  have:=ih fun x hx=>he x (.tail _ hx)
  rw[gv,LK,jf];exact fu [e.size,(List.map En.size es).sum,es.length] eI 0x122042a15100040 0x2a13000 0x202a15100 (by assumption) this aQ
theorem Fp {x:V}{es:ah En}{lim:Int} (hx:listOf H x=aa (es.map En.v)) (he:∀ e∈es,e.Ok) (hl:es.length<=1000) (hm:42000<=lim) (q:Q (.bE (es.map En.v)) H):aM (n+3) .kN [x,.int lim] H Q X:=by
 refine bA rfl (aR aH (bM (iI aE (bX _) fun b hb=>?_)))
 refine tG (ai rfl) (rq hb hx) (qo En.v es (fun done L H1=>L .xn=aa (.int lim)/\L .lA=aa (.ref b)/\L .D0=aa (.int ((done.map En.size).sum:Nat))/\H1=H.set b (.bE (done.map En.v))) ⟨rfl,rfl,rfl,rfl⟩ ?_ ?_ ?_)
 ·rintro done L H1 ⟨e3,e4,e5,rfl⟩;exact rq hb hx
 ·rintro done w rs L H1 e1 ⟨e3,e4,e5,rfl⟩
  have hw:w.Ok:=he w (by rw[e1];exact t4 _ (uS ..))
  have hs:=PZ (es:=done++[w]) fun x hx=>he x (by rw[e1];rcases iS.mp hx with h |h;exact Nu _ h;exact t4 _ (by rw[eR.mp h];exact uS ..))
  have abC:((done++[w]).map En.size).sum=(done.map En.size).sum+w.size:=by rw[f7,List.sum_append];rfl
  have hle:done.length+1<=1000:=by rw[e1,bN,jf] at hl;exact cw [done.length,rs.length] bJ 0x3e823120040 0x3e823121040040 hl aQ
  have uX:(done.map En.v).length < line:=by rw[cF];unfold line;exact cw [done.length] bJ rK 0x3e823120040 hle aQ
  rw[bN,Bz,abC] at hs
  refine Ek e5 (jX (ai rfl) rfl aE fun _ _ q=>V7 hw q) (vn (ai e4) (PR aN (fH uX)) (fun _=>⟨_,kn (ai rfl) (ai e3),cb (EN [lim] 0 [(List.map En.size done).sum,w.size,done.length] 0x112a10110110050001 0x10100140046 0xa410233 0x122042a15100040 0x3e823122040 hm hs hle aQ)⟩) (bo (oW (ai e4) aN (ai rfl) uX ⟨rfl,bG ⟨e3,e4,?_,?_⟩⟩)))
  ·rw[abC];rfl
  ·rw[Hp.set_set,f7];rfl
 ·rintro L H1 ⟨e3,e4,e5,rfl⟩
  exact bC (rb e4 aN (cy (ai rfl) (by rw[pM hb];exact q)))
end
structure Sg where
 cnt:Nat
 bi:Nat
 bt:Nat
 cf:aC (ah Nat)
 hd:Hd
 es:ah En
 pend:ah En
noncomputable def cfO:aC (ah Nat)->V
 |none=>.none
 |some vs=>Nc vs
noncomputable def Sg.o (σ:Sg) (e p:ax):Mo:=.inst .iY [(.eK,nv σ.cnt),(.cD,nv σ.bi),(.bU,nv σ.bt),(.dq,cfO σ.cf),(.cO,σ.hd.o),(.aS,.ref e),(.ip,.ref p)]
structure fK (H0 H:Hp) (s e p:ax) (σ:Sg):Prop where
 le:H0.le H
 s0:H0 s=au
 e0:H0 e=au
 p0:H0 p=au
 at_:H s=aa (σ.o e p)
 es:H e=aa (.bE (σ.es.map En.v))
 pd:H p=aa (.bE (σ.pend.map En.v))
 ne:e≠p
 Vw:σ.es.length<=10000
 le2:σ.pend.length<=10000
def gp (H0 H:Hp) (s:ax) (σ:Sg):Prop:=∃ e p,fK H0 H s e p σ
theorem eY {H:Hp}{a b:ax}{o:Mo} (k:H b=au) (h:H a=aa o):a≠b:=a_ h k
theorem aY {H:Hp}{a b:ax}{o p:Mo} (h:H a=aa o) (k:H b=aa p) (n:o≠p):a≠b:=fun e=>n (eH (by rw[<- h,e,k]))
section
variable {C:CC}{L:bZ}{H:Hp}{e c:E}{ad:ax}{xs:ah V}{k:Nat}{Qv:PV}{Xv:PX}
theorem YX (p:PE C L H e (.ref ad)) (g:H ad=aa (.bE xs)) (z:PE C L H c (.int k)) (hk:k<=xs.length) (hl:xs.length<=line) (q:∀ a,H a=au->Qv (.ref a) (H.set a (.bE (xs.take k)))):wE C (.slice ao e .none c) L H Qv Xv:=
 p _ _ (z _ _ ⟨xs,ES g,0,k,hl,rfl,gV rfl hk hl,aK (gm _ _ _) hl,q⟩)
end
section
variable {n:Nat}{H0 H:Hp}{Q:PV}{X:PX}{s e p:ax}{σ:Sg}
theorem fK.se (S:fK H0 H s e p σ):s≠e:=aY S.at_ S.es nofun
theorem fK.sp (S:fK H0 H s e p σ):s≠p:=aY S.at_ S.pd nofun
theorem fK.more {H':Hp} (S:fK H0 H s e p σ) (l:H.le H'):fK H0 H' s e p σ:=⟨le_trans S.le l,S.s0,S.e0,S.p0,l _ _ S.at_,l _ _ S.es,l _ _ S.pd,S.ne,S.Vw,S.le2⟩
theorem fK.turn {τ:Sg} (S:fK H0 H s e p σ) (h1:τ.es=σ.es) (h2:τ.pend=σ.pend):fK H0 (H.set s (τ.o e p)) s e p τ:=
 ⟨f5 S.le S.s0,S.s0,S.e0,S.p0,aN,by rw[h1];exact bY S.se.symm S.es,by rw[h2];exact bY S.sp.symm S.pd,S.ne,by rw[h1];exact S.Vw,by rw[h2];exact S.le2⟩
theorem fK.push {es:ah En} (S:fK H0 H s e p σ) (hl:es.length<=10000):fK H0 (H.set e (.bE (es.map En.v))) s e p {σ with es:=es}:=
 ⟨f5 S.le S.e0,S.s0,S.e0,S.p0,bY S.se S.at_,aN,bY S.ne.symm S.pd,S.ne,hl,S.le2⟩
theorem fK.swap {es:ah En}{e1:ax} (S:fK H0 H s e p σ) (he:H e1=au) (hl:es.length<=10000):fK H0 ((H.set e1 (.bE (es.map En.v))).set s (Sg.o {σ with es:=es} e1 p)) s e1 p {σ with es:=es}:=
 have n:=a_ S.at_ he
 ⟨f5 (f5 S.le (none_le S.le he)) S.s0,S.s0,none_le S.le he,S.p0,aN,bY n.symm aN,bY S.sp.symm (bY (a_ S.pd he) S.pd),(a_ S.pd he).symm,hl,S.le2⟩
theorem fK.aaT {p1:ax}{hd:Hd} (S:fK H0 H s e p σ) (he:H p1=au):fK H0 ((H.set p1 (.bE [])).set s (Sg.o {σ with pend:=[],hd:=hd} e p1)) s e p1 {σ with pend:=[],hd:=hd}:=
 have n:=a_ S.at_ he
 ⟨f5 (f5 S.le (none_le S.le he)) S.s0,S.s0,S.e0,none_le S.le he,aN,bY S.se.symm (bY (a_ S.es he) S.es),bY n.symm aN,a_ S.es he,S.Vw,bX _⟩
theorem XC (hs:H s=au) (q:∀ H',gp H H' s ⟨0,0,0,au,⟨0,0,0⟩,[],[]⟩->Q .none H'):aM (n+2) .kr [.ref s] (H.set s (.inst .iY [])) Q X:=by
 refine bA rfl ?_
 refine cT aH (ai rfl) aN (aT rfl) (by decide) ?_;refine bj aH (ai rfl) (aT rfl) (by decide) ?_;refine bj aH (ai rfl) (aT rfl) (by decide) ?_;refine bj iP (ai rfl) (aT rfl) (by decide) ?_
 refine cT (oy (aq aH (aq aH (aq aH aE)))) (ai rfl) aN (aT rfl) (by decide) ?_
 refine eP (iI aE (bX _) fun e he=>?_)
 rw[Hp.set_set,Hp.set_set] at he
 rw[Hp.set_set,Hp.set_set]
 have hse:=a_ aN he
 have he0:=none_le (iC hs) he
 refine yC (ai rfl) (bY hse aN) (aT rfl) (by decide) ?_
 refine eP (iI aE (bX _) fun p hp=>?_)
 have hp0:=none_le (f5 (f5 (iC hs) he0) hs) hp
 have hsp:=a_ aN hp
 have hep:=eY hp (bY hse.symm aN)
 exact yC (ai rfl) (bY hsp aN) (aT rfl) (by decide) (bG (q _ ⟨e,p,f5 (f5 (f5 (f5 (iC hs) he0) hs) hp0) hs,hs,he0,hp0,aN,bY hse.symm (bY hep (bY hse.symm aN)),bY hsp.symm aN,hep,bX _,bX _⟩))
noncomputable def gT (bi:Nat) (es:ah En) (x:En):aC (ah En):=if bi+1<=x.i/\x.i<=bi+1+es.length then aa (es.take (x.i-bi-1)++[x]) else au
noncomputable def fb (bi:Nat):ah En->ah En->aC (ah En)
 |es,[]=>aa es
 |es,x::xs=>(gT bi es x).bind fun il=>fb bi il xs
theorem qe (bi:Nat):∀ (xs ys es:ah En),fb bi es (xs++ys)=(fb bi es xs).bind fun il=>fb bi il ys
 |[],ys,es=>rfl
 |x::xs,ys,es=>by
  show(gT bi es x).bind _=((gT bi es x).bind _).bind _
  cases gT bi es x with
  |none=>rfl
  |some il=>exact qe bi xs ys il
theorem G6 {bi:Nat}{es il:ah En}{x:En} (h:gT bi es x=aa il):(bi+1<=x.i/\x.i<=bi+1+es.length)/\es.take (x.i-bi-1)++[x]=il:=by
 by_cases c:bi+1<=x.i/\x.i<=bi+1+es.length
 ·exact⟨c,eH ((a8 c).symm.trans h)⟩
 ·cases(bb c).symm.trans h
theorem N9 {bi:Nat}{es:ah En}{x:En} (h:gT bi es x=au):¬ (bi+1<=x.i/\x.i<=bi+1+es.length):=fun c=>by cases(a8 c).symm.trans h
theorem V1 {x:En}{il:ah En} (S:fK H0 H s e p σ) (hx:gT σ.bi σ.es x=aa il) (hl:σ.es.length < 9000) (q:∀ e1 H',fK H0 H' s e1 p {σ with es:=il}->Q .none H'):aM (n+1) .jH [.ref s,x.v] H Q X:=by
 obtain⟨hc,rfl⟩:=G6 hx
 have lP:(σ.es.map En.v).length=σ.es.length:=cF ..
 have tL:(σ.es.map En.v).length<=line:=by unfold line;exact fu [(List.map En.v σ.es).length,σ.es.length] eI pT 0x232823101 pS hl lP aQ
 have ht:(σ.es.take (x.i-σ.bi-1)).length<=σ.es.length:=by rw[eW];exact je ..
 have h9:(σ.es.take (x.i-σ.bi-1)).length < line:=by unfold line;exact fu [(List.take (x.i-σ.bi-1) σ.es).length,σ.es.length] eI rK 0x232823101 dP hl ht aQ
 have lW:(σ.es.take (x.i-σ.bi-1)++[x]).length<=10000:=by rw[bN,Bz];exact fu [(List.take (x.i-σ.bi-1) σ.es).length,σ.es.length] eI 0x271023120040 0x232823101 dP hl ht aQ
 have key:∀ e1 H1 (es0:ah En) (L2:bZ),fK H0 H1 s e1 p {σ with es:=es0}->L2 .aG=aa (.ref s)->L2 .fZ=aa x.v->es0=σ.es.take (x.i-σ.bi-1)->wSs (aM n) ag (.cons (.expr (.bk (.aV (.aB .aG) .aS) .dg (.cons (.aB .fZ) .nil))) .nil) L2 H1 (Cc Q) (wJ X):=by
  rintro e1 H1 _ L2 S1 k1 k2 rfl
  refine bo (oW (aP (ai k1) S1.at_ rfl) S1.es (ai k2) (by rw[cF];exact h9) ⟨rfl,bG (q e1 _ ?_)⟩)
  have:=S1.push lW
  rw[f7] at this
  exact this
 refine bA rfl (aR (jb (jb (bI (ai rfl) rfl) (aP (ai rfl) S.at_ rfl)) aH) ?_)
 have e1:((x.i:Int)-σ.bi-1)=((x.i-σ.bi-1:Nat):Int):=by exact gh [] 0x1230010000203 [x.i,σ.bi,σ.es.length] 0x1101100000600110110011000008001100110011000009012020110001100060011011000011000800190019001100000901202001011 0x50112101001775 0x20121044000001210407 hc aQ
 rw[e1]
 refine bK (eL (ai rfl) aH) (cb (lT [] 0x1220010000202 [x.i,σ.bi] mn 0x240146 aQ)) ?_
 refine bK (kn (ai rfl) (ox (aP (ai rfl) S.at_ rfl) S.es tL)) (cb (EN [] 0x1240020100204 [(List.map En.v σ.es).length,x.i,σ.bi,σ.es.length] 0x11001101901900070011001 0x60100146 0x30122044100101220407 0x30002 0x60112201101775 hc lP e1 aQ)) ?_
 refine q_ (eL (ai rfl) (ox (aP (ai rfl) S.at_ rfl) S.es tL)) (fun hp=>?_) (fun hp=>bG (bC (key e H σ.es _ S rfl rfl (mu (nk [] 0x1240020100204 [σ.es.length,x.i,σ.bi,(List.map En.v σ.es).length] 0x110019011040021 0x60000 770 0x30160146 lP hp aQ)).symm)))
 refine eP (YX (aP (ai rfl) S.at_ rfl) S.es (ai rfl) (gh [] 0x1230010000203 [x.i,σ.bi,(List.map En.v σ.es).length] bJ 0x20500 0x2015014 hp aQ) tL fun e1 he1=>yC (ai rfl) (bY (a_ S.at_ he1) S.at_) (aT rfl) (by decide) (bG (bC (key e1 _ _ _ ?_ rfl rfl rfl))))
 rw[<- sC]
 exact S.swap he1 (fu [(List.take (x.i-σ.bi-1) σ.es).length,σ.es.length] eI 0x271023000 0x232823101 dP hl ht aQ)
theorem IA {x:En} (S:fK H0 H s e p σ) (hx:gT σ.bi σ.es x=au) (B8:x.Ok) (q:X .eT H):aM (n+1) .jH [.ref s,x.v] H Q X:=by
 have hc:=N9 hx
 have hl0:=S.Vw
 have hi:=B8.i
 have lP:(σ.es.map En.v).length=σ.es.length:=cF ..
 have tL:(σ.es.map En.v).length<=line:=by unfold line;exact fu [(List.map En.v σ.es).length,σ.es.length] eI pT 0x271023100 pS hl0 lP aQ
 refine bA rfl (aR (jb (jb (bI (ai rfl) rfl) (aP (ai rfl) S.at_ rfl)) aH) ?_)
 refine q_ (eL (ai rfl) aH) (fun h=>ot la q) fun h=>bG (bC ?_)
 exact c5 (kn (ai rfl) (ox (aP (ai rfl) S.at_ rfl) S.es tL)) (dD (GK [(List.map En.v σ.es).length,x.i,σ.bi,σ.es.length] 0x11000011001107001101100000070041031011 0x12201101770014 0x301220441001012204076 0x30002 0x2122011017746 hc lP h aQ)) (ot (JN (JN la (Qh (bI (ai rfl) rfl) (by unfold small;lia)) (by decide)) la (by decide)) q)
end
section
variable {n q m:Nat}{H0 H:Hp}{Q:PV}{X:PX}{s a e p:ax}{σ τ:Sg}{d rest:ah aA}{C:CC}{L:bZ}{rz:aj}{r:Ss}{c:E}{f:Nm}{y:V}{Qo:PO}{Xo:fj}
theorem fK.other {o:Mo} (S:fK H0 H s e p σ) (A:H a=aa (cu d q)) (a0:H0 a=au):fK H0 (H.set a o) s e p σ:=
 ⟨f5 S.le a0,S.s0,S.e0,S.p0,bY (aY S.at_ A nofun) S.at_,bY (aY S.es A nofun) S.es,bY (aY S.pd A nofun) S.pd,S.ne,S.Vw,S.le2⟩
theorem WU (S:fK H0 H s e p σ) (A:H a=aa (cu d q)) (a0:H0 a=au) (hd:d.drop q=vi m++rest) (hl:d.length<=line) (hm:m < 2 ^ 64) (k:∀ K,fK H0 K s e p σ->K a=aa (cu d (q+(vi m).length))->Q (nv m) K):aM (n+3) .jz [.ref a] H Q X:=
 tf A hd hl hm (k _ (S.other A a0) aN)
theorem JF (S:fK H0 H s e p σ) (A:H a=aa (cu d q)) (z:PE C L H c (.ref s)) (h:τ.o e p=.inst .iY (cL [(.eK,nv σ.cnt),(.cD,nv σ.bi),(.bU,nv σ.bt),(.dq,cfO σ.cf),(.cO,σ.hd.o),(.aS,.ref e),(.ip,.ref p)] f y)) (h1:τ.es=σ.es) (h2:τ.pend=σ.pend) (hf:f∈fieldsOf .iY)
  (k:∀ K,fK H0 K s e p τ->K a=aa (cu d q)->wSs C rz r L K Qo Xo):wE C c L H (fun x H2=>xB x H2 f y fun H3=>wSs C rz r L H3 Qo Xo) (fun c H1=>Xo c L H1):=
 yC z S.at_ (aT rfl) hf (by rw[<- h];exact k _ (S.turn h1 h2) (bY (aY S.at_ A nofun).symm A))
end
section
variable {n:Nat}{H0 H:Hp}{Q:PV}{X:PX}{s:ax}{σ:Sg}
theorem Iy {b t:Nat}{vs:ah Nat} (S:gp H0 H s σ) (h0:σ.cnt=0) (hb:b < 2 ^ 32) (ht:t < 2 ^ 32) (hv:me vs)
  (q:∀ H',gp H0 H' s {σ with bi:=b,bt:=t,cf:=some vs}->Q .none H'):aM (n+7) .ik [.ref s,.bytes (fold b t vs)] H Q X:=by
 obtain⟨e,p,S⟩:=S
 have l3:=td hv
 have l4:(lp (Nd vs)).length<=66:=du (c_ (cE l3 (by decide))) l3 (bD _)
 have hl:(fold b t vs).length<=line:=aK (du (x:=[4]) (bD 1) (du (c_ hb) (du (c_ ht) l4 (bD _)) (bD _)) (bD _)) (by decide)
 have e1:(fold b t vs).drop 1=vi b++(vi t++lp (Nd vs)):=rfl
 have e2:=fo e1
 have e3:=fo e2
 have up:∀ {k},k < 2 ^ 32->k < 2 ^ 64:=fun h=>fq h (by decide)
 refine bA rfl (bK (kn (aP (ai rfl) S.at_ rfl) aH) (cb (cw [σ.cnt] mD 0x10246 0x2002 h0 aQ)) ?_)
 refine bM (lV (aq (ai rfl) (aq aH aE)) rfl fun a ha=>wZ (p:=1) aN hl (j_ ..) ⟨rfl,?_⟩)
 rw[Hp.set_set]
 have a0:=none_le S.le ha
 refine eP (bH (ai rfl) aN rfl aE (WU (S.more (iC ha)) aN a0 e1 hl (up hb) fun K S A=>JF (τ:={σ with bi:=b}) S A (ai rfl) rfl rfl rfl (by decide) fun K S A=>?_))
 refine eP (bH (ai rfl) A rfl aE (WU S A a0 e2 hl (up ht) fun K S A=>JF (τ:={σ with bi:=b,bt:=t}) S A (ai rfl) rfl rfl rfl (by decide) fun K S A=>?_))
 refine eP (rA (D7 (bH (ai rfl) A rfl aE (yg (rest:=[]) A (by rw[fT];exact e3) hl (cE l3 (by decide)) (Cp hv fun K' l=>?_)))))
 refine JF (τ:={σ with bi:=b,bt:=t,cf:=some vs}) ((S.other A a0).more l) (l _ _ aN) (ai rfl) rfl rfl rfl (by decide) fun K S A=>?_
 exact bo (bH (ai rfl) A rfl aE (Nn A hl (vG e3) ⟨rfl,bG (q _ ⟨e,p,S⟩)⟩))
theorem C8 {bi:Nat}{es il:ah En}{x:En} (h:gT bi es x=aa il):il.length<=es.length+1:=by
 obtain⟨_,rfl⟩:=G6 h
 rw[bN,eW];exact Sn (je ..) 1
theorem Iw {h:Hd} (hh:h.Ok) (S:gp H0 H s σ) (Y3:σ.es.length+σ.pend.length < 8000)
  (hp:(∃ il,fb σ.bi σ.es σ.pend=aa il/\∀ H',gp H0 H' s {σ with es:=il,pend:=[],hd:=h}->Q .none H')∨(∃ x,σ.pend=[x]/\gT σ.bi σ.es x=au/\x.Ok/\∀ H',gp H0 H' s σ->X .eT H')):
  aM (n+8) .ka [.ref s,.bytes h.bs] H Q X:=by
 obtain⟨e,p,S⟩:=S
 obtain⟨h1,h2,h3⟩:=hh
 have hl:h.bs.length<=line:=aK (du (x:=[1]) (bD 1) (du (c_ h1) (du (c_ h2) (c_ h3) (bD _)) (bD _)) (bD _)) (by decide)
 have e1:h.bs.drop 1=vi h.t++(vi h.v++vi h.c):=rfl
 have e2:=fo e1
 have e3:=fo e2
 have up:∀ {k},k < 2 ^ 32->k < 2 ^ 64:=fun h=>fq h (by decide)
 refine bA rfl (bM (lV (aq (ai rfl) (aq aH aE)) rfl fun a ha=>wZ (p:=1) aN hl (j_ ..) ⟨rfl,?_⟩))
 rw[Hp.set_set]
 refine wW (ai rfl) e1 hl (up h1) (wW (ai rfl) e2 hl (up h2) (wW (rest:=[]) (ai rfl) (by rw[fT];exact e3) hl (up h3) (AO (ai rfl) hl (vG e3) ?_)))
 have S1:=S.more (iC (o:=cu h.bs (1+(vi h.t).length+(vi h.v).length+(vi h.c).length)) ha)
 refine tG (aP (ai rfl) S1.at_ rfl) (fU S1.pd) ?_
 rcases hp with ⟨il,HW,q⟩ |⟨x,UB,hx2,hx3,q⟩
 ·refine qo En.v σ.pend (fun done L H1=>∃ e1 Rz,fK H0 H1 s e1 p {σ with es:=Rz}/\fb σ.bi σ.es done=aa Rz/\Rz.length<=σ.es.length+done.length/\L .aG=aa (.ref s)/\L .bO=aa (nv h.t)/\L .oj=aa (nv h.v)/\L .h_=aa (nv h.c)) ⟨e,σ.es,S1,rfl,bD _,rfl,rfl,rfl,rfl⟩ ?_ ?_ ?_
  ·rintro done L H1 ⟨e1,Rz,S2,g⟩;exact fU S2.pd
  ·rintro done w rest L H1 g1 ⟨e1,Rz,S2,g2,g3,g4,g⟩
   have hlen:=aW List.length g1
   rw[bN,jf] at hlen
   rw[g1,qe,g2] at HW
   obtain⟨es3,k1,k2⟩:=Su.mp (show(gT σ.bi Rz w).bind _=aa il from HW)
   refine bo (bH (ai g4) S2.at_ rfl (aq (ai rfl) aE) (V1 S2 k1 (cE g3 (fu [σ.es.length,done.length,σ.pend.length,rest.length] 0x19011011030 0x232823100041 0x1f4023200041 0x12304104202 Y3 hlen aQ)) fun e3 H3 S3=>⟨rfl,bG ⟨e3,es3,S3,?_,?_,g4,g⟩⟩))
   ·rw[qe,g2];show(gT σ.bi Rz w).bind _=_;rw[k1];rfl
   ·have:=C8 k1
    rw[bN,Bz]
    exact aK this (eG g3)
  ·rintro L H1 ⟨e1,Rz,S2,g2,g3,g4,g5,g6,g7⟩
   cases HW.symm.trans g2
   refine bC (eP (iI aE (bX _) fun p1 hp1=>yC (ai g4) (bY (a_ S2.at_ hp1) S2.at_) (aT rfl) (by decide) ?_))
   refine cT (oy (aq (ai g5) (aq (ai g6) (aq (ai g7) aE)))) (ai g4) aN (aT rfl) (by decide) (bG ?_)
   rw[Hp.set_set]
   exact q _ ⟨e1,p1,S2.aaT hp1⟩
 ·have hpd:=S1.pd
  rw[UB] at hpd ⊢
  exact YU (fU hpd) (bo (bH (ai rfl) S1.at_ rfl (aq (ai rfl) aE) (IA S1 hx2 hx3 (q _ ⟨_,_,S1⟩))))
end
section
variable {C:CC}{L:bZ}{H0 H:Hp}{s e p:ax}{σ:Sg}{a1 a2 a3 r:Ss}{Q:PO}{X:fj}{rs:ah aA}{u:aA}
theorem ve (S:fK H0 H s e p σ) (l1:L .aG=aa (.ref s)) (l2:L .eg=aa (.bytes (u::rs))) (h0:σ.cnt=0->u.toNat=4) (h1:σ.cnt=1->u.toNat=1) (hl:(u::rs).length<=line) (k:wSs C ag r (L.set .cM (nv u.toNat)) H Q X):
  wSs C ag (.cons (.dp (.cB (.bc .len (.cons (.aB .eg) .nil)) .eq (.int 0)) a1 .nil) (.cons (.bz .cM (.idx (.aB .eg) (.int 0)))
   (.cons (.dp (.b6 ag (.cons (.cB (.aV (.aB .aG) .eK) .eq (.int 0)) (.cons (.cB (.aB .cM) .ne (.glob .q0)) .nil))) a2 .nil)
   (.cons (.dp (.b6 ag (.cons (.cB (.aV (.aB .aG) .eK) .eq (.int 1)) (.cons (.cB (.aB .cM) .ne (.glob .qZ)) .nil))) a3 .nil) r)))) L H Q X:=by
 refine bK (cU (eA (ai l2) hl) aH) (cb nofun) (aR (iW (k:=0) (ai l2) aH rfl hl) ?_)
 refine vn (t:=decide (((σ.cnt:Nat):Int)=0)) (cU (aP (ai l1) S.at_ rfl) aH) rfl (fun ht=>⟨_,kI (ai rfl) (bw rfl),mY ?_⟩) ?_
 ·have:=h0 (by have:=ij ht;lia)
  exact cw [u.toNat] DB 0x420015 0x42002 this aQ
 refine vn (t:=decide (((σ.cnt:Nat):Int)=1)) (cU (aP (ai l1) S.at_ rfl) aH) rfl (fun ht=>⟨_,kI (ai rfl) (bw rfl),mY ?_⟩) k
 have:=h1 (by have:=ij ht;lia)
 exact cw [u.toNat] DB 0x120015 0x12002 this aQ
theorem zN (S:fK H0 H s e p σ) (l1:L .aG=aa (.ref s)) (k:∀ K,fK H0 K s e p {σ with cnt:=σ.cnt+1}->Q .next L K):wSs C ag (.cons (.ie (.aB .aG) .eK .add (.int 1)) .nil) L H Q X:=
 uk (ai l1) S.at_ rfl aH (aT rfl) (by decide) (bG (k _ (S.turn (τ:={σ with cnt:=σ.cnt+1}) rfl rfl)))
end
section
variable {n:Nat}{H0 H:Hp}{Q:PV}{X:PX}{s:ax}{σ:Sg}
theorem AX {x:En} (S:gp H0 H s σ) (hx:x.Ok) (hc:2<=σ.cnt) (hl:σ.pend.length < 8000)
  (q:∀ H',gp H0 H' s {σ with pend:=σ.pend++[x],cnt:=σ.cnt+1}->Q .none H'):aM (n+7) .eS [.ref s,.bytes x.bs] H Q X:=by
 obtain⟨e,p,S⟩:=S
 have tL:x.bs.length<=line:=aK (Sn (vF hx) 1) (by decide)
 refine bA rfl (ve S rfl rfl (fun h=>by exact fu [σ.cnt] AR 0x42222 544 0x2002 hc h aQ) (fun h=>by exact fu [σ.cnt] AR 0x12222 544 0x12002 hc h aQ) tL ?_)
 refine mh (cU (ai rfl) (bw rfl)) (cb nofun) (mh (cU (ai rfl) (bw rfl)) (cb nofun) (c5 (cU (ai rfl) (bw rfl)) (dD rfl) ?_))
 refine bo (VB (aP (ai rfl) S.at_ rfl) S.pd (bQ (aq (MA (k:=1) (ai rfl) aH (j_ ..) tL) aE) (A8 hx fun H1 k1=>?_)))
 have S1:=S.more k1
 refine Q6 S1.pd (by rw[cF];exact fq hl (by decide)) ⟨rfl,bG (bC (bG (bC (bG (bC (zN (σ:={σ with pend:=σ.pend++[x]}) ?_ rfl fun K T=>q _ ⟨e,p,T⟩))))))⟩
 exact⟨f5 S1.le S.p0,S.s0,S.e0,S.p0,bY S.sp S1.at_,bY S.ne S1.es,by rw[f7];exact aN,S.ne,S.Vw,by rw[bN,Bz];exact cw [σ.pend.length] bJ 0x271023120040 0x1f4023001 hl aQ⟩
theorem Iz {b t:Nat}{vs:ah Nat} (S:gp H0 H s σ) (h0:σ.cnt=0) (hb:b < 2 ^ 32) (ht:t < 2 ^ 32) (hv:me vs)
  (q:∀ H',gp H0 H' s {σ with bi:=b,bt:=t,cf:=some vs,cnt:=1}->Q .none H'):aM (n+8) .eS [.ref s,.bytes (fold b t vs)] H Q X:=by
 obtain⟨e,p,S⟩:=S
 have l3:=td hv
 have l4:(lp (Nd vs)).length<=66:=du (c_ (cE l3 (by decide))) l3 (bD _)
 have tL:(fold b t vs).length<=line:=aK (du (x:=[4]) (bD 1) (du (c_ hb) (du (c_ ht) l4 (bD _)) (bD _)) (bD _)) (by decide)
 refine bA rfl (ve S rfl rfl (fun h=>rfl) (fun h=>by exact fu [σ.cnt] 0x190110030 0x12422 0x2002 0x12002 h0 h aQ) tL ?_)
 refine c5 (cU (ai rfl) (bw rfl)) (dD rfl) ?_
 refine bo (bH (ai rfl) S.at_ rfl (aq (ai rfl) aE) (Iy ⟨e,p,S⟩ h0 hb ht hv fun H1 ⟨e1,p1,S1⟩=>⟨rfl,bG (bC (zN S1 rfl fun K T=>q _ ⟨e1,p1,?_⟩))⟩))
 rw[h0] at T
 exact T
theorem vP {h:Hd} (hh:h.Ok) (S:gp H0 H s σ) (hc:1<=σ.cnt) (Y3:σ.es.length+σ.pend.length < 8000)
  (hp:(∃ il,fb σ.bi σ.es σ.pend=aa il/\∀ H',gp H0 H' s {σ with es:=il,pend:=[],hd:=h,cnt:=σ.cnt+1}->Q .none H')∨(∃ x,σ.pend=[x]/\gT σ.bi σ.es x=au/\x.Ok/\∀ H',gp H0 H' s σ->X .eT H')):aM (n+9) .eS [.ref s,.bytes h.bs] H Q X:=by
 obtain⟨e,p,S⟩:=S
 have tL:h.bs.length<=line:=aK (du (x:=[1]) (bD 1) (du (c_ hh.1) (du (c_ hh.2.1) (c_ hh.2.2) (bD _)) (bD _)) (bD _)) (by decide)
 refine bA rfl (ve S rfl rfl (fun h=>by exact fu [σ.cnt] AR 0x42122 288 0x2002 hc h aQ) (fun h=>rfl) tL ?_)
 refine mh (cU (ai rfl) (bw rfl)) (cb nofun) (c5 (cU (ai rfl) (bw rfl)) (dD rfl) ?_)
 refine bo (bH (ai rfl) S.at_ rfl (aq (ai rfl) aE) (Iw hh ⟨e,p,S⟩ Y3 (hp.imp ?_ fun x=>x)))
 rintro⟨il,g1,q⟩
 exact⟨il,g1,fun H1 ⟨e1,p1,S1⟩=>⟨rfl,bG (bC (bG (bC (zN S1 rfl fun K T=>q _ ⟨e1,p1,T⟩))))⟩⟩
theorem yJ {r:ah aA} (S:gp H0 H s σ) (h:0 < σ.cnt) (x:X .eT H):aM (n+1) .ik [.ref s,.bytes r] H Q X:=by
 obtain⟨e,p,S⟩:=S
 exact bA rfl (c5 (kn (aP (ai rfl) S.at_ rfl) aH) (dD (cw [σ.cnt] bJ 0x1024 33 h aQ)) (ot la x))
theorem Cq (S:gp H0 H s σ) (h:2<=σ.cnt) (q:Q .none H):aM (n+1) .jt [.ref s] H Q X:=by
 obtain⟨e,p,S⟩:=S
 exact bA rfl (bK (eL (aP (ai rfl) S.at_ rfl) aH) (cb (cw [σ.cnt] mD 0x2200146 544 h aQ)) q)
def Bad (c:Nat) (r:ah aA):Prop:=r=[]∨∃ u rs,r=u::rs/\((c=0/\u≠4)∨(c=1/\u≠1)∨(0 < c/\u=4)∨(u≠1/\u≠2/\u≠4))
theorem KN {r:ah aA} (S:gp H0 H s σ) (hb:Bad σ.cnt r) (hl:r.length<=1000) (x:X .eT H):aM (n+2) .eS [.ref s,.bytes r] H Q X:=by
 obtain⟨e,p,S⟩:=S
 have tL:r.length<=line:=aK hl (by decide)
 rcases hb with rfl |⟨u,rs,rfl,hb⟩
 ·exact bA rfl (c5 (cU (eA (ai rfl) tL) aH) (dD rfl) (ot la x))
 have tn:∀ w:aA,u≠w->u.toNat≠w.toNat:=fun w h e=>h (UInt8.toNat_inj.mp e)
 by_cases c0:σ.cnt=0/\u≠4
 ·have:=tn 4 c0.2
  have:(4:aA).toNat=4:=rfl
  refine bA rfl (bK (cU (eA (ai rfl) tL) aH) (cb nofun) (aR (iW (k:=0) (ai rfl) aH rfl tL) ?_))
  exact c5 (a9 (dK (cU (aP (ai rfl) S.at_ rfl) aH) (dD (by lia)) (cP (kI (ai rfl) (bw rfl))))) (xO (cw [u.toNat] AS 0x4200156 0x420026 (by assumption) aQ)) (ot la x)
 by_cases c1:σ.cnt=1/\u≠1
 ·have:=tn 1 c1.2
  have:(1:aA).toNat=1:=rfl
  refine bA rfl (bK (cU (eA (ai rfl) tL) aH) (cb nofun) (aR (iW (k:=0) (ai rfl) aH rfl tL) ?_))
  refine bK (a9 (jl (cU (aP (ai rfl) S.at_ rfl) aH) (cb (by lia)))) (cb (by lia)) ?_
  exact c5 (a9 (dK (cU (aP (ai rfl) S.at_ rfl) aH) (dD (by lia)) (cP (kI (ai rfl) (bw rfl))))) (xO (cw [u.toNat] AS 0x1200156 0x120026 (by assumption) aQ)) (ot la x)
 have g0:σ.cnt=0->u=4:=fun h=>X8 fun k=>c0 ⟨h,k⟩
 have g1:σ.cnt=1->u=1:=fun h=>X8 fun k=>c1 ⟨h,k⟩
 refine bA rfl (ve S rfl rfl (fun h=>by rw[g0 h];rfl) (fun h=>by rw[g1 h];rfl) tL ?_)
 by_cases a4:u=4
 ·subst a4
  have hc:0 < σ.cnt:=by rcases hb with h |h |h |h;exact(h.2 rfl).elim;lia;exact h.1;exact(h.2.2 rfl).elim
  exact c5 (cU (ai rfl) (bw rfl)) (dD rfl) (bo (bH (ai rfl) S.at_ rfl (aq (ai rfl) aE) (yJ ⟨e,p,S⟩ hc x)))
 have hb':u≠1/\u≠2:=by
  rcases hb with h |h |h |h
  ·exact(a4 (g0 h.1)).elim
  ·exact(h.2 (g1 h.1)).elim
  ·exact(a4 h.2).elim
  ·exact⟨h.1,h.2.1⟩
 have f1:=tn 1 hb'.1
 have f2:=tn 2 hb'.2
 have f4:=tn 4 a4
 have hu:=u.toNat_lt
 have:(1:aA).toNat=1:=rfl
 have:(2:aA).toNat=2:=rfl
 have:(4:aA).toNat=4:=rfl
 refine mh (cU (ai rfl) (bw rfl)) (cb (cw [u.toNat] AS 0x4200156 0x420026 f4 aQ)) (mh (cU (ai rfl) (bw rfl)) (cb (cw [u.toNat] AS 0x1200156 0x120026 f1 aQ)) (mh (cU (ai rfl) (bw rfl)) (cb (cw [u.toNat] AS 0x2200156 0x220026 f2 aQ)) ?_))
 exact ot (JN la (Qh (ai rfl) (by unfold small;lia)) (by decide)) x
end
noncomputable def knd (bg en:aj):Nat:=if bg then(if en then 4 else 3) else(if en then 1 else 2)
theorem YW (bg en:aj):knd bg en < 5:=by cases bg<;>cases en<;>decide
noncomputable def jE (k:Nat) (d:ah aA):ah aA:=fx (ck (UInt8.ofNat k::d))++([UInt8.ofNat (d.length % 256),UInt8.ofNat (d.length / 256)]++(UInt8.ofNat k::d))
theorem jq (k:Nat) (d:ah aA):(jE k d).length=7+d.length:=by
 rw[nP];rfl
noncomputable def gap (B L:Nat):Nat:=if B-L % B < 7 then B-L % B else 0
noncomputable def room (B L:Nat):Nat:=B-(L+gap B L) % B
inductive Frs (B:Nat):Nat->aj->ah aA->ah aA->Prop
 |last {L:Nat}{bg:aj}{d:ah aA}:d.length<=room B L-7->Frs B L bg d (List.replicate (gap B L) 0++jE (knd bg ag) d)
 |more {L:Nat}{bg:aj}{d bs:ah aA}:room B L-7 < d.length->Frs B (L+gap B L+room B L) ag (d.drop (room B L-7)) bs->
   Frs B L bg d (List.replicate (gap B L) 0++(jE (knd bg ao) (d.take (room B L-7))++bs))
theorem QU {B x:Nat} (hB:0 < B):(x+(B-x % B)) % B=0:=by
 have h1:=dE x hB
 have h2:=Gl x B
 rw[show x+(B-x % B)=B*(x / B+1) by rw[uN];exact nk [] 0x20100104 [x,B,x % B,B*(x / B)] 0x110001100500190011019000600201100011005001100110110006002001 0x11106304400042 0x10201 0x203042 h1 h2 aQ];exact Nat.mul_mod_right ..
theorem E5 {B L:Nat} (hB:8<=B):gap B L<=6:=by unfold gap;split<;>lia
theorem Kw {B L:Nat} (hB:8<=B) (h:gap B L≠0):gap B L=B-L % B/\(L+gap B L) % B=0:=by
 unfold gap at h ⊢
 split at h
 case isFalse=>exact(h rfl).elim
 rename_i hc
 rw[a8 hc]
 refine⟨rfl,?_⟩
 exact QU (cw [B] bJ 33 0x820 hB aQ)
theorem qf {B L:Nat} (hB:8<=B):7<=room B L/\room B L<=B:=by
 unfold room
 by_cases h:gap B L=0
 ·have h1:=dE L (show 0 < B by exact cw [B] bJ 33 0x820 hB aQ)
  have:¬ (B-L % B < 7):=by
   intro q
   unfold gap at h
   rw[a8 q] at h;exact nk [] vM [B,L % B] 0x11011000400110011011005002 11 0x2202 257 h h1 aQ
  rw[h,sr];exact gh [] vM [B,L % B] 0x11000110006001900110000600201101100040001011 0x200207207 0x722016 this aQ
 ·rw[(Kw hB h).2];exact gh [] 0x2000101 [B] 0x110011004001900110005002011001100400110011011005002001 0x100107207 0x820 hB aQ
theorem zX {B L:Nat} (hB:8<=B):(L+gap B L+room B L) % B=0:=by
 unfold room
 exact QU (cw [B] bJ 33 0x820 hB aQ)
theorem H_ {B L:Nat} (hB:8<=B) (h:L % B=0):gap B L=0:=by unfold gap;rw[h,bb (by exact gh [] 0x2000101 [B] 0x11001100400110011011005002001 0x721016 0x820 hB aQ)]
theorem wI {B L:Nat} (hB:8<=B) (h:L % B=0):room B L=B:=by unfold room;rw[H_ hB h,sr,h];rfl
structure pq (H:Hp) (w f:ax) (B:Nat) (F:ah aA):Prop where
 at_:H w=aa (.inst .jP [(.gC,.ref f),(.dC,nv B),(.fR,.int 2),(.gA,nv F.length)])
 fl:∃ ps:ah (ah aA),H f=aa (.bE (ps.map .bytes))/\ps.flatten=F/\ps.length<=F.length
theorem dZ {S:ah ax} (H:Hp):g_ S H H:=fun _ _ _ e=>e
theorem jD {S:ah ax}{a b c:Hp} (h:g_ S a b) (k:g_ S b c):g_ S a c:=fun x o n e=>k x o n (h x o n e)
theorem dR {S:ah ax}{H H1:Hp}{a:ax}{o:Mo} (h:g_ S H H1) (m:a∈S):g_ S H (H1.set a o):=fun x p n e=>(bb (fun q=>n (by rw[q];exact m))).trans (h x p n e)
theorem MP {S:ah ax}{a b:Hp} (h:a.le b):g_ S a b:=fun x o _ e=>h x o e
theorem pq.more {H H':Hp}{w f:ax}{B:Nat}{F:ah aA} (W:pq H w f B F) (l:H.le H'):pq H' w f B F:=by
 obtain⟨h1,ps,h2,h3⟩:=W
 exact⟨l _ _ h1,ps,l _ _ h2,h3⟩
theorem adF {m k:Nat} (h:m < 256) (g:k < 256):octets [(m:Int),(k:Int)]=aa [UInt8.ofNat m,UInt8.ofNat k]:=by
 unfold octets;rw[a8 ⟨gw _,by exact cw [m] bJ AV nB h aQ⟩,Ol g];rfl
section
variable {n:Nat}{H:Hp}{Q:PV}{X:PX}{w f:ax}{B:Nat}{F:ah aA}
theorem yM {k:Nat}{d:ah aA} (hk:k < 5) (hd:d.length<=1000) (q:Q (.bytes (jE k d)) H):aM (n+2) .oV [.int k,.bytes d,.int 2] H Q X:=by
 have hl:d.length<=line:=aK hd (by decide)
 have tL:(UInt8.ofNat k::d).length<=1001:=eG hd
 refine bA rfl (aR (eA (ai rfl) hl) (aR (zl (oz (cG (aq (ai rfl) aE) (aT rfl)) rfl (Ol (fq hk (by decide))) (aT rfl)) (ai rfl) (by rw[nP];exact aK tL (by decide))) ?_))
 have b1:∀ {L},L .jQ=aa (.int d.length)->PE (aM (n+1)) L H (.bR .mod (.aB .jQ) (.int 256)) (.int ((d.length % 256:Nat):Int)):=fun h=>rj (ai h) aH (by decide)
 have b2:∀ {L},L .jQ=aa (.int d.length)->PE (aM (n+1)) L H (.bR .fdiv (.aB .jQ) (.int 256)) (.int ((d.length / 256:Nat):Int)):=fun h=>ME (ai h) aH (by decide) (by decide)
 have b3:=adF (m:=d.length % 256) (k:=d.length / 256) (dE _ (by decide)) (gh [] 0x1002003101 [d.length] 0x190110100203002 0x10023101 ya hd aQ)
 refine cy (zl (zl (eE (aq (eE (aq (ai rfl) (aq (ai rfl) aE)) fun _ _ q=>A9 (aK tL (by decide)) q) aE) fun _ _ q=>Cj (XA _) q) (oz (cG (aq (b1 rfl) (aq (b2 rfl) aE)) (aT rfl)) rfl b3 (aT rfl)) (aT rfl)) (ai rfl) (aK (dW tL 6) (by decide))) ?_
 rw[dF];exact q
theorem pq.wf (W:pq H w f B F):w≠f:=by
 obtain⟨ps,h,_⟩:=W.fl
 exact aY W.at_ h nofun
theorem RT {o:ah aA} (W:pq H w f B F) (ho:o≠[]) (hl:F.length+o.length<=1000000) (q:∀ H',pq H' w f B (F++o)->g_ [w,f] H H'->Q .none H'):aM (n+1) .ua [.ref w,.bytes o] H Q X:=by
 have hwf:=W.wf
 obtain⟨h1,ps,h2,h3,h4⟩:=W
 have ho1:1<=o.length:=qB.mpr ho
 refine bA rfl (bo (oW (aP (ai rfl) h1 rfl) h2 (ai rfl) (by rw[cF];unfold line;exact fu [ps.length,F.length,o.length] eI rK 0xf424033201040 dP hl h4 aQ) ⟨rfl,?_⟩))
 have h5:=bY (o:=.bE (ps.map .bytes++[.bytes o])) hwf h1
 refine uk (ai rfl) h5 rfl (eA (ai rfl) (by unfold line;exact cw [o.length,F.length] bJ pT 0xf424033001040 hl aQ)) (aT rfl) (by decide) (bG (q _ ⟨?_,ps++[o],?_,?_,?_⟩ (dR (dR (dZ H) (.tail _ (.head _))) (.head _))))
 ·rw[bN];exact aN
 ·rw[f7];exact bY hwf.symm aN
 ·rw[xA,h3,qA,xo,fT]
 ·rw[bN,bN,Bz];exact fu [ps.length,F.length,o.length] eI 0x20104120040 dP 0x20120 h4 ho1 aQ
noncomputable def DV:Ss:=
(.cons (.expr (.bk (.aB .aG) .UH (.cons (.bL .oV (.cons (.aB .cM) (.cons (.slice ag (.aB .jR) (.aB .dX) (.aB .mT)) (.cons (.aV (.aB .aG) .fR) .nil)))) .nil)))
(.cons (.bz .dX (.aB .mT))
(.cons (.bz .gM (.bool ag))
.nil)))
noncomputable def Ud:Ss:=
(.cons (.bz .mT (.bc .min (.cons (.aB .jQ) (.cons (.bR .sub (.bR .add (.aB .dX) (.aB .xH)) (.glob .jU)) .nil))))
(.cons (.bz .lR (.cB (.aB .mT) .eq (.aB .jQ)))
(.cons (.dp (.aB .gM) (.cons (.bz .cM (.ite (.aB .lR) (.glob .GQ) (.glob .za)))
.nil) (.cons (.bz .cM (.ite (.aB .lR) (.glob .GR) (.glob .D6)))
.nil))
DV)))
structure Pg (L:bZ) (w:ax) (d:ah aA) (at_:Nat) (bg:aj):Prop where
 self:L .aG=aa (.ref w)
 size:L .jQ=aa (nv d.length)
 oct:L .jR=aa (.bytes d)
 at_:L .dX=aa (nv at_)
 bg:L .gM=aa (.bool bg)
theorem YT {a i r m:Nat} (h:i<=a) (h7:7<=r) (hm:m=min (a-i) (r-7)):min (a:Int) ((i:Int)+r-7)=((i+m:Nat):Int):=by
 rw[hm,<- XF,gZ h,show(i:Int)+r-7=((i+(r-7):Nat):Int) by exact gh [] 0x72100102 [i,r] RN 0x20004172101001475 0x10720 h7 aQ];exact(Tc ..).symm
theorem A_ {L:bZ}{d:ah aA}{i r m:Nat}{bg en:aj}{X:fj} (hL:Pg L w d i bg) (hr:L .xH=aa (nv r)) (h7:7<=r) (hr2:r<=1000) (hi:i<=d.length) (hd:d.length<=1000) (W:pq H w f B F) (hF:F.length<=990000) (hm:m=min (d.length-i) (r-7)) (he:en=ag↔d.length-i<=r-7):
  wSs (aM (n+3)) ao Ud L H (fun o L1 H1=>o=.next/\Pg L1 w d (i+m) ag/\L1 .lR=aa (.bool en)/\pq H1 w f B (F++jE (knd bg en) ((d.drop i).take m))/\g_ [w,f] H H1) X:=by
 obtain⟨g1,g2,g3,g4,g5⟩:=hL
 have hm1:m<=d.length-i:=by rw[hm];exact Gf ..
 have Xd:m<=r-7:=by rw[hm];exact je ..
 have ad2:i+m<=d.length:=aK (dW hm1 i) (gY (gZ hi))
 have he2:decide (((i+m:Nat):Int)=d.length)=en:=Gk.mpr (L7.trans ⟨fun h=>he.mpr (by clear hm;exact EN [] 0x7220010000204 [d.length,i,r,m] 0x110001100500190019011001106002 0x60400 256 0x60300 0x13010415 hi Xd h aQ),fun h=>by rw[hm,dM (he.mp h),gZ hi]⟩)
 have hmn:=YT hi h7 hm
 clear hm he
 have OE:cut d i (i+m)=(d.drop i).take m:=by unfold cut;rw[pX]
 have Jh:((d.drop i).take m).length<=d.length:=by rw[<- OE];exact gm ..
 have key:∀ L2,Pg L2 w d i bg->L2 .mT=aa (nv (i+m))->L2 .lR=aa (.bool en)->L2 .cM=aa (nv (knd bg en))->wSs (aM (n+3)) ao DV L2 H (fun o L1 H1=>o=.next/\Pg L1 w d (i+m) ag/\L1 .lR=aa (.bool en)/\pq H1 w f B (F++jE (knd bg en) ((d.drop i).take m))/\g_ [w,f] H H1) X:=by
  rintro L2 ⟨g1,g2,g3,g4,g5⟩ g6 g7 g8
  have yE:=JP (C:=aM (n+3)) (H:=H) (t:=true) (ai g3) (ai g4) (ai g6) hi ad2 (aK hd (by decide))
  rw[OE] at yE
  refine bo (Ay (ai g1) W.at_ rfl (D7 (bQ (aq (ai g8) (aq yE (aq (aP (ai g1) W.at_ rfl) aE))) (yM (YW bg en) (aK Jh hd) ?_))))
  refine RT W (fun q=>by cases aW List.length q) (by rw[jq];exact GK [F.length,(List.take m (List.drop i d)).length,d.length] x6 0xf424033107240040 0x3e823200 0xf1b3033000 0x20100 hd hF Jh aQ) fun H1 W1 k=>⟨rfl,?_⟩
  exact aR (ai g6) (aR fF (bG ⟨rfl,⟨g1,g2,g3,rfl,rfl⟩,g7,W1,k⟩))
 refine aR (eV (JQ (ai g2) (jb (jC (ai g4) (ai hr)) (bw rfl))) hmn) ?_
 refine aR (gF (cU (ai rfl) (ai g2)) (aW Vx.bool he2)) ?_
 refine He (ai g5) rfl (fun hb=>?_) (fun hb=>?_)<;>subst hb
 ·exact aR (Qq (ai rfl) rfl (by cases en;exact bw rfl;exact bw rfl)) (bG (bC (key _ ⟨g1,g2,g3,g4,g5⟩ rfl rfl rfl)))
 ·exact aR (Qq (ai rfl) rfl (by cases en;exact bw rfl;exact bw rfl)) (bG (bC (key _ ⟨g1,g2,g3,g4,g5⟩ rfl rfl rfl)))
end
theorem aa8 {n:Nat}{rz:aj}{L:bZ}{H:Hp}{Q:PO}{X:fj}{s:S}{r:Ss} (I:bZ->Hp->Prop) (h:wSs (aM n) rz (.cons s .nil) L H (fun o L1 H1=>o=.next/\I L1 H1) X) (k:∀ L1 H1,I L1 H1->wSs (aM n) rz r L1 H1 Q X):wSs (aM n) rz (.cons s r) L H Q X:=
 Mi (dj n) s (fun o L1 H1 z=>by cases o<;>first |exact k _ _ z.2 |cases z.1) (fun _ _ _ z=>z) h
section
variable {n:Nat}{H:Hp}{Q:PV}{X:PX}{w f:ax}{B:Nat}{F:ah aA}
theorem tO (hB:8<=B/\B<=100) (q:Q .none H):aM (n+1) .rO [nv B] H Q X:=
 bA rfl (bK (a9 (dK (eL (ai rfl) (jC (bw rfl) aH)) (cb (cw [B] vN 0x8200146 0x6413000008207 hB aQ)) (cP (kn (ai rfl) (bw rfl))))) (cb (cw [B] 0x11001100050011001 0x10100063346 0x6413000008207 hB aQ)) q)
theorem vT (q:Q .none H):aM (n+1) .uB [.int 2] H Q X:=
 bA rfl (bK (a9 (dK (kI (ai rfl) (bw rfl)) rfl (cP (kI (ai rfl) (bw rfl))))) rfl q)
theorem Iv (h:H w=aa (.inst .jP [])) (fl:∃ ps:ah (ah aA),H f=aa (.bE (ps.map .bytes))/\ps.flatten=F/\ps.length<=F.length) (hB:8<=B/\B<=100)
  (q:pq (H.set w (.inst .jP [(.gC,.ref f),(.dC,nv B),(.fR,.int 2),(.gA,nv F.length)])) w f B F->Q .none (H.set w (.inst .jP [(.gC,.ref f),(.dC,nv B),(.fR,.int 2),(.gA,nv F.length)]))):
  aM (n+2) .nY [.ref w,.ref f,nv B,.int 2,nv F.length] H Q X:=by
 obtain⟨ps,h2,h3,h4⟩:=fl
 refine bA rfl (bo (bQ (aq (ai rfl) aE) (tO hB ⟨rfl,bo (bQ (aq (ai rfl) aE) (vT ⟨rfl,?_⟩))⟩)))
 refine bK (eL (ai rfl) aH) (cb (lE [F.length] mn 0x200146 aQ)) ?_
 refine cT (ai rfl) (ai rfl) h (aT rfl) (by decide) ?_
 refine bj (ai rfl) (ai rfl) (aT rfl) (by decide) ?_;refine bj (ai rfl) (ai rfl) (aT rfl) (by decide) ?_;refine bj (ai rfl) (ai rfl) (aT rfl) (by decide) ?_
 exact q ⟨aN,ps,bY (aY h h2 nofun).symm h2,h3,h4⟩
theorem ab1 {g m a b:Nat} (hg:g<=6) (hm:m < a) (ih:b<=27*(a-m)+13):g+(7+m+b)<=27*a+26/\(0 < m->g+(7+m+b)<=27*a+13):=by exact EN [] 0x10300104 [g,m,b,a] 0x110000011000801b900111a10011001100900204101100011000601b900110110011007002001 0xd2301b1542010724400401002191a13301b1542010724400407 0x62000 0x30101 0xd2401b154200 hg hm ih aQ
theorem Frs.len {L:Nat}{bg:aj}{d bs:ah aA} (hB:8<=B) (h:Frs B L bg d bs):bs.length<=27*d.length+26/\7<=bs.length/\(room B L≠7->bs.length<=27*d.length+13):=by
 induction h with
 | @last L bg d h=>
  have:=E5 (L:=L) hB
  rw[bN,nN,jq]
  exact cw [gap B L,d.length,room B L] 0x1100001100600310110000400210110110030001 0xd2101b15410724004072202691072400472071a13101b1541072400407 0x62000 this aQ
 | @more L bg d bs h hf ih=>
  have r:=(qf (L:=L) hB).1
  have r2:room B (L+gap B L+room B L)=B:=wI hB (zX hB)
  have b1:=ih.2.2 (fu [room B (L+gap B L+room B L),B] 0x110190110040001 0x720026 0x10820 pS hB r2 aQ)
  rw[fJ] at b1
  have:=ab1 (E5 (L:=L) hB) h b1
  rw[bN,nN,bN,jq,eW,dM (fH h)]
  exact⟨this.1,by exact lT [] 0x72100103 [gap B L,room B L,bs.length] hM 0x20307244004720 aQ,fun z=>this.2 (nk [] 0x72000101 [room B L] 0x110110000060011001100001107002011000110050031021 0x10021 0x720 0x720026 r z aQ)⟩
def aew (w f:ax) (B:Nat) (F d:ah aA) (H:Hp) (k:Nat) (L:bZ) (H1:Hp):Prop:=
 ∃ acc i bg en,Pg L w d i bg/\L .lR=aa (.bool en)/\pq H1 w f B (F++acc)/\g_ [w,f] H H1/\i<=d.length/\acc.length+200*k<=200*(d.length+2)/\(en=ag->Frs B F.length ao d acc)/\
  (en=ao->(∀ bs,Frs B (F.length+acc.length) bg (d.drop i) bs->Frs B F.length ao d (acc++bs))/\∃ u,k=d.length-i+1+u/\(u=0->room B (F.length+acc.length)=B))
theorem Yq {a k u m R:Nat} (hk:k=a+1+u) (hu:u=0->R=B) (hB:8<=B) (hm:m=R-7) (hc:R-7 < a):a-m+1 < k:=by exact nl5 [] 0x7240010000206 [a,m,k,u,R,B] 0x110011011000008001100019000110000a001100190019001901100190110b012020110001101100000900190011000000190110a0020110000000080061021 0x20126041 0x30120044202 0x50402023029 0x50820 0x80102 0x801 hk hu hB hm hc aQ
theorem PA {A k j D x:Nat} (h:A+200*k<=200*(D+2)) (hj:j < k) (hx:x<=200):A+x+200*j<=200*(D+2):=by exact GK [A,x,j,D,k] 0x11c81011011040 0x22304c81520c8151000440 0x22304c81540c8150040 0x40201 0xc813100 h hj hx aQ
theorem Zz {d:ah aA} (W:pq H w f B F) (hB:8<=B/\B<=100) (hd:d.length<=100) (hF:F.length<=900000)
  (q:∀ H' bs,Frs B F.length ao d bs->pq H' w f B (F++bs)->g_ [w,f] H H'->Q .none H'):aM (n+4) .ub [.ref w,.bytes d] H Q X:=by
 refine bA rfl (aR (eA (ai rfl) (aK hd (by decide))) (aR aH (aR fF (aR fF (Hb (u_ (aew w f B F d H) (d.length-0+1+1) ⟨[],0,ao,ao,⟨rfl,rfl,rfl,rfl,rfl⟩,rfl,by rw[fT];exact W,dZ H,bX _,gY (jF _),nofun,fun _=>⟨fun _ h=>h,1,rfl,nofun⟩⟩ ?_))))))
 rintro k L H1 ⟨acc,i,bg,en,A,a1,W1,K1,a2,a3,a4,a5⟩
 refine lS (ai a1) rfl _ _ ⟨!en,rfl,?_⟩
 cases en with
 |true=>exact q _ _ (a4 rfl) W1 K1
 |false=>
  obtain⟨b1,u,b2,b3⟩:=a5 rfl
  have hlen:(F++acc).length=F.length+acc.length:=bN ..
  generalize hLL:F.length+acc.length=LL at hlen b1 b3
  have hr:=qf (B:=B) (L:=LL) hB.1
  have hg:=E5 (B:=B) (L:=LL) hB.1
  have Rj:=dE LL (show 0 < B by exact cw [B] oZ 33 0x6413000008207 hB aQ)
  have agJ:LL<=950000:=by rw[<- hlen,bN];exact GK [F.length,acc.length,d.length,k] 0x11011c81011040 0xe7ef033100040 0x6413200 0xdbba033000 0x22204c81530c8151040 hd hF a3 aQ
  have hrm:((B:Nat):Int)-(((F++acc).length:Nat):Int) % ((B:Nat):Int)=((B-LL % B:Nat):Int):=by rw[hlen];lia
  have Xb:=aP (C:=aM (n+3)) (ai A.self) W1.at_ (f:=.dC) rfl
  refine aR (eV (jb Xb (rj (aP (ai A.self) W1.at_ rfl) Xb (cw [B] oZ 0x1024 0x6413000008207 hB aQ))) hrm) ?_
  refine aa8 (fun L2 H2=>∃ G,Pg L2 w d i bg/\L2 .xH=aa (nv (room B LL))/\G=List.replicate (gap B LL) 0/\pq H2 w f B (F++acc++G)/\g_ [w,f] H H2) (q_ (eL (ai rfl) (bw rfl)) (fun hc=>?_) (fun hc=>?_)) ?_
  ·have Ks:gap B LL=B-LL % B:=a8 (gh [] vM [B,LL % B] bJ 0x72201 0x722014 hc aQ)
   have hrB:room B LL=B:=by unfold room;rw[(Kw hB.1 (by exact nk [] 0x10200103 [gap B LL,LL % B,B] 0x110001100500110011019011006002001 0x20026 0x20101 0x30002 Rj Ks aQ)).2];rfl
   have Dq:List.replicate (B-LL % B) (0:aA)≠[]:=fun q=>by have:=aW List.length q;rw[nN] at this;exact absurd this (by show ¬ _=0;exact gh [] vM [B,LL % B] 0x11001100400110011011005002001 0x22026 257 Rj aQ)
   refine bo (bH (ai A.self) W1.at_ rfl (aq (Vd (ai rfl) (lT [] vM [B,LL % B] hM 0x201023 aQ) (nk [] AQ [B,LL % B,gap B LL] 0x19011011030 0xf4240333013 0x62200 0x30202 hg Ks aQ)) aE) (RT (o:=List.replicate (B-LL % B) 0) W1 Dq (by rw[hlen,nN];exact nl6 [] 0x20100108 [LL,B,LL % B,d.length,F.length,acc.length,k,gap B LL] 0x19011019011011c81011070 0xf424033800040 0x6413300 0xdbba033400 0x22304c81560c8155040 0x504042 0x62700 0x80702 hd hF a3 hLL hg Ks aQ) fun H2 W2 K2=>⟨rfl,?_⟩))
   exact aR (aP (ai A.self) W2.at_ rfl) (bG (bC (bG ⟨rfl,_,⟨A.self,A.size,A.oct,A.at_,A.bg⟩,by rw[hrB];rfl,by rw[Ks],W2,jD K1 K2⟩)))
  ·have Ks:gap B LL=0:=bb (gh [] vM [B,LL % B] vN 0x722016 0x7220146 hc aQ)
   have hrB:room B LL=B-LL % B:=by unfold room;rw[Ks,sr]
   exact bG (bC (bG ⟨rfl,[],⟨A.self,A.size,A.oct,A.at_,A.bg⟩,by rw[hrB];rfl,by rw[Ks];rfl,by rw[fT];exact W1,K1⟩))
  ·rintro L2 H2 ⟨G,A2,MR,hG,W2,K2⟩
   have hGl:G.length=gap B LL:=by rw[hG,nN]
   have xZ:(d.drop i).length=d.length-i:=fJ ..
   have hF2:(F++acc++G).length<=990000:=by rw[bN,hlen,hGl];exact nm5 [LL,gap B LL,d.length,F.length,acc.length,k] 0x11019011011c81011060 0xf1b3033100040 0x6413200 0xdbba033300 0x22204c81550c8154040 0x403042 0x62100 hd hF a3 hLL hg aQ
   by_cases hc:d.length-i<=room B LL-7
   ·refine dH (dj _) _ ?_ (fun _ _ _ h=>h) (A_ (en:=true) (m:=d.length-i) A2 MR hr.1 (fu [room B LL,B] 0x110011000011070021011 ya 0x6413100108207 0x10000007207 hB hr aQ) a2 (aK hd (by decide)) W2 hF2 (dM hc).symm ⟨fun _=>hc,fun _=>rfl⟩)
    rintro _ L3 H3 ⟨rfl,A3,e3,W3,K3⟩
    rw[mu (gY xZ),dF,dF] at W3
    refine⟨0,by exact gh [] 0x20100104 [k,d.length,i,u] 0x19011020 33 0x30124044002 b2 aQ,acc++(G++jE (knd bg ag) (d.drop i)),i+(d.length-i),ag,ag,A3,e3,W3,jD K2 K3,by exact gh [] 0x100102 [i,d.length] 0x1101100300190001104002 x7 dP a2 aQ,?_,fun _=>by rw[hG];exact b1 _ (Frs.last (by rw[xZ];exact hc)),nofun⟩
    rw[bN,bN,jq,hGl,xZ]
    exact PA a3 (gh [] 0x20100104 [k,d.length,i,u] 0x19011020 33 0x30124044002 b2 aQ) (nl4 [] 0x20100106 [gap B LL,d.length,i,acc.length,k,u] 0xc81c89011c81c81050 0xc813607240040 0x6413100 0x22104c81540c8153040 0x50126044402 0x62000 hd a3 b2 hg aQ)
   ·refine dH (dj _) _ ?_ (fun _ _ _ h=>h) (A_ (en:=false) (m:=room B LL-7) A2 MR hr.1 (fu [room B LL,B] 0x110011000011070021011 ya 0x6413100108207 0x10000007207 hB hr aQ) a2 (aK hd (by decide)) W2 hF2 (qz (xm hc)).symm ⟨nofun,fun h=>absurd h hc⟩)
    rintro _ L3 H3 ⟨rfl,A3,e3,W3,K3⟩
    rw[dF,dF] at W3
    have yH:(acc++(G++jE (knd bg ao) ((d.drop i).take (room B LL-7)))).length=acc.length+(gap B LL+(7+(room B LL-7))):=by
     rw[bN,bN,jq,hGl,eW,xZ,dM (xm hc)]
    have lP:F.length+(acc++(G++jE (knd bg ao) ((d.drop i).take (room B LL-7)))).length=LL+gap B LL+room B LL:=by
     rw[yH,gZ hr.1,<- dT,<- dT,hLL]
    have hj:d.length-(i+(room B LL-7))+1+0 < k:=by rw[<- Sz];exact Yq b2 b3 hB.1 rfl (Gp hc)
    refine⟨_,hj,_,i+(room B LL-7),ag,ao,A3,e3,W3,jD K2 K3,by exact nk [] 0x20072100203 [i,room B LL,d.length] 0x1100011005001900110001106012021 0x20300040 pO 0x305006 a2 hc aQ,by rw[yH];exact PA a3 hj (nl5 [] 0x5020072100207 [gap B LL,room B LL,d.length,acc.length,k,i,u] 0xc810c81c89011c81c81070051 0xc813707240040 0x6413200 0x22204c81540c8153040 0x60129044402 0x62000 0x709006 hd a3 b2 hg hc aQ),nofun,fun _=>⟨fun bs hbs=>?_,0,rfl,fun _=>by rw[lP];exact wI hB.1 (zX hB.1)⟩⟩
    rw[lP] at hbs
    have:=b1 _ (Frs.more (bg:=bg) (d:=d.drop i) (by rw[xZ];exact gh [] 0x2010072000203 [room B LL,d.length,i] oZ 0x50301 0x305006 hc aQ) (by rw[xh];exact hbs))
    rw[hG,dF,dF];exact this
end
noncomputable def cl (B p:Nat):Nat:=if p % B=0 then p else p-p % B+B
noncomputable def B7 (d:ah aA) (B p be:Nat) (sh tn:aj) (gl:Nat) (ra:ax):Mo:=.inst .xC [(.bq,.bytes d),(.dC,nv B),(.fR,.int 2),(.dX,nv p),(.d',nv be),(.uf,.bool sh),(.uY,.int 0),(.uZ,.ref ra),(.xE,.bool tn),(.hZ,nv gl),(.jT,.int 0)]
noncomputable def Hh (d:ah aA) (B p:Nat) (tn:aj) (gl:Nat) (ra:ax):Mo:=B7 d B p (min d.length (cl B p)) (decide (d.length < cl B p)) tn gl ra
theorem RP {B p:Nat} (hB:8<=B):(gap B p=0/\p % B≠0/\cl B p=p+room B p)∨(cl B p=p+gap B p/\room B p=B):=by
 have h1:=dE p (show 0 < B by exact cw [B] bJ 33 0x820 hB aQ)
 have h2:=Nat.mod_le p B
 unfold cl
 by_cases h:p % B=0
 ·right;rw[a8 h,H_ hB h,wI hB h];exact⟨rfl,rfl⟩
 ·rw[bb h]
  by_cases hc:B-p % B < 7
  ·right
   have hg:gap B p=B-p % B:=by unfold gap;rw[a8 hc]
   have hr:room B p=B:=by unfold room;rw[(Kw hB (by exact nk [] 0x10200103 [gap B p,p % B,B] 0x110001100500110011019011006002001 0x20026 0x20101 0x30002 h1 hg aQ)).2];rfl
   rw[hg,hr];exact nk [] 0x1020010000203 [p,p % B,B] 0x11000005001100000500310110001100060011000000110080011001900110000090120201100011000600110000001100800190011001100000901202031001 0x20202500042030427 0x20101 256 h1 h2 aQ
  ·left
   have hg:gap B p=0:=by unfold gap;rw[bb hc]
   have hr:room B p=B-p % B:=by unfold room;rw[hg,sr]
   rw[hr];exact⟨hg,h,by exact nk [] 0x1020010000203 [p,p % B,B] 0x11000011006001100000110000900110019001100000901202011000011006001100000110000900190011001100000901202001021 0x50004203042 256 0x725016 h2 hc aQ⟩
theorem acb {B p q:Nat} (hB:8<=B) (h1:p+gap B p < q) (h2:q<=p+gap B p+room B p):cl B q=p+gap B p+room B p:=by
 have hm:=zX (L:=p) hB
 have hr:=qf (L:=p) hB
 have hx:p+gap B p+room B p < q+B:=by exact fu [p,gap B p,room B p,q,B] 0x1100011011050021 0x40304201000441 0x30100041 0x40200207207 h1 hr aQ
 generalize p+gap B p+room B p=E at hm h2 hx
 have hE:=Gl E B
 have hq:=Gl q B
 have lW:=dE q (show 0 < B by exact cw [B] bJ 33 0x820 hB aQ)
 rw[hm,sr] at hE
 generalize hb:q / B=b at hq
 generalize ha:E / B=a at hE
 have Vw:b<=a:=by
  refine iD fun lW=>?_
  have:=md B (show a+1<=b from lW)
  rw[uN] at this;exact nm5 [B,q,E,B*b,q % B,B*a] 0x110190110110110060 11 0x820 0x20100 0x10403042 0x20502 0x300110065040 hB h2 hq hE this aQ
 unfold cl
 by_cases h:q % B=0
 ·rw[a8 h]
  have:a<=b:=by
   refine iD fun lW=>?_
   have:=md B (show b+1<=a from lW)
   rw[uN] at this;exact nm5 [E,q,B,B*b,q % B,B*a] 0x110110110190110060 11 mm 0x10403042 0x502 0x2402 0x500112063040 hx hq hE h this aQ
  have:a=b:=by exact fu [a,b] 0x110110004001100110040001 pS 256 dP Vw this aQ
  subst this;exact GK [q,E,B*a,q % B] 0x11019011011005001101100190050001 pS 0x10202 0x2302 0x302042 hE h hq aQ
 ·rw[bb h]
  have ne:a≠b:=by rintro rfl;exact YO [q,E,B*a,q % B] 0x11001100190110070011000000070051031 11 dP 0x10202 0x23026 0x302042 h2 hE h hq aQ
  have:a<=b+1:=by
   refine iD fun lW=>?_
   have:=md B (show b+2<=a from lW)
   rw[uN] at this;exact nm5 [E,q,B,q % B,B*b,B*a] 0x110110190110110060 11 mm 0x20301 0x10304042 0x502 0x500212064040 hx (by assumption) hq hE this aQ
  have:a=b+1:=by exact GK [a,b] 0x1100110000600110110000007001100000110070041001021 0x12104002 256 0x100026 pR Vw ne this aQ
  subst this
  rw[uN] at hE;exact nk [] 0x10000105 [q,q % B,B,E,B*b] 0x1100011005001900110110190060020110001100500110011019011006002001 0x30205042 0x104042 0x300112064042 hq hE aQ
theorem set_same {H:Hp}{a:ax}{o:Mo} (h:H a=aa o):H.set a o=H:=by
 funext b
 by_cases e:b=a
 ·subst e;exact(a8 rfl).trans h.symm
 ·exact bb e
def wz (C:CC) (c:E) (b:Ss) (Q:PO) (X:fj):Nat->bZ->Hp->Prop
 | 0,_,_=>False
 |n+1,L,H=>wE C c L H (fun v H1=>Got (truth H1 v) fun t=>cond t (wSs C ao b L H1 (mi (wz C c b Q X n) Q) X) (Q .next L H1)) fun D H1=>X D L H1
section
variable {C:CC}{L:bZ}{H:Hp}{Q:PO}{X:fj}{c:E}{b:Ss}{v:V}{m:Nat}{rz:aj}{r:Ss}
theorem Mg (p:PE C L H c v) (h:truth H v=aa ao) (k:Q .next L H):wz C c b Q X (m+1) L H:=p _ _ ⟨_,h,k⟩
theorem Mh (p:PE C L H c v) (h:truth H v=aa ag) (k:wSs C ao b L H (GX Q (wz C c b Q X m)) X):wz C c b Q X (m+1) L H:=p _ _ ⟨_,h,k⟩
theorem US {n:Nat} (m:Nat) (k:wz (aM n) c b (i9 (aM n) rz r Q X) X m L H):wSs (aM n) rz (.cons (.kD c b) r) L H Q X:=⟨wz (aM n) c b (i9 (aM n) rz r Q X) X,m,k,fun k L H h=>match k,h with
 |k+1,h=>cz (dj n) c (fun _ _=>Got.bT fun _=>nz (dH (dj n) b (oE fun _ _ z=>⟨k,nS k,z⟩) fun _ _ _ z=>z) fun z=>z) (fun _ _ z=>z) h⟩
theorem Et {e c:E}{d:ah aA}{k j:Nat} (p:PE C L H e (.bytes d)) (q:PE C L H c (.int k)) (h:d[k]? =aa (UInt8.ofNat j)) (hj:j < 256) (hl:d.length<=line):PE C L H (.idx e c) (.int j):=
 eV (iW p q h hl) (aW Nat.cast (UInt8.toNat_ofNat_of_lt' hj))
end
section
variable {n:Nat}{H:Hp}{r ra:ax}{d:ah aA}{B p gl:Nat}{tn:aj}
theorem UM {be B D:Nat} (h:be<=D):(((min D (be+B):Nat):Int)-be < B)↔D < be+B:=by
 rw[BC];split<;>lia
theorem Fi {Q:PV}{X:PX}{be:Nat}{sh:aj} (h:H r=aa (B7 d B p be sh tn gl ra)) (hl:d.length<=line) (q:Q .none (H.set r (B7 d B be (min d.length (be+B)) (decide (d.length < be+B)) tn gl ra))) (hbe:be<=d.length):aM (n+1) .lO [.ref r] H Q X:=by
 refine bA rfl (cT (aP (ai rfl) h rfl) (ai rfl) h (aT rfl) (by decide) ?_)
 refine bj (y:=nv (min d.length (be+B))) (eV (JQ (eA (aP (ai rfl) aN rfl) hl) (jC (aP (ai rfl) aN rfl) (aP (ai rfl) aN rfl))) (Tc ..).symm) (ai rfl) (aT rfl) (by decide) ?_
 exact bj (y:=.bool (decide (d.length < be+B))) (gF (eL (jb (aP (ai rfl) aN rfl) (aP (ai rfl) aN rfl)) (aP (ai rfl) aN rfl)) (aW Vx.bool (kW.mpr (UM hbe)))) (ai rfl) (aT rfl) (by decide) q
section
variable {Q:PO}{X:fj}{L:bZ}{be:Nat}
theorem AI (h:H r=aa (B7 d B p be ag tn gl ra)) (hL:L .aG=aa (.ref r)) (q:∀ p' tn',Q (.ret (.tup [.int (-1),.bytes []])) L (H.set r (B7 d B p' be ag tn' gl ra))):wSs (aM n) ao gX L H Q X:=by
 refine c5 (aP (ai hL) h rfl) rfl (q_ (eL (aP (ai hL) h rfl) (aP (ai hL) h rfl)) (fun _=>?_) fun _=>?_)
 ·refine cT fF (ai hL) h (aT rfl) (by decide) (bj (aP (ai hL) aN rfl) (ai hL) (aT rfl) (by decide) (bG (bC ?_)))
  exact cy (dw (aq (bw rfl) (aq gU aE)) (aT rfl)) (q be ag)
 ·refine bG (bC (cy (dw (aq (bw rfl) (aq gU aE)) (aT rfl)) ?_))
  have:=q p tn
  rw[set_same h] at this
  exact this
theorem mP {sh:aj} (h:H r=aa (B7 d B p be sh tn gl ra)) (hL:L .aG=aa (.ref r)):PE (aM n) L H (.cB (.bR .sub (.aV (.aB .aG) .d') (.aV (.aB .aG) .dX)) .lt (.glob .jU)) (.bool (decide ((be:Int)-p < 7))):=
 eL (jb (aP (ai hL) h rfl) (aP (ai hL) h rfl)) (bw rfl)
end
theorem Ft {Q:PO}{X:fj}{L:bZ}{rr:Ss} (hB:8<=B) (hl:d.length<=line) (h:H r=aa (Hh d B p tn gl ra)) (hp:p<=d.length) (hL:L .aG=aa (.ref r))
  (wF:d.length < p+gap B p+7->∀ p' be sh tn,Q (.ret (.tup [.int (-1),.bytes []])) L (H.set r (B7 d B p' be sh tn gl ra)))
  (go:p+gap B p+7<=d.length->wSs (aM (n+1)) ag rr L (H.set r (B7 d B (p+gap B p) (min d.length (p+gap B p+room B p)) (decide (d.length < p+gap B p+room B p)) tn gl ra)) Q X):
  wSs (aM (n+1)) ag (.cons (.kD (.cB (.bR .sub (.aV (.aB .aG) .d') (.aV (.aB .aG) .dX)) .lt (.glob .jU)) gX) rr) L H Q X:=by
 refine US 2 ?_
 have hr:=(qf (L:=p) hB).1
 have hg:=E5 (L:=p) hB
 have h1:=h
 rcases RP (p:=p) hB with ⟨g1,g2,g3⟩ |⟨g1,g2⟩
 ·rw[Hh,g3] at h1
  rw[g1,sr p] at wF go
  by_cases hc:d.length < p+7
  ·have h2:d.length < p+room B p:=by exact fu [d.length,p,room B p] eI mm qI 0x72104001 hr hc aQ
   rw[c9 h2,dM (fH h2)] at h1
   exact Mh (mP h1 hL) (dD (cw [d.length,p] bJ 0x7210100174 0x72104001 hc aQ)) (AI h1 hL fun _ _=>wF hc _ _ _ _)
  ·refine Mg (mP h1 hL) (cb ?_) ?_
   ·rw[BC];split<;>lia
   ·have:=go (iD hc)
    rw[set_same h1] at this
    exact this
 ·rw[Hh,g1] at h1
  rw[g2] at go
  have hP:p+gap B p<=p+6:=dW hg p
  generalize p+gap B p=P at hP h1 wF go
  by_cases hc:d.length < P
  ·rw[c9 hc,dM (fH hc)] at h1
   exact Mh (mP h1 hL) (dD (fu [d.length,p,P] eI 0x7210100174 0x62104200 0x20001 hP hc aQ)) (AI h1 hL fun _ _=>wF (cw [d.length,P] bJ 0x72104001 rG hc aQ) _ _ _ _)
  ·have VK:=iD hc
   rw[dU hc,qz VK] at h1
   refine Mh (mP h1 hL) (dD (cw [P,p] bJ 0x7210100174 0x62104000 hP aQ)) (bK (aP (ai hL) h1 rfl) rfl (bo (bH (ai hL) h1 rfl aE (Fi h1 hl ⟨rfl,bG ?_⟩ VK))))
   by_cases hc2:d.length < P+7
   ·have h2:d.length < P+B:=by exact fu [d.length,P,B] eI mm 0x20820 0x72104001 hB hc2 aQ
    rw[c9 h2,dM (fH h2)]
    refine Mh (mP aN hL) (dD (cw [d.length,P] bJ 0x7210100174 0x72104001 hc2 aQ)) (AI aN hL fun p' tn'=>?_)
    rw[Hp.set_set];exact wF hc2 _ _ _ _
   ·refine Mg (mP aN hL) (cb ?_) (go (iD hc2))
    rw[BC];split<;>lia
theorem E8 {k:Nat}{x:ah aA}:(jE k x)[4]? =aa (UInt8.ofNat (x.length % 256))/\(jE k x)[5]? =aa (UInt8.ofNat (x.length / 256))/\(jE k x)[6]? =aa (UInt8.ofNat k):=⟨rfl,rfl,rfl⟩
theorem KW {Q:PV}{X:PX}{k:Nat}{x:ah aA} (hB:8<=B/\B<=100) (hl:d.length<=1000000) (h:H r=aa (Hh d B p tn gl ra)) (hp:p<=d.length) (hk:0 < k/\k < 5) (hx:7+x.length<=room B p)
  (wF:∀ p' be sh tn,d.length < p+gap B p+7+x.length->Q (.tup [.int (-1),.bytes []]) (H.set r (B7 d B p' be sh tn gl ra)))
  (hd:p+gap B p+7<=d.length->∃ m,m<=(jE k x).length/\7<=m/\(m < (jE k x).length->d.length < p+gap B p+7+x.length)/\∃ rest,d.drop (p+gap B p)=(jE k x).take m++rest)
  (whole:p+gap B p+7+x.length<=d.length->Q (.tup [.int k,.bytes x]) (H.set r (Hh d B (p+gap B p+7+x.length) tn gl ra))):aM (n+2) .jI [.ref r] H Q X:=by
 have uX:d.length<=line:=aK hl (by decide)
 have hr:=(qf (L:=p) hB.1).2
 refine bA rfl (Ft hB.1 uX h hp rfl (fun hc p' be sh tn=>wF _ _ _ _ (ma hc (ft ..))) fun hc=>?_)
 obtain⟨m,m1,m2,m3,rest,m4⟩:=hd hc
 have yH:=jq k x
 have get:∀ j w,j < 7->(jE k x)[j]? =aa w->d[p+gap B p+j]? =aa w:=fun j w hj e=>by
  rw[pI m4 (by rw[eW,dM m1];exact ma hj m2),pY (ma hj m2)];exact e
 have i4:=get 4 _ (by decide) E8.1
 have i5:=get 5 _ (by decide) E8.2.1
 have i6:=get 6 _ (by decide) E8.2.2
 have UB:x.length<=93:=by exact GK [x.length,B,room B p] 0x1100110110011060011 0x5d13000 0x6413100108207 0x20007240 lJ hB hx hr aQ
 have Jh:7+x.length<=room B p->cl B (p+gap B p+7+x.length)=p+gap B p+room B p:=fun _=>acb hB.1 (lE [p,gap B p,x.length] hM 0x20721000444100041 aQ) (cw [p,gap B p,x.length,room B p] bJ 0x30100044207210004440 0x30207240 hx aQ)
 have Jh:=Jh hx
 rw[Hh,Jh] at whole
 clear Jh get h hd
 generalize p+gap B p=P at*
 have esz:((x.length % 256:Nat):Int)+((x.length / 256:Nat):Int)*256=((x.length:Nat):Int):=by exact lT [] 0x1002003101 [x.length] 0x11001900400110011004000102 0x101002101620145 aQ
 have A:=aN (H:=H) (a:=r) (o:=B7 d B P (min d.length (P+room B p)) (decide (d.length < P+room B p)) tn gl ra)
 have pa:∀ {L f v},L .aG=aa (.ref r)->eF [(.bq,.bytes d),(.dC,nv B),(.fR,.int 2),(.dX,nv P),(.d',nv (min d.length (P+room B p))),(.uf,.bool (decide (d.length < P+room B p))),(.uY,.int 0),(.uZ,.ref ra),(.xE,.bool tn),(.hZ,nv gl),(.jT,.int 0)] f=aa v->PE (aM (n+1)) L (H.set r (B7 d B P (min d.length (P+room B p)) (decide (d.length < P+room B p)) tn gl ra)) (.aV (.aB .aG) f) v:=fun h g=>aP (ai h) aN g
 have pi:∀ {L}{j:Int}{k:Nat},L .dX=aa (nv P)->(P:Int)+j=(k:Nat)->PE (aM (n+1)) L (H.set r (B7 d B P (min d.length (P+room B p)) (decide (d.length < P+room B p)) tn gl ra)) (.bR .add (.aB .dX) (.int j)) (.int k):=fun h e=>eV (jC (ai h) aH) e
 refine aR (pa rfl rfl) (aR (jb (pa rfl rfl) (ai rfl)) ?_)
 refine aR (v:=nv x.length) (eV (jC (Et (pa rfl rfl) (pi rfl rfl) i4 (dE _ (by decide)) uX) (Er (Et (pa rfl rfl) (pi rfl rfl) i5 (gh [] 0x1002003101 [x.length] 0x190110100203002 0x10023101 0x5d13000 UB aQ) uX) aH (by unfold small;lia) (by unfold small;decide))) esz) ?_
 refine aR (Et (pa rfl rfl) (pi rfl rfl) i6 (fq hk.2 (by decide)) uX) ?_
 refine q_ (kn (jC (bw rfl) (ai rfl)) (ai rfl)) (fun hw=>?_) (fun hw=>bG (bC ?_))
 ·have hw:d.length < P+7+x.length:=by
   rw[BC] at hw;split at hw<;>lia
  have e1:d.length < P+room B p:=by exact fu [d.length,P,room B p,x.length] eI mm 0x20307240 0x30721044001 hx hw aQ
  refine bj (pa rfl rfl) (ai rfl) (aT rfl) (by decide) (c5 (aP (ai rfl) aN rfl) (dD e1) (bj fF (ai rfl) (aT rfl) (by decide) (cy (dw (aq (bw rfl) (aq gU aE)) (aT rfl)) ?_)))
  exact wF (min d.length (P+room B p)) (min d.length (P+room B p)) (decide (d.length < P+room B p)) ag hw
 ·have hw:P+7+x.length<=d.length:=by
   rw[BC] at hw;split at hw<;>lia
  have hm:(jE k x).take m=jE k x:=mu (iD fun q=>absurd (m3 q) (gP hw))
  rw[hm] at m4
  have m5:d.drop P=fx (ck (UInt8.ofNat k::x))++(([UInt8.ofNat (x.length % 256),UInt8.ofNat (x.length / 256)]++(UInt8.ofNat k::x))++rest):=m4
  have m6:d.drop (P+6)=(UInt8.ofNat k::x)++rest:=fo (xs:=fx (ck (UInt8.ofNat k::x))++[UInt8.ofNat (x.length % 256),UInt8.ofNat (x.length / 256)]) m5
  have OE:cut d (P+6) (P+7+x.length)=UInt8.ofNat k::x:=by
   have:=Ik m6
   rw[show P+6+(UInt8.ofNat k::x).length=P+7+x.length by rw[jf];exact lE [P,x.length] rL 0x10720044121046200442 aQ] at this;exact this
  refine bK (a9 (jl (cU (ai rfl) (bw rfl)) (cb (cw [k] vN 0x200156 0x52001000217 hk aQ)))) (cb (cw [k] vN 0x200156 0x52001000217 hk aQ)) ?_
  refine aR (v:=nv (P+7+x.length)) (eV (jC (jC (ai rfl) (bw rfl)) (ai rfl)) rfl) ?_
  refine aR (v:=.bytes (UInt8.ofNat k::x)) (gF (JP (k:=P+6) (q:=P+7+x.length) (pa rfl rfl) (eV (jb (jC (ai rfl) (bw rfl)) aH) (lE [P] rL 0x6200411272001475 aQ)) (ai rfl) (cw [P,d.length] bJ 0x10620040 0x10720040 hc aQ) hw uX) (aW Vx.bytes OE)) ?_
  refine bK (kI (eE (aq (pa rfl rfl) (aq (ai rfl) aE)) fun _ _ q=>AZ m5 uX (XA _) q) (eE (aq (pa rfl rfl) (aq (ai rfl) aE)) fun _ _ q=>A9 (aK (eG UB) (by decide)) q)) (mY rfl) ?_
  refine bj (ai rfl) (ai rfl) (aT rfl) (by decide) (cy (dw (aq (ai rfl) (aq (MA (k:=1) (ai rfl) aH (j_ ..) (aK (eG UB) (by decide))) aE)) (aT rfl)) ?_)
  exact whole hw
end
theorem cH.vk {r b:ax}{H H1:Hp}{o:Mo} (k:cH r H H1) (h:H b=au):cH r H (H1.set b o):=fun c p n e=>bY (eY h e) (k c p n e)
theorem lh {r b:ax}{H H1:Hp} (k:cH r H H1) (n:b≠r) (h:H1 b=au):H b=au:=by
 cases e:H b with
 |none=>rfl
 |some o=>rw[k _ _ n e] at h;contradiction
def Part (d:ah aA) (p:Nat) (bs:ah aA) (m:Nat):Prop:=m<=bs.length/\∃ rest,d.drop p=bs.take m++rest/\(m < bs.length->rest=[])
theorem Part.len {d:ah aA}{p:Nat}{bs:ah aA}{m:Nat} (h:Part d p bs m) (hp:p<=d.length):p+m<=d.length/\(m < bs.length->d.length=p+m):=by
 obtain⟨h1,rest,h2,h3⟩:=h
 have:=aW List.length h2
 rw[fJ,bN,eW] at this
 refine⟨by exact EN [] 0x3010100200205 [p,m,d.length,bs.length,rest.length] 0x1100011005001900190019011001108001900190019000110801202 x8 pO 0x30100 0x40704502 hp h1 this aQ,fun q=>?_⟩
 rw[h3 q,xj] at this;exact EN [] 0x3020110000204 [d.length,p,m,bs.length] 0x110110000060011011011001101100009001100110011011000090120201100001100600190019001101901100090019001900110190000901202001 0x20104002 256 0x30200 0x2604402 hp h1 this aQ
theorem Part.next {d:ah aA}{p:Nat}{as bs:ah aA}{m:Nat} (h:Part d p (as++bs) m) (hm:as.length<=m):Part d (p+as.length) bs (m-as.length):=by
 obtain⟨h1,rest,h2,h3⟩:=h
 rw[bN] at h1
 refine⟨by exact nk [] AQ [m,as.length,bs.length] 0x11001100400190011001105002 tM 256 oH hm h1 aQ,rest,?_,fun q=>h3 (by rw[bN];exact gh [] AQ [m,as.length,bs.length] Na mm 0x20301 q aQ)⟩
 rw[<- xh,h2,Gn,mu hm,dF,Te]
section
variable {n:Nat}{H:Hp}{r ra:ax}{d:ah aA}{B p gl:Nat}{tn:aj}
theorem yf {Q:PV}{X:PX}{k m:Nat}{x bs:ah aA} (hB:8<=B/\B<=100) (hl:d.length<=1000000) (h:H r=aa (Hh d B p tn gl ra)) (hp:p<=d.length) (hk:0 < k/\k < 5) (hx:7+x.length<=room B p)
  (hd:Part d p (List.replicate (gap B p) 0++(jE k x++bs)) m)
  (wF:m < gap B p+(7+x.length)->∀ p' be sh tn,Q (.tup [.int (-1),.bytes []]) (H.set r (B7 d B p' be sh tn gl ra)))
  (whole:gap B p+(7+x.length)<=m->Part d (p+gap B p+7+x.length) bs (m-(gap B p+(7+x.length)))->p+gap B p+7+x.length<=d.length->Q (.tup [.int k,.bytes x]) (H.set r (Hh d B (p+gap B p+7+x.length) tn gl ra))):aM (n+2) .jI [.ref r] H Q X:=by
 have yH:=jq k x
 have hL:=hd.len hp
 have mC:(List.replicate (gap B p) (0:aA)).length=gap B p:=nN ..
 have htl:(List.replicate (gap B p) (0:aA)++(jE k x++bs)).length=gap B p+(7+x.length)+bs.length:=by rw[bN,mC,bN,yH];exact(dT ..).symm
 rw[htl] at hL
 refine KW hB hl h hp hk hx (fun p' be sh tn hc=>wF (fu [m,gap B p,x.length,p,d.length,bs.length] 0x110110011040011 0x20724104001 0x304402502072410440019400030407 0x20721030444401 hL hc aQ) p' be sh tn) (fun hc=>?_) (fun hc=>?_)
 ·have hgm:gap B p<=m:=by exact fu [gap B p,m,p,d.length,x.length,bs.length] 0x110001100110600110000011060041011 dP 0x10204302504072400441019301020407 0x30720020440 hL hc aQ
  have h1:=hd.next (as:=List.replicate (gap B p) 0) (by rw[mC];exact hgm)
  rw[mC] at h1
  obtain⟨g1,rest,g2,g3⟩:=h1
  refine⟨min (m-gap B p) (jE k x).length,je ..,by exact EN [] 0x2070110000207 [m,gap B p,(jE k x).length,x.length,p,d.length,bs.length] 0x1101100011000080019000000000190110b00190011001100011000110b01202011011000000080019000000000190110b001900110011000000110b01202051021 0x90720 0x30724202 0x404502603072410440019500040407 0x50721040440 yH hL hc aQ,fun q=>by exact EN [] 0x4070120500207 [d.length,p,gap B p,x.length,(jE k x).length,m,bs.length] 0x11011000000110800190000000110000b0019001100110001100110110b012020110110000000800190000000110000b00190011001100011001100b01202051021 0x30722010444001 0x30724402 0x50104002603072420445019005010407 0x40901 yH hL q aQ,bs.take (m-gap B p-(jE k x).length)++rest,?_⟩
  rw[g2,Gn,dF]
  refine aW (· ++_) ?_
  by_cases q:m-gap B p<=(jE k x).length
  ·rw[dM q]
  ·rw[qz (xm q),mu (xm q),mu (bD _)]
 ·have hgm:gap B p+(7+x.length)<=m:=by exact fu [gap B p,x.length,m,p,d.length,bs.length] 0x110001100110600110000011060041011 0x20107240040 0x20304402501072400442019402030407 0x40107200304440 hL hc aQ
  refine whole hgm ?_ hc
  have e:(List.replicate (gap B p) (0:aA)++jE k x).length=gap B p+(7+x.length):=by rw[bN,mC,yH]
  have h1:=Part.next (as:=List.replicate (gap B p) 0++jE k x) (bs:=bs) (by rw[dF];exact hd) (by rw[e];exact hgm)
  rw[e] at h1
  rw[dT,dT];exact h1
section
variable {Q:PO}{X:fj}{L:bZ}{x acc:ah aA}{be:Nat}{sh:aj}{rr:Ss}{pa:ax}
theorem Mw (a1:L .aG=aa (.ref r)){bg:aj} (a2:L .gM=aa (.bool bg)) (a3:L .cM=aa (.int (-1))) (q:∀ tn,Q (.ret .none) L (H.set r (B7 d B p be sh tn gl ra))):
  wSs (aM n) ao (.cons (.dp (.cB (.aB .cM) .eq (.glob .u9)) (.cons (.dp (.aB .gM) (.cons (.setAttr (.aB .aG) .xE (.bool ag)) .nil) .nil) (.cons (.ret .none) .nil)) .nil) rr) L (H.set r (B7 d B p be sh tn gl ra)) Q X:=
 c5 (cU (ai a3) (bw rfl)) (dD rfl) (He (ai a2) rfl (fun _=>bj fF (ai a1) (aT rfl) (by decide) (bG (bC (cy iP (q ag))))) fun _=>bG (bC (cy iP (q tn))))
noncomputable def zf:Ss:=match mq with
 |.cons _ r=>r
 |.nil=>.nil
theorem UZ (a1:L .aG=aa (.ref r)) (a2:L .gM=aa (.bool ao)) (a3:L .cM=aa (.int 1)) (a4:L .bq=aa (.bytes x)) (q:Q (.ret (.bytes x)) L (H.set r (B7 d B p be sh tn p ra))):wSs (aM n) ao zf L (H.set r (B7 d B p be sh tn gl ra)) Q X:=
 bK (cU (ai a3) (bw rfl)) (cb nofun) (c5 (a9 (m_ (cU (ai a3) (bw rfl)) (dD rfl))) (dD rfl) (bK (ai a2) rfl (c5 (cU (ai a3) (bw rfl)) (dD rfl) (bj (aP (ai a1) aN rfl) (ai a1) (aT rfl) (by decide) (cy (ai a4) q)))))
theorem Qg (a1:L .aG=aa (.ref r)) (a2:L .gM=aa (.bool ao)) (a3:L .cM=aa (.int 2)) (a4:L .bq=aa (.bytes x)) (hx:x.length<=line) (q:∀ pb,H pb=au->Q .next ((L.set .fX (.ref pb)).set .gM (.bool ag)) (H.set pb (.ba x))):wSs (aM n) ao zf L H Q X:=
 bK (cU (ai a3) (bw rfl)) (cb nofun) (c5 (a9 (dK (cU (ai a3) (bw rfl)) (cb nofun) (cP (cU (ai a3) (bw rfl))))) (dD rfl) (bK (ai a2) rfl (bK (cU (ai a3) (bw rfl)) (cb nofun) (bM (abv (ai a4) hx fun pb Y6=>aR fF (bG (bC (bG (q pb Y6)))))))))
theorem YC (a1:L .aG=aa (.ref r)) (a2:L .gM=aa (.bool ag)) (a3:L .cM=aa (.int 3)) (a4:L .bq=aa (.bytes x)) (a5:L .fX=aa (.ref pa)) (a6:H pa=aa (.ba acc)) (hx:acc.length+x.length<=line) (q:Q .next L (H.set pa (.ba (acc++x)))):wSs (aM n) ao zf L H Q X:=
 bK (cU (ai a3) (bw rfl)) (cb nofun) (mh (a9 (dK (cU (ai a3) (bw rfl)) (cb nofun) (cP (cU (ai a3) (bw rfl))))) (cb nofun) (c5 (a9 (m_ (cU (ai a3) (bw rfl)) (dD rfl))) (dD rfl) (mh (lS (ai a2) rfl) rfl (bo (Kk (ai a5) a6 (ai a4) hx ⟨rfl,bK (cU (ai a3) (bw rfl)) (cb nofun) (bG (bC (bG (bC (bG q)))))⟩)))))
theorem UY (a1:L .aG=aa (.ref r)) (a2:L .gM=aa (.bool ag)) (a3:L .cM=aa (.int 4)) (a4:L .bq=aa (.bytes x)) (a5:L .fX=aa (.ref pa)) (a6:H pa=aa (.ba acc)) (a7:H r=aa (B7 d B p be sh tn gl ra)) (hx:acc.length+x.length<=line) (q:Q (.ret (.bytes (acc++x))) L ((H.set pa (.ba (acc++x))).set r (B7 d B p be sh tn p ra))):wSs (aM n) ao zf L H Q X:=
 have n:=aY a7 a6 nofun
 bK (cU (ai a3) (bw rfl)) (cb nofun) (mh (a9 (dK (cU (ai a3) (bw rfl)) (cb nofun) (cP (cU (ai a3) (bw rfl))))) (cb nofun) (c5 (a9 (dK (cU (ai a3) (bw rfl)) (cb nofun) (cP (cU (ai a3) (bw rfl))))) (dD rfl) (mh (lS (ai a2) rfl) rfl (bo (Kk (ai a5) a6 (ai a4) hx ⟨rfl,c5 (cU (ai a3) (bw rfl)) (dD rfl) (cT (aP (ai a1) (bY n a7) rfl) (ai a1) (bY n a7) (aT rfl) (by decide) (cy (Ew (ai a5) (bY n.symm aN) (by rw[bN];exact hx)) q))⟩)))))
end
structure RdS (H:Hp) (r ra:ax) (d:ah aA) (B gl:Nat) (tn:aj) (rec:ah aA) (e:Nat) (ok:Prop) (L:bZ) (H1:Hp) (p:Nat) (bg:aj) (x bs acc:ah aA) (pa:ax) (m:Nat):Prop where
 F:Frs B p bg x bs
 D:Part d p bs m
 hp:p<=d.length
 self:L .aG=aa (.ref r)
 begun:L .gM=aa (.bool bg)
 parts:L .fX=aa (.ref pa)
 Z4:H1 pa=aa (.ba acc)
 pn:H pa=au
 El:rec=acc++x
 bg0:bg=ao->acc=[]
 rd:H1 r=aa (Hh d B p tn gl ra)
 kb:cH r H H1
 e_:p+bs.length=e
 ok_:m=bs.length↔ok
def RdJ (H:Hp) (r ra:ax) (d:ah aA) (B gl:Nat) (tn:aj) (rec:ah aA) (e:Nat) (ok:Prop) (k:Nat) (L:bZ) (H1:Hp):Prop:=
 ∃ p bg x bs acc pa m,k=bs.length/\RdS H r ra d B gl tn rec e ok L H1 p bg x bs acc pa m
theorem W8 (bg en:aj):0 < knd bg en/\knd bg en < 5:=by cases bg<;>cases en<;>decide
theorem KP {Q:PV}{X:PX}{rec bs:ah aA}{m:Nat} (hB:8<=B/\B<=100) (hl:d.length<=1000000) (h:H r=aa (Hh d B p tn gl ra)) (hp:p<=d.length) (hf:Frs B p ao rec bs) (hd:Part d p bs m) (abG:rec.length<=100)
  (wF:m < bs.length->∀ H' p' be sh tn,cH r H H'->H' r=aa (B7 d B p' be sh tn gl ra)->Q .none H')
  (whole:m=bs.length->∀ H',cH r H H'->H' r=aa (Hh d B (p+bs.length) tn (p+bs.length) ra)->Q (.bytes rec) H'):aM (n+3) .ki [.ref r] H Q X:=by
 refine bA rfl (aR fF (bM (Ra fun pa hpa=>?_)))
 have hmb:=hd.1
 refine Hb (u_ (RdJ H r ra d B gl tn rec (p+bs.length) (m=bs.length)) bs.length ⟨p,ao,rec,bs,[],pa,m,rfl,hf,hd,hp,rfl,rfl,rfl,aN,hpa,rfl,fun _=>rfl,bY (a_ h hpa) h,.of_le (iC hpa),rfl,Iff.rfl⟩ ?_)
 rintro k L H1 ⟨p1,bg,x,yh,acc,pa1,m1,rfl,S⟩
 refine⟨ag,rfl,?_⟩
 have Ji:acc.length+x.length<=100:=by rw[S.El,bN] at abG;exact abG
 have hr1:=aY S.rd S.Z4 nofun
 have B8:=S.ok_
 have he:=S.e_
 have hr:=qf (L:=p1) hB.1
 have hD1:=S.D.1
 have kb:∀ o,cH r H (H1.set r o):=fun o=>.trans S.kb (.set (.refl _))
 cases S.F with
 |last hx=>
  have hlen:(List.replicate (gap B p1) (0:aA)++jE (knd bg ag) x).length=gap B p1+(7+x.length):=by rw[bN,nN,jq]
  rw[hlen] at B8 he hD1
  refine kG (bH (ai S.self) S.rd rfl aE (yf (bs:=[]) (k:=knd bg ag) (x:=x) hB hl S.rd S.hp (W8 bg ag) (nk [] 0x72100103 [x.length,room B p1,B] 0x110011000060019000011001107002011 0x10007240 0x20100107207 rI hr hx aQ) (by rw[fT];exact S.D) (fun hc p' be sh tn'=>⟨rfl,?_⟩) (fun hc hD xZ=>⟨rfl,?_⟩)))
  ·have nm:m < bs.length:=xv hmb fun q=>sD _ (B8.mpr q▸hc)
   exact Mw S.self S.begun rfl fun tn=>wF nm _ p' be sh tn (kb _) aN
  ·have wm:m=bs.length:=B8.mp (BL hD1 hc)
   have ee:p1+gap B p1+7+x.length=p+bs.length:=by rw[<- he,dT,dT]
   rw[ee]
   cases bg
   ·have:=S.El
    rw[S.bg0 rfl,LU] at this
    subst this
    exact UZ S.self S.begun rfl rfl (whole wm _ (kb _) aN)
   ·refine UY S.self S.begun rfl rfl S.parts (bY hr1.symm S.Z4) aN (aK Ji (by decide)) ?_
    rw[<- S.El]
    exact whole wm _ (.set (.vk (kb _) S.pn)) aN
 |more hx F2=>
  rename_i Np
  have Xa:(x.take (room B p1-7)).length=room B p1-7:=by rw[eW];exact gh [] 0x1020172000202 [room B p1,x.length] 0x1100110040011001100050120190011011005001900110005012001 0x20402 0x10201 hx aQ
  have e7:7+(room B p1-7)=room B p1:=gZ hr.1
  have hlen:(List.replicate (gap B p1) (0:aA)++(jE (knd bg ao) (x.take (room B p1-7))++Np)).length=gap B p1+(room B p1+Np.length):=by rw[bN,nN,bN,jq,Xa,e7]
  rw[hlen] at B8 he hD1
  have hax:acc++x=(acc++x.take (room B p1-7))++x.drop (room B p1-7):=by rw[dF,I6]
  refine kG (bH (ai S.self) S.rd rfl aE (yf (bs:=Np) (k:=knd bg ao) (x:=x.take (room B p1-7)) hB hl S.rd S.hp (W8 bg ao) (by rw[Xa,e7];exact bD _) S.D (fun hc p' be sh tn'=>⟨rfl,?_⟩) (fun hc hD xZ=>⟨rfl,?_⟩)))
  ·rw[Xa,e7] at hc
   have nm:m < bs.length:=xv hmb fun q=>by have:=B8.mpr q;exact GK [m1,gap B p1,room B p1,Np.length,m,bs.length] 0x110001100007001100019000070051019001100050011 11 0x5040230204104002a mm 0x50402 B8 hc q aQ
   exact Mw S.self S.begun rfl fun tn=>wF nm _ p' be sh tn (kb _) aN
  ·have ep:p1+gap B p1+7+(x.take (room B p1-7)).length=p1+gap B p1+room B p1:=by rw[Xa,dT,e7]
   rw[ep] at hD xZ ⊢
   rw[Xa,e7] at hc
   have abI:m1-(gap B p1+(7+(x.take (room B p1-7)).length))=Np.length↔m=bs.length:=by rw[<- B8,Xa,e7];exact nk [] 0x20104000104 [m1,gap B p1,room B p1,Np.length] 0x11000011000700190011000011008002011011019000007001100110190000080020310110000110060011000011000700190011001900008002041001 0x3020410400230402a 0x30204104000 0x201040 hD1 hc aQ
   have he2:p1+gap B p1+room B p1+Np.length=p+bs.length:=by rw[<- he,dT,dT]
   have hj:Np.length < (List.replicate (gap B p1) (0:aA)++(jE (knd bg ao) (x.take (room B p1-7))++Np)).length:=by rw[hlen];exact cw [Np.length,gap B p1,room B p1,B] oZ 0x204104001 0x30200207207 hr aQ
   cases bg
   ·have ha:=S.bg0 rfl
    refine Qg S.self S.begun rfl rfl (by rw[Xa];exact aK (jc ..) (aK hr.2 (aK hB.2 (by decide)))) fun pb Y6=>⟨Np.length,hj,p1+gap B p1+room B p1,ag,_,Np,_,pb,_,rfl,F2,hD,xZ,S.self,rfl,rfl,aN,lh (kb _) (fun e=>by rw[e] at Y6;cases aN.symm.trans Y6) Y6,?_,nofun,bY (eY Y6 aN) aN,.trans (kb _) (.vk (.refl _) Y6),he2,abI⟩
    rw[S.El,ha,LU,I6]
   ·refine YC S.self S.begun rfl rfl S.parts (bY hr1.symm S.Z4) (by rw[Xa];unfold line;exact nk [] 0x72100103 [acc.length,room B p1,x.length] eI 0x100000043300040 0x6413200040 0x20301 Ji hx aQ) ⟨Np.length,hj,p1+gap B p1+room B p1,ag,_,Np,_,pa1,_,rfl,F2,hD,xZ,S.self,S.begun,S.parts,aN,S.pn,S.El.trans hax,nofun,bY hr1 aN,.vk (kb _) S.pn,he2,abI⟩
end
def Jr (B:Nat):Nat->ah (ah aA)->ah aA->ah Nat->Prop
 |_,[],bs,es=>bs=[]/\es=[]
 |p,r::rs,bs,es=>∃ b yh il,Frs B p ao r b/\bs=b++yh/\es=(p+b.length)::il/\Jr B (p+b.length) rs yh il
theorem Jr.gt {B:Nat} (hB:8<=B):∀ {rs:ah (ah aA)}{p:Nat}{bs:ah aA}{es:ah Nat},Jr B p rs bs es->∀ e∈es,p < e
 |[],p,bs,es,h,e,he=>by rw[h.2] at he;cases he
 |r::rs,p,bs,es,⟨b,yh,il,h1,h2,h3,h4⟩,e,he=>by
  have:=h1.len hB
  rw[h3] at he
  rcases dS.mp he with rfl |he
  ·exact cw [p,b.length,r.length,room B p] 0x11000011050031011 0x10004001 0xd2201b15410072302691072071a13201b1541007 this aQ
  ·have:=Jr.gt hB h4 e he
   exact cw [p,e,b.length] bJ rG 0x10200041 this aQ
theorem Jr.snoc {B:Nat}:∀ {rs:ah (ah aA)}{p:Nat}{bs:ah aA}{es:ah Nat}{r b:ah aA},Jr B p rs bs es->Frs B (p+bs.length) ao r b->Jr B p (rs++[r]) (bs++b) (es++[p+(bs++b).length])
 |[],p,bs,es,r,b,⟨h1,h2⟩,hf=>by
  subst h1 h2
  exact⟨b,[],[],hf,by simp,by simp,rfl,rfl⟩
 |r0::rs,p,bs,es,r,b,⟨b0,yh,il,h1,h2,h3,h4⟩,hf=>by
  subst h2 h3
  have:=Jr.snoc h4 (by rw[bN,<- dT] at hf;exact hf)
  refine⟨b0,yh++b,il++[p+b0.length+(yh++b).length],h1,by simp,?_,this⟩
  simp;exact lE [p,b0.length,yh.length,b.length] rL 0x30204100044302041040042 aQ
theorem Jr.As {B:Nat}:∀ {rs:ah (ah aA)}{p:Nat}{bs:ah aA}{es:ah Nat},Jr B p rs bs es->rs.length=es.length
 |[],p,bs,es,h=>by rw[h.2];rfl
 |r::rs,p,bs,es,⟨b,yh,il,h1,h2,h3,h4⟩=>by rw[h3];simp [Jr.As h4]
theorem Jr.cut {B:Nat} (hB:8<=B):∀ {rs:ah (ah aA)}{p:Nat}{bs:ah aA}{es:ah Nat} (n:Nat),Jr B p rs bs es->Jr B p (rs.take (es.filter (· <=n)).length) (bs.take (((es.filter (· <=n)).getLast?.getD p)-p)) (es.filter (· <=n))/\p<=(es.filter (· <=n)).getLast?.getD p/\(es.filter (· <=n)).getLast?.getD p<=p+bs.length
 |[],p,bs,es,n,⟨h1,h2⟩=>by subst h1 h2;simp [Jr]
 |r::rs,p,bs,es,n,⟨b,yh,il,h1,h2,h3,h4⟩=>by
  subst h2 h3
  have Xf:=Jr.gt hB h4
  by_cases h:p+b.length<=n
  ·obtain⟨i1,i2,i3⟩:=Jr.cut hB n h4
   have e1:((p+b.length)::il).filter (· <=n)=(p+b.length)::il.filter (· <=n):=by simp [h]
   have e2:((p+b.length)::il.filter (· <=n)).getLast?.getD p=(il.filter (· <=n)).getLast?.getD (p+b.length):=by
    cases q:il.filter (· <=n) with
    |nil=>simp
    |cons x xs=>simp [TS]
   rw[e1,e2]
   refine⟨⟨b,yh.take ((il.filter (· <=n)).getLast?.getD (p+b.length)-(p+b.length)),il.filter (· <=n),h1,?_,rfl,?_⟩,by exact cw [p,(List.filter (fun(x:Nat) ↦ decide (x<=n)) il).getLast?.getD (p+b.length),b.length] bJ dP x7 i2 aQ,by simp at i3 ⊢;exact cw [(List.find? (fun(x:Nat) ↦ decide (x<=n)) il.reverse).getD (p+b.length),p,b.length,yh.length] bJ 0x30204104000 0x30201044000 i3 aQ⟩
   ·rw[Gn,mu (by exact gh [] 0x20100103 [b.length,(List.filter (fun(x:Nat) ↦ decide (x<=n)) il).getLast?.getD (p+b.length),p] Na rI 0x10002040 i2 aQ)]
    congr 2;exact lT [] 0x201040002030010000303 [(List.filter (fun(x:Nat) ↦ decide (x<=n)) il).getLast?.getD (p+b.length),p,b.length] 0x11000011006001900110011006012011000011006001101900190011007001100190019001100802212020110000110060019000110110060220110000001100800190001101100110080220110000001100800190011001100110080221202001 0x70502 aQ
   ·simpa using i1
  ·have e1:((p+b.length)::il).filter (· <=n)=[]:=by
    rw[I8]
    intro e he
    rcases dS.mp he with rfl |he
    ·simpa using h
    ·have:=Xf e he;simp;exact fu [n,e,p,b.length] 0x110110011040011 rG 0x3020406 0x10302041 h this aQ
   rw[e1]
   simp [Jr]
section
variable {n:Nat}{H:Hp}{r ra:ax}{d:ah aA}{B p gl:Nat}{tn:aj}
theorem RV {Q:PV}{X:PX} (h:H r=aa (.inst .xC [])) (hB:8<=B/\B<=100) (q:∀ ra H',cH r H H'->H' r=aa (Hh d B 0 ao 0 ra)->Q .none H'):aM (n+2) .nZ [.ref r,.bytes d,.int B,.int 2] H Q X:=by
 refine bA rfl (bo (bQ (aq (ai rfl) aE) (tO hB ⟨rfl,bo (bQ (aq (ai rfl) aE) (vT ⟨rfl,?_⟩))⟩)))
 refine cT (MF (ai rfl)) (ai rfl) h (aT rfl) (by decide) ?_
 refine bj (ai rfl) (ai rfl) (aT rfl) (by decide) ?_;refine bj (ai rfl) (ai rfl) (aT rfl) (by decide) ?_;refine bj aH (ai rfl) (aT rfl) (by decide) ?_;refine bj aH (ai rfl) (aT rfl) (by decide) ?_;refine bj fF (ai rfl) (aT rfl) (by decide) ?_;refine bj aH (ai rfl) (aT rfl) (by decide) ?_
 refine eP (iI aE (bX _) fun a ha=>yC (ai rfl) (bY (eY ha aN) aN) (aT rfl) (by decide) ?_)
 refine bj fF (ai rfl) (aT rfl) (by decide) ?_;refine bj aH (ai rfl) (aT rfl) (by decide) ?_;refine bj aH (ai rfl) (aT rfl) (by decide) ?_
 refine bG (q a _ (.set (.vk (.set (.refl _)) (lh (.set (.refl _)) (eY ha aN).symm ha))) ?_)
 rw[Hh,show cl B 0=0 from a8 (Nat.zero_mod B),Nat.min_zero,dU (LS _)]
 exact aN
theorem IC {Q:PV}{X:PX}{rs:ah (ah aA)}{bs:ah aA}{es:ah Nat} (hB:8<=B/\B<=100) (hl:d.length<=1000000) (h:H r=aa (Hh d B p tn gl ra)) (hp:p<=d.length) (hj:Jr B p rs bs es) (hd:d.drop p=bs.take (d.length-p)) (hr:∀ x∈rs,x.length<=100)
  (none_:(∀ e∈es,d.length < e)->∀ H' p' be sh tn,cH r H H'->H' r=aa (B7 d B p' be sh tn gl ra)->Q .none H')
  (aaU:∀ r1 Ph e yh il,rs=r1::Ph->es=e::il->e<=d.length->Jr B e Ph yh il->d.drop e=yh.take (d.length-e)->∀ H' tn,cH r H H'->H' r=aa (Hh d B e tn e ra)->Q (.bytes r1) H'):aM (n+3) .ki [.ref r] H Q X:=by
 cases rs with
 |nil=>
  obtain⟨rfl,rfl⟩:=hj
  have hr:=qf (L:=p) hB.1
  refine KP (rec:=[]) (bs:=_) (m:=0) hB hl h hp (Frs.last (by simp)) ⟨by exact lE [(List.replicate (gap B p) 0++jE (knd ao ag) []).length] hM 32 aQ,[],by simpa using hd,fun _=>rfl⟩ (by simp) (fun _ H' p' be sh tn k1 k2=>none_ nofun _ _ _ _ _ k1 k2) (fun q=>?_)
  have:=aW (· +0) q
  simp [jq] at this
 |cons r1 Ph=>
  obtain⟨b,yh,il,h1,h2,h3,h4⟩:=hj
  subst h2 h3
  have Xf:=Jr.gt hB.1 h4
  rw[Gn] at hd
  by_cases hc:b.length<=d.length-p
  ·rw[mu hc] at hd
   refine KP (m:=b.length) hB hl h hp h1 ⟨bD _,_,by rw[sE];exact hd,fun q=>by exact(cw [b.length] 0x110020 11 1 q aQ:False).elim⟩ (hr _ (.head _)) (fun q=>by exact(cw [b.length] 0x110020 11 1 q aQ:False).elim) (fun _ H' k1 k2=>aaU _ _ _ yh _ rfl rfl (nk [] 0x200103 [p,b.length,d.length] 0x11001100400190011001105002 x8 pO 0x30100 hp hc aQ) h4 ?_ _ _ k1 k2)
   have:=fo hd
   rw[this];congr 1;exact lT [] 0x201040002030010000303 [d.length,p,b.length] 0x11000011006001900110011006012011000011006001101900190011007001100190019001100802212020110000110060019000110110060220110000001100800190001101100110080220110000001100800190011001100110080221202001 0x70502 aQ
  ·refine KP (m:=d.length-p) hB hl h hp h1 ⟨by exact gh [] AQ [d.length,p,b.length] oZ tM 0x302006 hc aQ,_,hd,fun q=>by simp;lia⟩ (hr _ (.head _)) (fun q H' p' be sh tn k1 k2=>none_ (fun e he=>?_) _ _ _ _ _ k1 k2) (fun q=>by exact(nk [] 0x20100103 [b.length,d.length,p] 0x1101900040011 11 0x300006 770 hc q aQ:False).elim)
   rcases dS.mp he with rfl |he
   ·exact gh [] AQ [d.length,p,b.length] 0x1101100110400110011001105002011 mm 0x302006 hc aQ
   ·have:=Xf e he;exact nk [] 0x30000104 [d.length,e,b.length,p] 0x1101101100110500110011011001106002011 rG 0x402006 0x10203041 hc this aQ
def RS (d:ah aA) (B:Nat) (r ra:ax) (rs:ah (ah aA)) (es:ah Nat) (v:V) (H:Hp):Prop:=
 (v=.none/\(∀ e∈es,d.length < e)/\∃ p' be sh tn gl,H r=aa (B7 d B p' be sh tn gl ra))∨
 (∃ r1 Ph e yh il tn,v=.bytes r1/\rs=r1::Ph/\es=e::il/\e<=d.length/\Jr B e Ph yh il/\d.drop e=yh.take (d.length-e)/\H r=aa (Hh d B e tn e ra))
theorem DD {Q:PV}{X:PX}{rs:ah (ah aA)}{bs:ah aA}{es:ah Nat} (hB:8<=B/\B<=100) (hl:d.length<=1000000) (h:H r=aa (Hh d B p tn gl ra)) (hp:p<=d.length) (hj:Jr B p rs bs es) (hd:d.drop p=bs.take (d.length-p)) (hr:∀ x∈rs,x.length<=100)
  (q:∀ v H',cH r H H'->RS d B r ra rs es v H'->Q v H'):aM (n+3) .ki [.ref r] H Q X:=
 IC hB hl h hp hj hd hr (fun g H' p' be sh tn k1 k2=>q _ _ k1 (.inl ⟨rfl,g,p',be,sh,tn,_,k2⟩)) (fun r1 Ph e yh il g1 g2 g3 g4 g5 H' tn k1 k2=>q _ _ k1 (.inr ⟨r1,Ph,e,yh,il,tn,rfl,g1,g2,g3,g4,g5,k2⟩))
structure PS (H:Hp) (d:ah aA) (B:Nat) (r ra lr:ax) (cg:ah (ah aA)) (aX:ah Nat) (L:bZ) (H1:Hp) (v:V) (done:ah (ah aA)) (vH:ah Nat) (rs:ah (ah aA)) (es:ah Nat):Prop where
 El:L .eg=aa v
 rs_:RS d B r ra rs es v H1
 Mv:cg=done++rs
 Xs:aX=vH++es
 len:done.length=vH.length
 le_:∀ e∈vH,e<=d.length
 rd:L .sM=aa (.ref r)
 ls:L .iL=aa (.ref lr)
 bE:H1 lr=aa (.bE (done.map .bytes))
 good:L .lB=aa (nv (vH.getLast?.getD 0))
 le:H.le H1
def PJ (H:Hp) (d:ah aA) (B:Nat) (r ra lr:ax) (cg:ah (ah aA)) (aX:ah Nat) (k:Nat) (L:bZ) (H1:Hp):Prop:=
 ∃ v done vH rs es,k=rs.length/\PS H d B r ra lr cg aX L H1 v done vH rs es
theorem Ci {Q:PV}{X:PX}{cg:ah (ah aA)}{D:ah aA}{aX:ah Nat}{c:Nat} (hB:8<=B/\B<=100) (hj:Jr B 0 cg D aX) (hc:c<=D.length) (hl:D.length<=1000000) (hr:∀ x∈cg,x.length<=100) (hn:cg.length<=100000)
  (q:∀ H',H.le H'->Q (.tup [.bE ((cg.take (aX.filter (· <=c)).length).map .bytes),nv ((aX.filter (· <=c)).getLast?.getD 0)]) H'):aM (n+4) .xU [.bytes (D.take c),.int B,.int 2] H Q X:=by
 have xZ:(D.take c).length=c:=by rw[eW];exact dM hc
 have hdm:(D.take c).length<=1000000:=by rw[xZ];exact aK hc hl
 refine bA rfl (bM (lV (aq (ai rfl) (aq (ai rfl) (aq (ai rfl) aE))) rfl fun r OC=>RV (d:=D.take c) (B:=B) aN hB fun ra H1 k1 h1=>⟨rfl,?_⟩))
 have L1:H.le H1:=cH.le (iC OC) OC k1
 refine bM (iI aE (bX _) fun lr hlr=>aR aH ?_)
 have Y7:=none_le L1 hlr
 have Dq:=a_ h1 hlr
 have h2:=bY (o:=.bE []) Dq h1
 refine bM (bH (ai rfl) h2 rfl aE (DD (p:=0) (d:=D.take c) (rs:=cg) (es:=aX) hB hdm h2 (bX _) hj (by rw[xZ];rfl) hr fun v H2 k2 S2=>?_))
 refine Hb (u_ (PJ H (D.take c) B r ra lr cg aX) cg.length ⟨v,[],[],cg,aX,rfl,rfl,S2,rfl,rfl,rfl,nofun,rfl,rfl,k2 _ _ Dq.symm aN,rfl,cH.le (f5 L1 Y7) OC k2⟩ ?_)
 rintro k L H3 ⟨v,done,vH,rs,es,rfl,S⟩
 have g6:=S.le_
 have g2:=S.rs_
 rw[xZ] at g6
 rcases g2 with ⟨rfl,e2,p',be,sh,tn,gl,e3⟩ |⟨r1,Ph,e,yh,il,tn,rfl,rfl,rfl,e4,e5,e6,e7⟩
 ·rw[xZ] at e2
  have hf:aX.filter (· <=c)=vH:=by
   rw[S.Xs,Gv,L9.mpr (fun e he=>c9 (g6 e he)),I8.mpr (fun e he h=>gP (ij h) (e2 e he)),fT]
  rw[hf,<- S.len,S.Mv,Td] at q
  refine a9 (jl (qg (ai S.El)) rfl) _ _ ⟨ao,rfl,bC ?_⟩
  exact rb S.ls S.bE (cy (dw (aq (ai rfl) (aq (ai S.good) aE)) (aT rfl)) (q _ (Vv S.le Y7)))
 ·have abK:=aY e7 S.bE nofun
  have abQ:done.length<=100000:=by rw[S.Mv,bN] at hn;exact aK (ft ..) hn
  have e8:=bY (o:=.bE (done.map .bytes++[.bytes r1])) abK e7
  refine a9 (dK (YJ (ai S.El)) rfl (cP (cU (aP (ai S.rd) e7 rfl) aH))) _ _ ⟨ag,rfl,?_⟩
  refine bo (oW (ai S.ls) S.bE (ai S.El) (by rw[cF];exact cE abQ (by decide)) ⟨rfl,aR (aP (ai S.rd) e8 rfl) (bM (bH (ai S.rd) e8 rfl aE ?_))⟩)
  refine DD (p:=e) (d:=D.take c) (rs:=Ph) (es:=il) hB hdm e8 e4 e5 e6 (fun x hx=>hr x (by rw[S.Mv];exact t4 _ (.tail _ hx))) fun v H4 k4 S4=>?_
  refine bG ⟨Ph.length,nS _,v,done++[r1],vH++[e],Ph,il,rfl,rfl,S4,by rw[S.Mv,dF];rfl,by rw[S.Xs,dF];rfl,by rw[bN,bN,S.len];rfl,?_,S.rd,S.ls,?_,?_,cH.le (f5 S.le Y7) OC k4⟩
  ·intro x hx
   rcases iS.mp hx with hx |hx
   ·exact S.le_ x hx
   ·rw[eR.mp hx];exact e4
  ·rw[f7];exact k4 lr _ abK.symm aN
  ·rw[So];rfl
end
structure Lg where
 az:Nat
 bt:Nat
 gK:ah Nat
 now:ah Nat
 br:Nat
 eM:Nat
 app:Nat
noncomputable def dY (i:Nat) (ts:ah Nat):ah V:=(ents i ts).map En.v
noncomputable def Lg.tm (σ:Lg) (i:Nat):Nat:=if i=σ.az then σ.bt else σ.now.getD (i-σ.az-1) 0
structure Lg.Ok (σ:Lg):Prop where
 k1:σ.br<=σ.gK.length
 k2:σ.br<=σ.now.length
 k3:σ.gK.take σ.br=σ.now.take σ.br
 k4:σ.br=σ.now.length->σ.gK.length=σ.br
 b:σ.az<=100000
 n1:σ.now.length<=400
 n2:σ.gK.length<=400
 t1:∀ t∈σ.now,t < 2 ^ 32
 t2:∀ t∈σ.gK,t < 2 ^ 32
 bt:σ.bt < 2 ^ 32
 c:σ.eM<=σ.az+σ.now.length
 a1:σ.az<=σ.app
 a2:σ.app<=σ.eM
noncomputable def mZ (σ:Lg) (hv cv sv:V):Mo:=.inst .iz [(.cO,hv),(.dq,cv),(.xG,sv),(.cD,nv σ.az),(.bU,nv σ.bt),(.aS,.bE (dY (σ.az+1) σ.gK))]
noncomputable def D9 (σ:Lg):Mo:=.inst .j' [(.cZ,.none),(.aS,.bE (dY (σ.az+1+σ.br) (σ.now.drop σ.br))),(.cJ,nv (σ.az+1+σ.br))]
noncomputable def lgO (σ:Lg) (st un:ax):Mo:=.inst .wk [(.cV,.ref st),(.fB,.int 1048576),(.fN,.ref un),(.b5,nv σ.eM),(.d9,nv σ.app)]
structure eB (H:Hp) (lg st un:ax) (σ:Lg):Prop where
 lg:H lg=aa (lgO σ st un)
 st:∃ hv cv sv,H st=aa (mZ σ hv cv sv)
 un:H un=aa (D9 σ)
 ok:σ.Ok
theorem cQ (i:Nat) (ts:ah Nat):(dY i ts).length=ts.length:=(cF ..).trans (fh i ts)
theorem pL {i:Nat}{ts:ah Nat}{k t:Nat} (h:ts[k]? =aa t):(dY i ts)[k]? =aa (kF t (i+k)).v:=by
 unfold dY;rw[BP,rD,h];rfl
section
variable {C:CC}{L:bZ}{H:Hp}{e c:E}{k j:Nat}
theorem gu (p:PE C L H e (.int k)) (q:PE C L H c (.int j)):PE C L H (.cB e .lt c) (.bool (decide (k < j))):=gF (eL p q) (aW Vx.bool (kW.mpr sA))
theorem fk (p:PE C L H e (.int k)) (q:PE C L H c (.int j)):PE C L H (.cB e .gt c) (.bool (decide (j < k))):=gF (kn p q) (aW Vx.bool (kW.mpr sA))
theorem kJ (p:PE C L H e (.int k)) (q:PE C L H c (.int j)):PE C L H (.cB e .le c) (.bool (decide (k<=j))):=gF (WZ p q) (aW Vx.bool (kW.mpr uO))
theorem Qs (p:PE C L H e (.int k)) (q:PE C L H c (.int j)):PE C L H (.cB e .ge c) (.bool (decide (j<=k))):=gF (m9 p q) (aW Vx.bool (kW.mpr uO))
theorem fE (p:PE C L H e (.int k)) (q:PE C L H c (.int j)):PE C L H (.cB e .eq c) (.bool (decide (k=j))):=gF (cU p q) (aW Vx.bool (kW.mpr LJ))
theorem ri (p:PE C L H e (.int k)) (q:PE C L H c (.int j)):PE C L H (.cB e .ne c) (.bool (!decide (k=j))):=gF (kI p q) (aW (fun b=>Vx.bool !b) (kW.mpr LJ))
theorem c6 (p:PE C L H e (.int k)) (q:PE C L H c (.int j)) (h:j<=k):PE C L H (.bR .sub e c) (.int (k-j:Nat)):=eV (jb p q) (LI h).symm
theorem G7 {i:Nat} (h:i < 2 ^ 40):small (i:Int):=fq h (by decide)
theorem Mr {rz tup:aj}{b r:Ss}{h:Hr}{cs:ah Cn}{Q:PO}{X:fj} (k:wSs C ao b L H (i9 C rz r Q X) (fun c L1 H1=>cs.any c.under=ag/\wH h L1 H1 (i9 C rz r Q X))):wSs C rz (.cons (.Ea b tup cs h) r) L H Q X:=k
end
section
variable {C:CC}{L:bZ}{n:Nat}{H:Hp}{Q:PV}{X:PX}{lg st un:ax}{σ:Lg}{e:E}
theorem kE (h:H un=aa (D9 σ)) (p:PE C L H e (.ref un)):PE C L H (.aV e .cJ) (nv (σ.az+1+σ.br)):=aP p h rfl
theorem Jz (h:H un=aa (D9 σ)) (o:σ.Ok) (p:PE C L H e (.ref un)):PE C L H (.bc .len (.cons (.aV e .aS) .nil)) (nv (σ.now.length-σ.br)):=
 have hl:(dY (σ.az+1+σ.br) (σ.now.drop σ.br)).length=σ.now.length-σ.br:=(cQ ..).trans (fJ ..)
 gF (eX (aP p h rfl) (by rw[hl];exact aK (jc ..) (aK o.n1 (by decide)))) (by rw[hl];rfl)
theorem ui (h:H un=aa (D9 σ)) (o:σ.Ok) (p:PE C L H e (.ref un)):PE C L H (.bR .add (.aV e .cJ) (.bc .len (.cons (.aV e .aS) .nil))) (nv (σ.az+1+σ.now.length)):=
 gF (cS (kE h p) (Jz h o p)) (by rw[dT (σ.az+1),gZ o.k2];rfl)
theorem IB {hv cv sv:V} (h:H st=aa (mZ σ hv cv sv)) (q:Q (nv (σ.az+1)) H):aM (n+1) .ja [.ref st] H Q X:=
 bA rfl (cy (dO (aP (ai rfl) h rfl)) q)
theorem Ni {hv cv sv:V} (h:H st=aa (mZ σ hv cv sv)) (hl:σ.gK.length<=1000) (q:Q (nv (σ.az+σ.gK.length)) H):aM (n+1) .jw [.ref st] H Q X:=
 bA rfl (cy (cS (aP (ai rfl) h rfl) (gF (eX (aP (ai rfl) h rfl) (by rw[cQ];exact aK hl (by decide))) (by rw[cQ]))) q)
theorem RW (h:H un=aa (D9 σ)) (q:Q .none H):aM (n+1) .lL [.ref un] H Q X:=
 bA rfl (bK (qg (aP (ai rfl) h rfl)) rfl (cy iP q))
theorem V4 (h:H un=aa (D9 σ)) (o:σ.Ok) (q:Q (if σ.br < σ.now.length then nv (σ.az+σ.now.length) else .none) H):aM (n+1) .mw [.ref un] H Q X:=by
 refine bA rfl ?_
 by_cases hc:σ.br < σ.now.length
 ·rw[a8 hc] at q
  exact c5 (fk (Jz h o (ai rfl)) aH) (dD (BO hc)) (cy (eV (jb (ui h o (ai rfl)) aH) (lE [σ.az,σ.now.length] rL 0x1000411210120044175 aQ)) q)
 ·rw[bb hc] at q
  exact bK (fk (Jz h o (ai rfl)) aH) (cb (gh [] vM [σ.now.length,σ.br] 0x11000110006001900110110006002011001 0x200216 0x1016 hc aQ)) (bK (qg (aP (ai rfl) h rfl)) rfl (cy iP q))
theorem RX (A:eB H lg st un σ) (q:Q (nv (σ.az+1)) H):aM (n+2) .mx [.ref lg] H Q X:=by
 obtain⟨hv,cv,sv,hs⟩:=A.st
 exact bA rfl (bM (bH (aP (ai rfl) A.lg rfl) A.un rfl aE (RW A.un (bK (qg (ai rfl)) rfl (gN (bH (aP (ai rfl) A.lg rfl) hs rfl aE (IB hs q)))))))
theorem Nl (A:eB H lg st un σ) (q:Q (nv (σ.az+σ.now.length)) H):aM (n+2) .nV [.ref lg] H Q X:=by
 obtain⟨hv,cv,sv,hs⟩:=A.st
 refine bA rfl (bM (bH (aP (ai rfl) A.lg rfl) A.un rfl aE (V4 A.un A.ok ?_)))
 by_cases hc:σ.br < σ.now.length
 ·rw[a8 hc]
  exact c5 (Qr (ai rfl)) rfl (cy (ai rfl) q)
 ·rw[bb hc]
  have:σ.br=σ.now.length:=BL A.ok.k2 (iD hc)
  refine bK (qg (ai rfl)) rfl (gN (bH (aP (ai rfl) A.lg rfl) hs rfl aE (Ni hs (aK A.ok.n2 (by decide)) ?_)))
  rw[A.ok.k4 this,this];exact q
theorem rt (A:eB H lg st un σ) (p:PE (aM (n+2)) L H e (.ref lg)):PE (aM (n+2)) L H (.bk e .de .nil) (nv (σ.az+1)):=d_ p A.lg rfl aE fun _ _ q=>RX A q
theorem jZ (A:eB H lg st un σ) (p:PE (aM (n+2)) L H e (.ref lg)):PE (aM (n+2)) L H (.bk e .cn .nil) (nv (σ.az+σ.now.length)):=d_ p A.lg rfl aE fun _ _ q=>Nl A q
theorem vg {hv cv sv:V} (h:H st=aa (mZ σ hv cv sv)) (p:PE (aM (n+1)) L H e (.ref st)):PE (aM (n+1)) L H (.bk e .de .nil) (nv (σ.az+1)):=d_ p h rfl aE fun _ _ q=>IB h q
theorem zc {hv cv sv:V} (h:H st=aa (mZ σ hv cv sv)) (hl:σ.gK.length<=1000) (p:PE (aM (n+1)) L H e (.ref st)):PE (aM (n+1)) L H (.bk e .cn .nil) (nv (σ.az+σ.gK.length)):=d_ p h rfl aE fun _ _ q=>Ni h hl q
theorem JA {i:Nat} (h1:σ.az < i) (h2:i-(σ.az+1) < σ.now.length):σ.now[i-(σ.az+1)]? =aa (σ.tm i):=by
 unfold Lg.tm
 rw[bb (BF h1),O',Sz,lK h2];rfl
theorem Nj {i:Nat} (h:H un=aa (D9 σ)) (o:σ.Ok) (q:Q (if σ.az+1+σ.br<=i/\i < σ.az+1+σ.now.length then nv (σ.tm i) else .none) H):aM (n+1) .mv [.ref un,.int i] H Q X:=by
 refine bA rfl ?_
 by_cases c1:i < σ.az+1+σ.br
 ·rw[bb (fun h=>gP h.1 c1)] at q
  exact c5 (gu (ai rfl) (kE h (ai rfl))) (dD c1) (bK (a9 (jl (qg (aP (ai rfl) h rfl)) rfl)) rfl (cy iP q))
 ·refine bK (gu (ai rfl) (kE h (ai rfl))) (cb c1) ?_
  by_cases c2:i < σ.az+1+σ.now.length
  ·have c1':=iD c1
   rw[a8 ⟨c1',c2⟩] at q
   refine bK (Qs (ai rfl) (ui h o (ai rfl))) (cb (Gm c2)) ?_
   have hg:(σ.now.drop σ.br)[i-(σ.az+1+σ.br)]? =aa (σ.tm i):=by
    rw[BS,<- JA (σ:=σ) (i:=i) (by exact cw [σ.az,i,σ.br] oZ rG 0x201200441016 c1 aQ) (by exact nk [] 0x12104000104 [i,σ.az,σ.now.length,σ.br] 0x1101100005001900011001106002011 0x20401 0x301210440016 0x20121044001 c1 c2 aQ)]
    exact aW (σ.now[·]?) (gh [] 0x1220410000122044100203 [σ.br,i,σ.az] 0x11001100050011019001100007001100190011000080120201100110005001100001100070019001100110000801202001011 0x50300042 0x1220441016 c1 aQ)
   refine cy (bI (gG (aP (ai rfl) h rfl) (c6 (ai rfl) (kE h (ai rfl)) c1') (pL hg) ?_) rfl) q
   rw[cQ,fJ];exact aK (jc ..) (aK o.n1 (by decide))
  ·rw[bb (fun h=>c2 h.2)] at q
   exact c5 (Qs (ai rfl) (ui h o (ai rfl))) (dD (iD c2)) (cy iP q)
theorem V0 {hv cv sv:V}{i:Nat} (h:H st=aa (mZ σ hv cv sv)) (o:σ.Ok) (h1:σ.az<=i) (h2:i<=σ.az+σ.br) (q:Q (nv (σ.tm i)) H):aM (n+2) .kz [.ref st,.int i] H Q X:=by
 have g1:=aK o.n2 (show 400<=1000 by decide)
 refine bA rfl (bK (gu (ai rfl) (aP (ai rfl) h rfl)) (cb (gP h1)) ?_)
 refine bK (fk (ai rfl) (zc h g1 (ai rfl))) (cb (gP (aK h2 (dW o.k1 _)))) ?_
 by_cases hb:i=σ.az
 ·unfold Lg.tm at q
  rw[a8 hb] at q
  exact c5 (fE (ai rfl) (aP (ai rfl) h rfl)) (dD hb) (cy (aP (ai rfl) h rfl) q)
 ·have lW:σ.az < i:=xv h1 (l6 hb)
  have hk:i-(σ.az+1) < σ.br:=by exact EN [] 0x12104000103 [i,σ.az,σ.br] 0x110110000007001900000110011080020110000110060041031 0x20301 256 oH 0x100026 h1 h2 hb aQ
  have hg:σ.gK[i-(σ.az+1)]? =aa (σ.tm i):=by
   have e1:σ.gK[i-(σ.az+1)]? =(σ.gK.take σ.br)[i-(σ.az+1)]? :=(pY hk).symm
   rw[e1,o.k3,pY hk]
   exact JA lW (ma hk o.k2)
  refine bK (fE (ai rfl) (aP (ai rfl) h rfl)) (cb hb) ?_
  exact cy (bI (gG (aP (ai rfl) h rfl) (c6 (ai rfl) (vg h (ai rfl)) lW) (pL hg) (by rw[cQ];exact aK g1 (by decide))) rfl) q
theorem eB.bound (A:eB H lg st un σ):σ.az+σ.now.length<=100400:=fS A.ok.b A.ok.n1
theorem Fo {i:Nat} (A:eB H lg st un σ) (hi:i < 2 ^ 40) (h1:σ.az<=i) (q:i<=σ.az+σ.now.length->Q (nv (σ.tm i)) H) (x:σ.az+σ.now.length < i->X .hU H):aM (n+3) .wj [.ref lg,.int i] H Q X:=by
 obtain⟨hv,cv,sv,hs⟩:=A.st
 refine bA rfl (bM (bH (aP (ai rfl) A.lg rfl) A.un rfl (aq (ai rfl) aE) (Nj A.un A.ok ?_)))
 by_cases hc:σ.az+1+σ.br<=i/\i < σ.az+1+σ.now.length
 ·rw[a8 hc]
  exact c5 (Qr (ai rfl)) rfl (cy (ai rfl) (q (cw [i,σ.az,σ.now.length,σ.br] 0x1100011040011 oH 0x20121044001003012104407 hc aQ)))
 ·rw[bb hc]
  refine bK (qg (ai rfl)) rfl (bK (gu (dO (ai rfl)) (rt A (ai rfl))) (cb (gP (eG h1))) ?_)
  by_cases hl:i<=σ.az+σ.now.length
  ·refine bK (fk (ai rfl) (jZ A (ai rfl))) (cb (gP hl)) ?_
   exact gN (bH (aP (ai rfl) A.lg rfl) hs rfl (aq (ai rfl) aE) (V0 hs A.ok h1 (fu [i,σ.az,σ.br,σ.now.length] 0x11001100050011000011050031011 oH 0x301210440010020121044076 0x30104000 hc hl aQ) (q hl)))
  ·have VJ:=Gp hl
   exact c5 (fk (ai rfl) (jZ A (ai rfl))) (dD VJ) (ot (U2 (zg la (zg (Qi (ai rfl) (G7 hi)) (zg la (zg (Qi (jZ A (ai rfl)) (G7 (fq VJ hi))) YE))))) (x VJ))
theorem vR {i t:Nat} (A:eB H lg st un σ) (hi:i < 2 ^ 40) (h1:σ.az<=i) (q:Q (.bool (decide (i<=σ.az+σ.now.length/\σ.tm i=t))) H):aM (n+4) .nU [.ref lg,.int i,.int t] H Q X:=by
 refine bA rfl (Mr ?_)
 by_cases hl:i<=σ.az+σ.now.length
 ·exact cy (gF (fE (d_ (ai rfl) A.lg rfl (aq (ai rfl) aE) fun _ _ q=>Fo A hi h1 (fun _=>q) fun x=>absurd hl (Gm x)) (ai rfl)) (aW Vx.bool (kW.mpr ⟨fun h=>⟨hl,h⟩,fun h=>h.2⟩))) q
 ·rw[dU (fun h=>hl h.1)] at q
  exact gN (bH (ai rfl) A.lg rfl (aq (ai rfl) aE) (Fo A hi h1 (fun x=>absurd x hl) fun _=>⟨rfl,q⟩))
theorem ace (A:eB H lg st un σ) (q:Q (nv (σ.tm (σ.az+σ.now.length))) H):aM (n+4) .oN [.ref lg] H Q X:=
 bA rfl (Mr (gN (bH (ai rfl) A.lg rfl (aq (jZ A (ai rfl)) aE) (Fo A (cE A.bound (by decide)) (ft ..) (fun _=>q) (fun hl=>absurd hl (sD _))))))
noncomputable def fc (now:ah Nat):Nat->ah Nat->aC Nat
 |_,[]=>au
 |k,t::ts=>if now[k]? =aa t then fc now (k+1) ts else aa k
theorem Eb (σ:Lg) (k t:Nat):(σ.az+1+k<=σ.az+σ.now.length/\σ.tm (σ.az+1+k)=t)↔σ.now[k]? =aa t:=by
 by_cases h:k < σ.now.length
 ·have:=JA (σ:=σ) (i:=σ.az+1+k) (lE [σ.az,k] hM 0x10120044001 aQ) (by rw[pX];exact h)
  rw[pX] at this
  rw[this]
  exact⟨fun h=>aW aa h.2,fun e=>⟨by exact cw [σ.az,k,σ.now.length] bJ 0x20004101200440 0x20101 h aQ,eH e⟩⟩
 ·rw[By (iD h)]
  exact⟨fun x=>absurd x.1 (cw [σ.az,k,σ.now.length] vN 0x200041012004406 0x201016 h aQ),nofun⟩
theorem ZI {k0:Nat}{ts:ah Nat} (A:eB H lg st un σ) (hk:k0+ts.length<=1000) (q:Q (nv (match fc σ.now k0 ts with |none=>0 |some k=>σ.az+1+k)) H):aM (n+5) .ky [.ref lg,.bE (dY (σ.az+1+k0) ts)] H Q X:=by
 have b1:=A.ok.b
 refine bA rfl (tG (ai rfl) rfl (Aq (fun r L H1=>∃ j us,r=dY (σ.az+1+j) us/\fc σ.now j us=fc σ.now k0 ts/\j+us.length<=1000/\L .aG=aa (.ref lg)/\H1=H) ?_ ?_ ⟨k0,ts,rfl,rfl,hk,rfl,rfl⟩))
 ·rintro v r L H1 ⟨j,us,e1,e2,e3,e4,rfl⟩
  refine⟨rfl,?_⟩
  cases us with
  |nil=>contradiction
  |cons u us=>
   obtain⟨rfl,rfl⟩:=SV (e1:_::_=(kF u (σ.az+1+j)).v::dY (σ.az+1+j+1) us)
   rw[jf] at e3
   rw[<- e2] at q
   have hj:σ.az+1+j < 2 ^ 40:=by exact fu [σ.az,j,us.length] eI 0x1000000000063101200441 0x186a033000 0x3e823122041040 b1 e3 aQ
   have hb:σ.az<=σ.az+1+j:=by exact lE [σ.az,j] hM 0x10120044000 aQ
   by_cases hc:σ.now[j]? =aa u
   ·refine bK (lS (d_ (ai e4) A.lg rfl (aq (bI (ai rfl) rfl) (aq (bI (ai rfl) rfl) aE)) fun _ _ q=>vR A hj hb q) (aW aa (c9 ((Eb σ j u).mpr hc)))) rfl (bG ⟨j+1,us,rfl,?_,by exact cw [j,us.length] bJ 0x3e823101200440 0x3e823121040040 e3 aQ,e4,rfl⟩)
    rw[<- e2,fc,a8 hc]
   ·rw[fc,bb hc] at q
    exact c5 (lS (d_ (ai e4) A.lg rfl (aq (bI (ai rfl) rfl) (aq (bI (ai rfl) rfl) aE)) fun _ _ q=>vR A hj hb q) (aW aa (dU fun h=>hc ((Eb σ j u).mp h)))) rfl (cy (bI (ai rfl) rfl) q)
 ·rintro L H1 ⟨j,us,e1,e2,e3,e4,rfl⟩
  refine⟨rfl,?_⟩
  cases us with
  |cons u us=>contradiction
  |nil=>rw[<- e2] at q;exact bC (cy aH q)
end
theorem tc {α:Type} (xs:ah α) (p q:Nat):(cut xs p q).length=min (q-p) (xs.length-p):=(eW ..).trans (aW (min (q-p)) (fJ ..))
theorem Ij (i:Nat) (ts:ah Nat) (p q:Nat):cut (dY i ts) p q=dY (i+p) (cut ts p q):=by
 unfold cut dY
 rw[<- F_,<- sC,pK,mQ]
theorem OL {α:Type} (xs:ah α){k a b:Nat} (h1:k<=a) (h2:a<=b):cut (xs.drop k) (a-k) (b-k)=cut xs a b:=by
 unfold cut
 rw[xh,gZ h1,Nat.sub_sub_sub_cancel_right h1]
theorem M9 {α:Type} (xs:ah α){a b:Nat} (h:xs.length<=b):cut xs a b=xs.drop a:=
 mu (by rw[fJ];exact wg h a)
theorem VU {α:Type} (xs:ah α){a k b:Nat} (h1:a<=k) (h2:k<=b):cut xs a k++cut xs k b=cut xs a b:=by
 unfold cut
 have:=List.take_add (i:=k-a) (j:=b-k) (l:=xs.drop a)
 rw[nP,Nat.sub_add_sub_cancel h2 h1,xh,gZ h1] at this
 exact this.symm
theorem RH {α:Type} (xs ys:ah α){a b k:Nat} (h:xs.take k=ys.take k) (hb:b<=k):cut xs a b=cut ys a b:=by
 have e:∀ zs:ah α,cut zs a b=((zs.take k).drop a).take (b-a):=fun zs=>by
  unfold cut
  rw[Tb,qx,dM (wg hb a)]
 rw[e xs,e ys,h]
theorem Mz {C:CC}{L:bZ}{H:Hp}{e:E}{xs:ah V} (p:PE C L H e (.bE xs)) (hl:xs.length<=line):PE C L H (.slice ag e .none .none) (.bE xs):=fun Q X z=>p _ _
 ⟨0,xs.length,hl,rfl,rfl,aK (gm _ _ _) hl,by rw[vJ];exact z⟩
theorem AM (i:Nat) (ts us:ah Nat):dY i (ts++us)=dY i ts++dY (i+ts.length) us:=by unfold dY;rw[rE,f7]
noncomputable def Lg.ext (σ:Lg) (k:Nat) (us:ah Nat):Lg:={σ with now:=σ.now.take k++us,br:=min σ.br k}
theorem M4 {xs us:ah Nat}{k:Nat} (hk:k<=xs.length):(xs.take k++us).length=k+us.length:=by rw[bN,eW,dM hk]
theorem Lg.Ok.ext {σ:Lg} (o:σ.Ok){k:Nat}{us:ah Nat} (hk:k<=σ.now.length) (hu:us≠[]) (hn:k+us.length<=400) (ht:∀ t∈us,t < 2 ^ 32) (hc:σ.eM<=σ.az+k):(σ.ext k us).Ok:=by
 have e:=M4 (us:=us) hk
 have hl:k < (σ.now.take k++us).length:=by rw[e];exact NB (qB.mpr hu)
 have hm:=je σ.br k
 refine⟨aK (Gf _ _) o.k1,aK hm (fH hl),?_,fun q=>absurd (cE hm hl) (gP (gY q.symm)),o.b,aK (gY e) hn,o.n2,fun t h=>?_,o.t2,o.bt,aK hc (dW (fH hl) _),o.a1,o.a2⟩
 ·show σ.gK.take (min σ.br k)=(σ.now.take k++us).take (min σ.br k)
  have:=aW (List.take (min σ.br k)) o.k3
  rw[qx,qx,dM (Gf _ _)] at this
  rw[SR (by rw[eW,dM hk];exact hm),qx,dM hm]
  exact this
 ·rcases iS.mp h with h |h
  ·exact o.t1 t (yk h)
  ·exact ht t h
section
variable {n:Nat}{H:Hp}{Q:PV}{X:PX}{lg st un:ax}{σ:Lg}
theorem KQ {a b:Nat} (h:H un=aa (D9 σ)) (o:σ.Ok) (h1:σ.br<=a) (h2:a<=b) (h3:b<=σ.now.length) (q:Q (.bE (dY (σ.az+1+a) (cut σ.now a b))) H):aM (n+1) .t6 [.ref un,nv (σ.az+1+a),nv (σ.az+1+b)] H Q X:=by
 have hl:(dY (σ.az+1+σ.br) (σ.now.drop σ.br)).length=σ.now.length-σ.br:=(cQ ..).trans (fJ ..)
 refine bA rfl (bK (fk (ai rfl) (ai rfl)) (cb (gP (dW h2 _))) ?_)
 refine bK (a9 (dK (gu (ai rfl) (kE h (ai rfl))) (cb (gP (dW h1 _))) (cP (fk (ai rfl) (ui h o (ai rfl)))))) (cb (gP (dW h3 _))) ?_
 refine cy (gF (JO (k:=a-σ.br) (q:=b-σ.br) (aP (ai rfl) h rfl) (gF (c6 (ai rfl) (kE h (ai rfl)) (dW h1 _)) (by rw[Nt])) (gF (c6 (ai rfl) (kE h (ai rfl)) (dW (aK h1 h2) _)) (by rw[Nt])) ?_ ?_ ?_) ?_) q
 ·rw[hl];exact wg (aK h2 h3) _
 ·rw[hl];exact wg h3 _
 ·rw[hl];exact aK (jc ..) (aK o.n1 (by decide))
 ·rw[Ij,OL _ h1 h2,dT,gZ h1]
theorem UL {k:Nat}{us:ah Nat} (hk:k<=σ.now.length):D9 (σ.ext k us)=.inst .j' [(.cZ,.none),(.aS,.bE (dY (σ.az+1+min σ.br k) (cut σ.now (min σ.br k) k)++dY (σ.az+1+k) us)),(.cJ,nv (σ.az+1+min σ.br k))]:=by
 have h:=je σ.br k
 have e:(σ.now.take k++us).drop (min σ.br k)=cut σ.now (min σ.br k) k++us:=by
  rw[List.drop_append_of_le_length (by rw[eW,dM hk];exact h),Tb];rfl
 have e2:dY (σ.az+1+min σ.br k) ((σ.now.take k++us).drop (min σ.br k))=dY (σ.az+1+min σ.br k) (cut σ.now (min σ.br k) k)++dY (σ.az+1+k) us:=by
  rw[e,AM,tc,dM (wg hk _),dT (σ.az+1),gZ h]
 exact aW (fun x=>Mo.inst .j' [(.cZ,.none),(.aS,.bE x),(.cJ,nv (σ.az+1+min σ.br k))]) e2
theorem VY {k:Nat}{us:ah Nat} (h:H un=aa (D9 σ)) (o:σ.Ok) (hk:k<=σ.now.length) (hu:us≠[]) (hn:k+us.length<=400) (q:Q .none (H.set un (D9 (σ.ext k us)))):aM (n+2) .iv [.ref un,.bE (dY (σ.az+1+k) us)] H Q X:=by
 have yG:=qB.mpr hu
 have uX:(dY (σ.az+1+k) us).length<=line:=by rw[cQ];exact aK (j_ _ k) (aK hn (by decide))
 have lP:∀ xs:ah V,xs.length<=400->xs.length+(dY (σ.az+1+k) us).length<=line:=fun xs h=>by rw[cQ];exact aK (fS h (aK (j_ _ k) hn)) (by decide)
 have wV:∃ u,(dY (σ.az+1+k) us)[0]? =aa (kF u (σ.az+1+k)).v:=by
  cases us with
  |nil=>exact(hu rfl).elim
  |cons u us=>exact⟨u,rfl⟩
 obtain⟨u,wV⟩:=wV
 rw[UL hk] at q
 refine bA rfl (bK (fE (eX (ai rfl) uX) aH) (cb (by rw[cQ];exact BF yG)) ?_)
 refine aR (bI (gG (k:=0) (ai rfl) aH wV uX) rfl) ?_
 by_cases c1:k=σ.now.length
 ·refine c5 (fE (ai rfl) (ui h o (ai rfl))) (dD (aW _ c1)) ?_
  refine cT (oA (aP (ai rfl) h rfl) (ai rfl) (lP _ ?_)) (ai rfl) h (aT rfl) (by decide) (bG (bC (bG ?_)))
  ·rw[cQ,fJ];exact aK (jc ..) o.n1
  ·rw[c1,dM o.k2,vJ] at q
   rw[c1];exact q
 ·have lW:k < σ.now.length:=xv hk c1
  refine mh (fE (ai rfl) (ui h o (ai rfl))) (cb fun e=>c1 (Gz e)) ?_
  by_cases c2:k<=σ.br
  ·rw[qz c2,show cut σ.now k k=[] by unfold cut;rw[BE,LP]] at q
   refine c5 (kJ (ai rfl) (kE h (ai rfl))) (dD (dW c2 _)) (cT (ai rfl) (ai rfl) h (aT rfl) (by decide) ?_)
   exact bj (Mz (ai rfl) uX) (ai rfl) (aT rfl) (by decide) (bG (bC (bG (bC (bG q)))))
  ·have c2':=xm c2
   rw[dM c2'] at q
   refine mh (kJ (ai rfl) (kE h (ai rfl))) (cb fun e=>c2 (DS e)) (c5 (gu (ai rfl) (ui h o (ai rfl))) (dD (Gy lW _)) ?_)
   have hp:∀ {L:bZ},L .aG=aa (.ref un)->L .qb=aa (nv (σ.az+1+k))->PE (aM (n+1)) L H (.bk (.aB .aG) .CU (.cons (.aV (.aB .aG) .cJ) (.cons (.aB .qb) .nil))) (.bE (dY (σ.az+1+σ.br) (cut σ.now σ.br k))):=fun h1 h2=>d_ (ai h1) h rfl (aq (kE h (ai h1)) (aq (ai h2) aE)) fun _ _ q=>KQ h o (bD _) c2' hk q
   refine cT (oA (hp rfl rfl) (ai rfl) (lP _ ?_)) (ai rfl) h (aT rfl) (by decide) (bG (bC (bG (bC (bG (bC (bG q)))))))
   rw[cQ,tc];exact aK (je ..) (aK (jc ..) o.n1)
end
section
variable {C:CC}{L:bZ}{H:Hp}{e c:E}{x u:V}{xs ys:ah V}{k:Nat}
theorem qk {x:V}{xs:ah V} (h:listOf H x=aa xs):x=.bE xs∨∃ a,x=.ref a/\H a=aa (.bE xs):=by
 cases x with
 |bE ys=>cases h;exact .inl rfl
 |ref a=>
  exact .inr ⟨a,rfl,Lm h⟩
 |_=>contradiction
theorem Va (p:PE C L H e x) (h:listOf H x=aa xs) (hl:xs.length<=line):PE C L H (.bc .len (.cons e .nil)) (.int xs.length):=by
 rcases qk h with rfl |⟨a,rfl,ha⟩
 ·exact eX p hl
 ·exact ox p ha hl
theorem MC (p:PE C L H e x) (h:listOf H x=aa xs) (q:PE C L H c (.int k)) (g:xs[k]? =aa u) (hl:xs.length<=line):PE C L H (.idx e c) u:=by
 rcases qk h with rfl |⟨a,rfl,ha⟩
 ·exact gG p q g hl
 ·exact Vb p ha q g hl
theorem Vf (p:PE C L H e (.bE ys)) (q:PE C L H c x) (h:listOf H x=aa xs) (hl:ys.length+xs.length<=line):PE C L H (.bR .add e c) (.bE (ys++xs)):=by
 rcases qk h with rfl |⟨a,rfl,ha⟩
 ·exact oA p q hl
 ·exact fun Q X z=>p _ _ (q _ _ ⟨ys,xs,rfl,h,hl,z⟩)
end
theorem E9 {n:Nat}{x:Nm}{b:Ss}{Q:PO}{X:fj}{L:bZ}{H:Hp}{k:Nat} (c:Nat) (hc:k=c) (I:Nat->bZ->Hp->Prop) (h0:I 0 L H)
  (step:∀ m L H,m < c->I m L H->wSs (aM n) ao b (L.set x (nv m)) H (GX Q (I (m+1))) X)
  (fin:∀ L H,I c L H->Q .next L H):BY x (fun L H Q X=>wSs (aM n) ao b L H Q X) Q X k 0 L H:=
 Ky c hc I h0 (fun m L H hm h=>by rw[SQ];exact step m L H hm h) fin
section
variable {n:Nat}{H:Hp}{Q:PV}{X:PX}{lg st un:ax}{σ:Lg}
theorem eB.ls (A:eB H lg st un σ):lg≠st:=by
 obtain⟨hv,cv,sv,h⟩:=A.st
 exact aY A.lg h nofun
theorem eB.lu (A:eB H lg st un σ):lg≠un:=aY A.lg A.un nofun
theorem eB.su (A:eB H lg st un σ):st≠un:=by
 obtain⟨hv,cv,sv,h⟩:=A.st
 exact aY h A.un nofun
theorem eB.tlg {τ:Lg} (A:eB H lg st un σ) (e1:∀ a b c,mZ τ a b c=mZ σ a b c) (e2:D9 τ=D9 σ) (o:τ.Ok):eB (H.set lg (lgO τ st un)) lg st un τ:=by
 obtain⟨hv,cv,sv,h⟩:=A.st
 exact⟨aN,⟨hv,cv,sv,by rw[e1];exact bY A.ls.symm h⟩,by rw[e2];exact bY A.lu.symm A.un,o⟩
theorem eB.tun {τ:Lg} (A:eB H lg st un σ) (e1:∀ a b c,mZ τ a b c=mZ σ a b c) (e2:∀ a b,lgO τ a b=lgO σ a b) (o:τ.Ok):eB (H.set un (D9 τ)) lg st un τ:=by
 obtain⟨hv,cv,sv,h⟩:=A.st
 exact⟨by rw[e2];exact bY A.lu A.lg,⟨hv,cv,sv,by rw[e1];exact bY A.su h⟩,aN,o⟩
theorem wY {i:Nat} (A:eB H lg st un σ) (h:i<=σ.az+σ.now.length) (q:∀ H',eB H' lg st un {σ with eM:=max σ.eM i}->g_ [lg,st,un] H H'->Q .none H'):aM (n+3) .oO [.ref lg,.int i] H Q X:=by
 refine bA rfl ?_
 by_cases hc:i<=σ.eM
 ·rw[xl hc] at q
  exact c5 (kJ (ai rfl) (aP (ai rfl) A.lg rfl)) (dD hc) (P9 (q _ A (dZ H)))
 ·refine bK (kJ (ai rfl) (aP (ai rfl) A.lg rfl)) (cb hc) (bK (fk (ai rfl) (jZ A (ai rfl))) (cb (gP h)) ?_)
  have o:=A.ok
  have VK:=xm hc
  rw[BN VK] at q
  have o2:({σ with eM:=i}:Lg).Ok:=⟨o.k1,o.k2,o.k3,o.k4,o.b,o.n1,o.n2,o.t1,o.t2,o.bt,h,o.a1,aK o.a2 VK⟩
  exact cT (ai rfl) (ai rfl) A.lg (aT rfl) (by decide) (bG (q _ (A.tlg (τ:={σ with eM:=i}) (fun _ _ _=>rfl) rfl o2) (dR (dZ H) (.head _))))
theorem A6 {i:Nat} (A:eB H lg st un σ) (h0:1<=i) (h1:σ.app<=i) (h2:i<=σ.eM) (q:∀ H',eB H' lg st un {σ with app:=i}->g_ [lg,st,un] H H'->Q .none H'):aM (n+3) .nW [.ref lg,.int i] H Q X:=by
 have o:=A.ok
 have o2:({σ with app:=i}:Lg).Ok:=⟨o.k1,o.k2,o.k3,o.k4,o.b,o.n1,o.n2,o.t1,o.t2,o.bt,o.c,aK o.a1 h1,h2⟩
 refine bA rfl (bK (fE (ai rfl) aH) (cb (BF h0)) ?_)
 refine bK (a9 (dK (fk (ai rfl) (aP (ai rfl) A.lg rfl)) (cb (gP h2)) (cP (gu (ai rfl) (aP (ai rfl) A.lg rfl))))) (cb (gP h1)) ?_
 exact cT (ai rfl) (ai rfl) A.lg (aT rfl) (by decide) (bG (q _ (A.tlg (τ:={σ with app:=i}) (fun _ _ _=>rfl) rfl o2) (dR (dZ H) (.head _))))
theorem Mk (o:σ.Ok):(dY (σ.az+1+σ.br) (σ.now.drop σ.br)).length<=line:=by
 rw[cQ,fJ];exact aK (jc ..) (aK o.n1 (by decide))
theorem KJ (A:eB H lg st un σ) (q:Q (.bE (dY (σ.az+1+σ.br) (σ.now.drop σ.br))) H):aM (n+1) .ju [.ref lg] H Q X:=
 bA rfl (cy (Mz (aP (aP (ai rfl) A.lg rfl) A.un rfl) (Mk A.ok)) q)
noncomputable def Lg.B' (σ:Lg):Lg:={σ with gK:=σ.now,br:=σ.now.length}
theorem Lg.Ok.B' {σ:Lg} (o:σ.Ok):σ.B'.Ok:=⟨bD _,bD _,rfl,fun _=>rfl,o.b,o.n1,o.n1,o.t1,o.t1,o.bt,o.c,o.a1,o.a2⟩
theorem OU {t:Nat} (A:eB H lg st un σ) (hk:σ.br < σ.now.length) (hs:σ.gK=σ.now) (ht:t=σ.tm (σ.az+σ.now.length)) (q:∀ H',eB H' lg st un σ.B'->g_ [lg,st,un] H H'->Q .none H'):aM (n+3) .oM [.ref lg,.int (σ.az+σ.now.length:Nat),.int t] H Q X:=by
 have hle:σ.az+1+σ.br<=σ.az+σ.now.length:=by rw[dT,nP 1];exact dW hk _
 refine bA rfl (bo (bH (aP (ai rfl) A.lg rfl) A.un rfl (aq (ai rfl) (aq (ai rfl) aE)) ?_))
 refine bA rfl (bK (gu (ai rfl) (kE A.un (ai rfl))) (cb (gP hle)) ?_)
 refine bM (bH (ai rfl) A.un rfl (aq (ai rfl) aE) (Nj A.un A.ok ?_))
 rw[a8 ⟨hle,by rw[iE];exact nS _⟩,<- ht]
 refine bK (a9 (dK (YH (ai rfl)) rfl (cP (ri (ai rfl) (ai rfl))))) (mY rfl) ?_
 have hn:σ.az+σ.now.length+1-(σ.az+1+σ.br)=σ.now.length-σ.br:=by rw[iE,Nt]
 refine cT (zh (aP (ai rfl) A.un rfl) (c6 (dO (ai rfl)) (kE A.un (ai rfl)) (TL hle)) ?_ (Mk A.ok)) (ai rfl) A.un (aT rfl) (by decide) (bj (dO (ai rfl)) (ai rfl) (aT rfl) (by decide) (bG ⟨rfl,?_⟩))
 ·rw[hn,cQ,fJ];exact bD _
 ·have e:D9 σ.B'=.inst .j' [(.cZ,.none),(.aS,.bE ((dY (σ.az+1+σ.br) (σ.now.drop σ.br)).drop (σ.az+σ.now.length+1-(σ.az+1+σ.br)))),(.cJ,nv (σ.az+σ.now.length+1))]:=by
   rw[hn,List.drop_of_length_le (gY ((cQ ..).trans (fJ ..))),iE]
   unfold D9 Lg.B'
   dsimp only
   rw[Tv];rfl
  have:=q _ (A.tun (τ:=σ.B') (fun _ _ _=>by unfold mZ Lg.B';rw[hs]) (fun _ _=>rfl) A.ok.B') (dR (dZ H) (.tail _ (.tail _ (.head _))))
  rw[e] at this
  exact this
theorem AY {hv cv sv:V}{h:Hd} (hs:H st=aa (mZ σ hv cv sv)) (q:Q .none (H.set st (mZ σ h.o cv sv))):aM (n+3) .kg [.ref st,h.o] H Q X:=
 bA rfl (cT (jX (ai rfl) rfl aE fun _ _ q=>V6 q) (ai rfl) hs (aT rfl) (by decide) q)
theorem DC {hv cv sv x:V}{k:Nat}{us:ah Nat} (hs:H st=aa (mZ σ hv cv sv)) (hx:listOf H x=aa (dY (σ.az+1+k) us)) (hk:k<=σ.gK.length) (he:us=[]->k=σ.gK.length) (h1:σ.gK.length<=1000) (h2:us.length<=1000)
  (q:∀ H',H' st=aa (mZ {σ with gK:=σ.gK.take k++us} hv cv sv)->g_ [st] H H'->Q .none H'):aM (n+2) .lN [.ref st,x] H Q X:=by
 have Km:(dY (σ.az+1+k) us).length<=line:=by rw[cQ];exact aK h2 (by decide)
 have hlen:∀ {L:bZ},L .aS=aa x->PE (aM (n+1)) L H (.bc .len (.cons (.aB .aS) .nil)) (nv us.length):=fun h=>gF (Va (ai h) hx Km) (by rw[cQ];rfl)
 have Pl:∀ {i},i < us.length->∃ t,(dY (σ.az+1+k) us)[i]? =aa (kF t (σ.az+1+k+i)).v:=fun h=>⟨_,pL (lK h)⟩
 refine bA rfl ?_
 by_cases hu:us=[]
 ·refine c5 (fE (hlen rfl) aH) (dD (by rw[hu];rfl)) (P9 (q H ?_ (dZ H)))
  rw[hs,hu,he hu,sE,fT]
 ·have tL:=qB.mpr hu
  obtain⟨t0,ht0⟩:=Pl tL
  refine bK (fE (hlen rfl) aH) (cb (BF tL)) (aR (bI (MC (k:=0) (ai rfl) hx aH ht0 Km) rfl) ?_)
  refine ze (hlen rfl) (lE [us.length] hM Io aQ) (cw [us.length] bJ Im ya h2 aQ) (E9 us.length (gh [] 0x200174101 [us.length] 0x1100110040011001100050020110011004001900110005002001 258 33 tL aQ) (fun _ L H1=>L .aS=aa x/\L .aG=aa (.ref st)/\L .mU=aa (nv (σ.az+1+k))/\H1=H) ⟨rfl,rfl,rfl,rfl⟩ ?_ ?_)
  ·rintro m L H1 hm ⟨e2,e3,e4,rfl⟩
   obtain⟨t,ht⟩:=Pl hm
   exact bK (ri (bI (MC (ai e2) hx (ai rfl) ht Km) rfl) (cS (ai e4) (ai rfl))) (mY rfl) (bG ⟨e2,e3,e4,rfl⟩)
  ·rintro L H1 ⟨e2,e3,e4,rfl⟩
   refine bC (aR (vg hs (ai e3)) ?_)
   refine bK (eL (jb (jC (ai e4) (hlen e2)) aH) (ai rfl)) (cb (cw [σ.az,k,us.length] mD 0x120041122011012004414746 0x20021 tL aQ)) ?_
   refine bK (fk (ai e4) (dO (zc hs h1 (ai e3)))) (cb (cw [σ.az,σ.gK.length,k] mD 0x201200441210004416 lJ hk aQ)) ?_
   refine bK (gu (ai e4) (ai rfl)) (cb (gP (ft ..))) ?_
   have lP:(dY (σ.az+1) σ.gK).length<=1000:=by rw[cQ];exact h1
   have Y_:k<=(dY (σ.az+1) σ.gK).length:=by rw[cQ];exact hk
   refine cT (Vf (Em (aP (ai e3) hs rfl) (eV (jb (ai e4) (ai rfl)) (by exact lE [σ.az,k] rL 0x10112004110120044175 aQ)) Y_ (aK lP (by decide))) (ai e2) hx ?_) (ai e3) hs (aT rfl) (by decide) (bG (q _ ?_ (dR (dZ _) (.head _))))
   ·rw[eW,cQ _ us];exact aK (fS (aK (je ..) lP) h2) (by decide)
   ·have:(dY (σ.az+1) σ.gK).take k++dY (σ.az+1+k) us=dY (σ.az+1) (σ.gK.take k++us):=by
     rw[AM,eW,dM hk]
     refine aW (· ++_) ?_
     unfold dY
     rw[<- sC,mQ]
    rw[this];exact aN
end
section
variable {C:CC}{L:bZ}{H:Hp}{e c:E}{k j:Nat}
theorem ow (p:PE C L H e (.int k)) (q:PE C L H c (.int j)):PE C L H (.bc .min (.cons e (.cons c .nil))) (.int (min k j:Nat)):=eV (JQ p q) (Tc ..).symm
theorem vq (p:PE C L H e (.int k)) (q:PE C L H c (.int j)):PE C L H (.bc .max (.cons e (.cons c .nil))) (.int (max k j:Nat)):=eV (Qp p q) (X4 ..).symm
theorem cX {i:Nat} (p:PE C L H e (.int k)) (h:k=i):PE C L H e (nv i):=h▸p
theorem iV {xs ys:ah V} (p:PE C L H e (.bE xs)) (h:xs=ys):PE C L H e (.bE ys):=h▸p
end
theorem Ff {α:Type}{xs:ah α}{a b:Nat} (h:b<=xs.length):(cut xs a b).length=b-a:=(tc ..).trans (dM (wg h a))
theorem Ig {α:Type} (xs:ah α){a b:Nat} (h:b<=a):cut xs a b=[]:=by unfold cut;rw[Nz h,LP]
theorem M8 {α:Type}{xs:ah α}{a b:Nat}{x:α} (h:x∈cut xs a b):x∈xs:=I5 (yk h)
section
variable {n:Nat}{H:Hp}{Q:PV}{X:PX}{lg st un:ax}{σ:Lg}
theorem V5 {i:Nat}{ts:ah Nat}{lim:Int} (hb:i+ts.length < 2 ^ 32) (ht:∀ t∈ts,t < 2 ^ 32) (hn:ts.length<=1000) (hl:42000<=lim) (q:Q (.bE (dY i ts)) H):aM (n+3) .kN [.bE (dY i ts),.int lim] H Q X:=
 Fp (es:=ents i ts) rfl (zw ht hb) (by rw[fh];exact hn) hl q
theorem IE {xs:ah Nat}{a b:Nat}{lim:Int} (o:σ.az<=100000) (hx:xs.length<=400) (ht:∀ t∈xs,t < 2 ^ 32) (h2:b<=xs.length) (h1:a<=b) (hl:42000<=lim) (q:Q (.bE (dY (σ.az+1+a) (cut xs a b))) H):aM (n+3) .kN [.bE (dY (σ.az+1+a) (cut xs a b)),.int lim] H Q X:=
 V5 (by rw[Ff h2,dT,gZ h1];exact cE (fS (eG o) (aK h2 hx)) (by decide)) (fun t h=>ht t (M8 h)) (by rw[Ff h2];exact aK (jc ..) (aK h2 (aK hx (by decide)))) hl q
theorem OY {hv cv sv:V}{a b:Nat}{lim:Int} (hs:H st=aa (mZ σ hv cv sv)) (o:σ.Ok) (h1:a < b) (h2:b<=σ.gK.length) (hl:42000<=lim) (q:Q (.bE (dY (σ.az+1+a) (cut σ.gK a b))) H):
  aM (n+4) .hW [.ref st,nv (σ.az+1+a),nv (σ.az+1+b),.int lim] H Q X:=by
 have g:=aK o.n2 (show 400<=1000 by decide)
 refine bA rfl (bK (kJ (ai rfl) (aP (ai rfl) hs rfl)) (cb (lE [σ.az,a] mn 0x1012004406 aQ)) ?_)
 refine bK (fk (ai rfl) (dO (zc hs g (ai rfl)))) (cb (cw [σ.az,σ.gK.length,b] mD 0x201200441210004416 lJ h2 aQ)) ?_
 refine bK (kJ (ai rfl) (ai rfl)) (cb (fun h=>Gm h1 (DS h))) (aR (vg hs (ai rfl)) ?_)
 have yE:(dY (σ.az+1) σ.gK).length=σ.gK.length:=cQ ..
 exact gN (bQ (aq (iV (JO (aP (ai rfl) hs rfl) (cX (c6 (ai rfl) (ai rfl) (ft ..)) (pX ..)) (cX (c6 (ai rfl) (ai rfl) (ft ..)) (pX ..)) (by rw[yE];exact aK (fH h1) h2) (by rw[yE];exact h2) (by rw[yE];exact aK g (by decide))) (Ij ..)) (aq (ai rfl) aE)) (IE o.b o.n2 o.t2 h2 (fH h1) hl q))
theorem Nh {a b:Nat}{lim:Int} (A:eB H lg st un σ) (h1:a<=b) (h2:b<=σ.now.length) (hl:42000<=lim) (q:Q (.bE (dY (σ.az+1+a) (cut σ.now a b))) H):
  aM (n+5) .t_ [.ref lg,nv (σ.az+1+a),nv (σ.az+1+b),.int lim] H Q X:=by
 obtain⟨hv,cv,sv,hs⟩:=A.st
 have o:=A.ok
 refine bA rfl (bK (fk (ai rfl) (ai rfl)) (cb (gP (dW h1 _))) ?_)
 refine bK (gu (ai rfl) (rt A (ai rfl))) (cb (gP (ft ..))) ?_
 refine bK (fk (ai rfl) (dO (jZ A (ai rfl)))) (cb (gP (by rw[iE];exact eG (dW h2 _)))) ?_
 by_cases Ku:a=b
 ·rw[Ig _ (gY Ku.symm)] at q
  exact c5 (fE (ai rfl) (ai rfl)) (dD (aW _ Ku)) (cy (cG aE (bX _)) q)
 have Ku:=xv h1 Ku
 have fin:∀ {L},L .lQ=aa (.bE (dY (σ.az+1+a) (cut σ.now a b)))->L .qa=aa (.int lim)->wSs (aM (n+4)) ag (.cons (.ret (.bL .kN (.cons (.aB .lQ) (.cons (.aB .qa) .nil)))) .nil) L H (Cc Q) (wJ X):=fun g1 g2=>gN (bQ (aq (ai g1) (aq (ai g2) aE)) (IE o.b o.n1 o.t1 h2 h1 hl q))
 have MS:∀ {x y},(cut σ.now x y).length<=400:=fun{x y}=>aK (gm ..) o.n1
 refine bK (fE (ai rfl) (ai rfl)) (cb fun h=>sy Ku (Gz h)) (aR (kE A.un (aP (ai rfl) A.lg rfl)) (aR (cG aE (bX _)) ?_))
 by_cases c1:a < σ.br
 ·have m1:a < min b σ.br:=Nat.lt_min.mpr ⟨Ku,c1⟩
  have m2:=je b σ.br
  have e2:cut σ.gK a (min b σ.br)=cut σ.now a (min b σ.br):=RH _ _ o.k3 m2
  refine c5 (gu (ai rfl) (ai rfl)) (dD (Gy c1 _)) (aR (cX (ow (ai rfl) (ai rfl)) (XF ..)) (Mr (bM (bH (aP (ai rfl) A.lg rfl) hs rfl (aq (ai rfl) (aq (ai rfl) (aq (ai rfl) aE))) (OY hs o m1 (aK m2 o.k1) hl (bG (bC ?_)))))))
  rw[e2]
  refine bK (gu (cX (eX (ai rfl) (by rw[cQ];exact aK MS (by decide))) (by rw[cQ,Ff (aK m2 o.k2)])) (cX (c6 (ai rfl) (ai rfl) (dW (fH m1) _)) (Nt ..))) (cb (sD _)) (bG (bC ?_))
  by_cases c2:σ.br < b
  ·rw[qz (fH c2)]
   refine c5 (fk (ai rfl) (ai rfl)) (dD (Gy c2 _)) (aR (iV (oA (ai rfl) (d_ (aP (ai rfl) A.lg rfl) A.un rfl (aq (cX (vq (ai rfl) (ai rfl)) (BN (dW (fH c1) _))) (aq (ai rfl) aE)) fun _ _ q=>KQ A.un o (bD _) (fH c2) h2 q) (by rw[cQ,cQ];exact aK (fS MS MS) (by decide))) ?_) (bG (bC (fin rfl rfl))))
   rw[<- VU σ.now (fH c1) (fH c2),AM,Ff o.k2,dT (σ.az+1),gZ (fH c1)]
  ·rw[dM (iD c2)]
   exact bK (fk (ai rfl) (ai rfl)) (cb fun h=>c2 (X7 h)) (fin rfl rfl)
 ·have c1':=iD c1
  refine bK (gu (ai rfl) (ai rfl)) (cb fun h=>c1 (X7 h)) (c5 (fk (ai rfl) (ai rfl)) (dD (Gy (cE c1' Ku) _)) (aR (oA (ai rfl) (d_ (aP (ai rfl) A.lg rfl) A.un rfl (aq (cX (vq (ai rfl) (ai rfl)) (xl (dW c1' _))) (aq (ai rfl) aE)) fun _ _ q=>KQ A.un o c1' h1 h2 q) ?_) (bG (bC (fin rfl rfl)))))
  rw[cQ];exact aK (fS (bX 400) MS) (by decide)
theorem OT (A:eB H lg st un σ) (q:Q (.bool ao) H):aM (n+1) .jv [.ref lg] H Q X:=
 bA rfl (cy (a9 (jl (qg (aP (aP (ai rfl) A.lg rfl) A.un rfl)) rfl)) q)
theorem yc (A:eB H lg st un σ) (q:Q (nv (σ.app+1)) H):aM (n+3) .jO [.ref lg] H Q X:=
 bA rfl (cy (cX (vq (dO (aP (ai rfl) A.lg rfl)) (rt A (ai rfl))) (xl (eG A.ok.a1))) q)
theorem DG (A:eB H lg st un σ) (q:Q (.bool (decide (σ.app+1 < σ.eM+1))) H):aM (n+4) .p8 [.ref lg] H Q X:=
 bA rfl (bK (d_ (ai rfl) A.lg rfl aE fun _ _ q=>OT A q) rfl (cy (fk (dO (aP (ai rfl) A.lg rfl)) (d_ (ai rfl) A.lg rfl aE fun _ _ q=>yc A q)) q))
theorem ZF (A:eB H lg st un σ) (q:Q (.bE (dY (σ.app+1) (cut σ.now (σ.app-σ.az) (σ.eM-σ.az)))) H):aM (n+6) .kc [.ref lg] H Q X:=by
 have g1:=A.ok.a1
 have g2:=A.ok.a2
 refine bA rfl ?_
 by_cases hc:σ.app < σ.eM
 ·have e1:σ.app+1=σ.az+1+(σ.app-σ.az):=by rw[iE,gZ g1]
  have e2:σ.eM+1=σ.az+1+(σ.eM-σ.az):=by rw[iE,gZ (aK g1 g2)]
  rw[e1] at q
  refine bK (lS (d_ (ai rfl) A.lg rfl aE fun _ _ q=>DG A q) (dD (Tu hc))) rfl (gN (bH (ai rfl) A.lg rfl (aq (cX (d_ (ai rfl) A.lg rfl aE fun _ _ q=>yc A q) e1) (aq (cX (dO (aP (ai rfl) A.lg rfl)) e2) (aq (aP (ai rfl) A.lg rfl) aE))) (Nh A (wg g2 _) ?_ (by decide) q)))
  exact Ub (by rw[nP];exact A.ok.c)
 ·rw[Ig _ (wg (iD hc) _)] at q
  exact c5 (lS (d_ (ai rfl) A.lg rfl aE fun _ _ q=>DG A q) (cb fun h=>hc (Nat.lt_of_succ_lt_succ h))) rfl (cy (cG aE (bX _)) q)
theorem acg (A:eB H lg st un σ) (q:Q (.bE (dY (σ.az+1) σ.now)) H):aM (n+7) .my [.ref lg] H Q X:=by
 refine bA rfl (gN (bH (ai rfl) A.lg rfl (aq (rt A (ai rfl)) (aq (bw rfl) aE)) (bA rfl ?_)))
 by_cases hc:σ.now.length=0
 ·rw[qO.mp hc] at q
  exact c5 (fk (ai rfl) (jZ A (ai rfl))) (dD (by rw[hc];exact nS _)) (cy (cG aE (bX _)) q)
 ·refine bK (fk (ai rfl) (jZ A (ai rfl))) (cb (cw [σ.az,σ.now.length] 0x110011000500110000050031011001 0x120041000416 0x21026 hc aQ)) (gN (bH (ai rfl) A.lg rfl (aq (ai rfl) (aq (cX (dO (jZ A (ai rfl))) (iE ..)) (aq (ai rfl) aE))) (Nh (a:=0) A (bX _) (bD _) (by decide) ?_)))
  rw[Ie,sE];exact q
theorem OW {k:Nat}{us:ah Nat} (A:eB H lg st un σ) (hk:k<=σ.now.length) (hu:us≠[]) (hn:k+us.length<=400) (ht:∀ t∈us,t < 2 ^ 32) (hc:σ.eM<=σ.az+k) (q:∀ v H',flat v=ag->eB H' lg st un (σ.ext k us)->g_ [lg,st,un] H H'->Q v H'):aM (n+3) .sG [.ref lg,.bE (dY (σ.az+1+k) us)] H Q X:=by
 have uX:(dY (σ.az+1+k) us).length<=line:=by rw[cQ];exact aK (j_ _ k) (aK hn (by decide))
 have yG:=qB.mpr hu
 have wV:=pL (i:=σ.az+1+k) (lK yG)
 have A2:=A.tun (τ:=σ.ext k us) (fun _ _ _=>rfl) (fun _ _=>rfl) (A.ok.ext hk hu hn ht hc)
 refine bA rfl (bK (fE (eX (ai rfl) uX) aH) (cb (by rw[cQ];exact BF yG)) ?_)
 have hp:∀ {L},L .aS=aa (.bE (dY (σ.az+1+k) us))->PE (aM (n+2)) L H (.aV (.idx (.aB .aS) (.int 0)) .cp) (nv (σ.az+k+1)):=fun h=>cX (bI (gG (k:=0) (ai h) aH wV uX) rfl) (show σ.az+1+k=σ.az+k+1 from iE ..)
 refine aR (cX (c6 (j:=1) (hp rfl) aH (j_ ..)) (L6 ..)) ?_
 refine bK (gu (ai rfl) (aP (ai rfl) A.lg rfl)) (cb (gP hc)) ?_
 refine bK (fk (ai rfl) (jZ A (ai rfl))) (cb (gP (dW hk _))) ?_
 refine bo (bH (aP (ai rfl) A.lg rfl) A.un rfl (aq (ai rfl) aE) (VY A.un A.ok hk hu hn ⟨rfl,gN (bH (ai rfl) A2.lg rfl aE (Nl A2 (q _ _ rfl A2 (dR (dZ H) (.tail _ (.tail _ (.head _)))))))⟩))
noncomputable def Lg.Sj (σ:Lg) (k0:Nat) (ts:ah Nat) (sure:Nat):Lg:=
 let τ:=match fc σ.now k0 ts with
  |none=>σ
  |some k=>σ.ext k (ts.drop (k-k0))
 {τ with eM:=max τ.eM (min sure (σ.az+k0+ts.length))}
theorem s7:∀ {now ts:ah Nat}{k0 k:Nat},fc now k0 ts=aa k->k0<=k/\k < k0+ts.length/\now[k]? ≠ts[k-k0]? /\∀ j,k0<=j->j < k->now[j]? =ts[j-k0]?
 |now,[],k0,k,h=>by contradiction
 |now,t::ts,k0,k,h=>by
  unfold fc at h
  split at h
  ·rename_i hc
   obtain⟨h1,h2,h3,h4⟩:=s7 h
   refine⟨by exact cw [k0,k] bJ dP 0x10120040 h1 aQ,by simp;exact cw [k,k0,ts.length] bJ 0x12204104001 0x20121044001 h2 aQ,?_,?_⟩
   ·rw[show k-k0=(k-(k0+1))+1 by exact gh [] 0x1210400010000202 [k,k0] 0x11001100400110190011000600110019001100070120201100110040011000011006001900110011000701202001 0x12404202 0x121040 h1 aQ,Sr];exact h3
   ·intro j h5 h6
    by_cases e:j=k0
    ·subst e;rw[BE];exact hc
    ·rw[show j-k0=(j-(k0+1))+1 by exact nk [] 0x1210400010000202 [j,k0] 0x11001100000700110190011000008001100190011000009012020110011000000800110000001100800310110011000000800110019001100000900212001021 0x12404202 256 0x100026 h5 e aQ,Sr];exact h4 j (fu [k0,j] 0x11000011050011000110050031021 0x10120040 dP 0x1026 h5 e aQ) h6
  ·rename_i hc
   cases h
   refine⟨bD _,by simp,by rw[BE];exact hc,fun j h5 h6=>by exact(fu [k0,j] AR 11 dP 257 h5 h6 aQ:False).elim⟩
theorem Fb:∀ {now ts:ah Nat}{k0:Nat},fc now k0 ts=au->∀ j,k0<=j->j < k0+ts.length->now[j]? =ts[j-k0]?
 |now,[],k0,h,j,h1,h2=>by simp at h2;exact(fu [k0,j] AR 11 dP 257 h1 h2 aQ:False).elim
 |now,t::ts,k0,h,j,h1,h2=>by
  unfold fc at h
  split at h
  ·rename_i hc
   by_cases e:j=k0
   ·subst e;rw[BE];exact hc
   ·rw[show j-k0=(j-(k0+1))+1 by exact nk [] 0x1210400010000202 [j,k0] 0x11001100000700110190011000008001100190011000009012020110011000000800110000001100800310110011000000800110019001100000900212001021 0x12404202 256 0x100026 h1 e aQ,Sr]
    exact Fb h j (fu [k0,j] 0x11000011050011000110050031021 0x10120040 dP 0x1026 h1 e aQ) (by simp at h2;exact cw [j,k0,ts.length] bJ 0x20121044001 0x12204104001 h2 aQ)
  ·contradiction
theorem Xp {now ts:ah Nat}{k0 k:Nat} (h:fc now k0 ts=aa k) (h0:k0<=now.length):k<=now.length:=by
 obtain⟨h1,h2,_,h4⟩:=s7 h
 by_cases e0:k=k0
 ·rw[e0];exact h0
 ·have:=h4 (k-1) (nk [] 0x12100102 [k0,k] 0x11011000011060011001100001107002011000110050031021 pO dP 0x1026 h1 e0 aQ) (nk [] 0x12000102 [k,k0] 0x1101100000600190000001107002011000110050031021 513 256 0x100026 h1 e0 aQ)
  rw[lK (l:=ts) (by exact EN [] 0x1030012000203 [k,k0,ts.length] 0x1100110000008001100000011008004101100000011011011090019001900001100110901202031 0x20501 256 mm 0x100026 h1 h2 e0 aQ)] at this
  have:=lX this
  exact gh [] 0x12000102 [k,now.length] Na dP 0x10201 this aQ
theorem Zp {now ts:ah Nat}{k0:Nat} (h:fc now k0 ts=au) (h0:k0<=now.length):k0+ts.length<=now.length:=by
 by_cases e0:ts.length=0
 ·rw[e0];exact h0
 ·have:=Fb h (k0+ts.length-1) (gh [] 0x12100040102 [k0,ts.length] 0x110110001105001100110001106002011000040021011 pO 0x21026 e0 aQ) (gh [] 0x12100040102 [k0,ts.length] 0x11011000050019000001106002011000040021011 0x10004201 0x21026 e0 aQ)
  rw[lK (l:=ts) (by exact gh [] 0x20012100040202 [k0,ts.length] 0x110110000500110110011000070019001900000110801202011000040021011 0x10401 0x21026 e0 aQ)] at this
  have:=lX this
  exact gh [] 0x12100040103 [k0,ts.length,now.length] Na x8 0x20301 this aQ
theorem Nk {k0 t sure:Nat}{ts:ah Nat} (A:eB H lg st un σ) (hk:k0+ts.length<=400) (ht:∀ t∈ts,t < 2 ^ 32)
  (hc:(σ.az+k0<=σ.az+σ.now.length/\σ.tm (σ.az+k0)=t)->∀ k,fc σ.now k0 ts=aa k->σ.eM<=σ.az+k)
  (q:∀ H',¬ (σ.az+k0<=σ.az+σ.now.length/\σ.tm (σ.az+k0)=t)->H'=H->Q .none H')
  (q2:∀ H',(σ.az+k0<=σ.az+σ.now.length/\σ.tm (σ.az+k0)=t)->eB H' lg st un (σ.Sj k0 ts sure)->g_ [lg,st,un] H H'->Q (nv (σ.az+k0+ts.length)) H'):
  aM (n+6) .lM [.ref lg,.int (σ.az+k0:Nat),.int t,.int sure,.bE (dY (σ.az+1+k0) ts)] H Q X:=by
 have g1:=A.ok.b
 have lP:(dY (σ.az+1+k0) ts).length<=line:=by rw[cQ];exact aK (j_ _ k0) (aK hk (by decide))
 have hi:σ.az+k0 < 2 ^ 40:=cE (fS g1 (aK (ft ..) hk)) (by decide)
 have hm0:∀ {L},L .aG=aa (.ref lg)->L .cp=aa (nv (σ.az+k0))->L .sN=aa (nv t)->PE (aM (n+5)) L H (.bk (.aB .aG) .lz (.cons (.aB .cp) (.cons (.aB .sN) .nil))) (.bool (decide (σ.az+k0<=σ.az+σ.now.length/\σ.tm (σ.az+k0)=t))):=fun h1 h2 h3=>d_ (ai h1) A.lg rfl (aq (ai h2) (aq (ai h3) aE)) fun _ _ q=>vR A hi (ft ..) q
 refine bA rfl ?_
 by_cases hm:σ.az+k0<=σ.az+σ.now.length/\σ.tm (σ.az+k0)=t
 case neg=>exact c5 (lS (hm0 rfl rfl rfl) (aW aa (dU hm))) rfl (cy iP (q H hm rfl))
 have hk0:k0<=σ.now.length:=DS hm.1
 have hlen:∀ {L H},L .aS=aa (.bE (dY (σ.az+1+k0) ts))->PE (aM (n+5)) L H (.bc .len (.cons (.aB .aS) .nil)) (nv ts.length):=fun h=>cX (eX (ai h) lP) (cQ ..)
 refine bK (lS (hm0 rfl rfl rfl) (aW aa (c9 hm))) rfl (ze (hlen rfl) (lE [ts.length] hM Io aQ) (cw [ts.length,k0] bJ Im 0x19023001040 hk aQ) (E9 ts.length (lT [] 0x200174101 [ts.length] Nb 258 aQ) (fun _ L H1=>L .aS=aa (.bE (dY (σ.az+1+k0) ts))/\L .aG=aa (.ref lg)/\L .cp=aa (nv (σ.az+k0))/\L .b5=aa (nv sure)/\H1=H) ⟨rfl,rfl,rfl,rfl,rfl⟩ ?_ ?_))
 ·rintro m L H1 hm ⟨e2,e3,e4,e5,rfl⟩
  exact bK (ri (bI (gG (ai e2) (ai rfl) (pL (lK hm)) lP) rfl) (cS (dO (ai e4)) (ai rfl))) (mY (show σ.az+1+k0+m=σ.az+k0+1+m by rw[iE σ.az])) (bG ⟨e2,e3,e4,e5,rfl⟩)
 ·rintro L H1 ⟨e2,e3,e4,e5,rfl⟩
  refine bC (aR (cS (ai e4) (hlen e2)) (bM (bH (ai e3) A.lg rfl (aq (ai e2) aE) (ZI A (aK hk (by decide)) ?_))))
  cases hf:fc σ.now k0 ts with
  |none=>
   have hle:min sure (σ.az+k0+ts.length)<=σ.az+σ.now.length:=aK (je ..) (by rw[dT];exact dW (Zp hf hk0) _)
   refine bK (ri (ai rfl) aH) (mY rfl) (bo (bH (ai e3) A.lg rfl (aq (ow (ai e5) (ai rfl)) aE) (wY A hle fun H2 A2 K2=>⟨rfl,cy (ai rfl) (q2 _ hm ?_ K2)⟩)))
   unfold Lg.Sj;rw[hf];exact A2
  |some k=>
   obtain⟨f1,f2,f3,f4⟩:=s7 hf
   have Y_:=Xp hf hk0
   have xZ:(ts.drop (k-k0)).length=ts.length-(k-k0):=fJ ..
   have hkd:k+(ts.drop (k-k0)).length=k0+ts.length:=by rw[xZ];exact nk [] 0x3010020000203 [k,ts.length,k0] 0x1100011005001101900011000700190011001100008012020110001100500110190001100070011001900110000801202001 0x10204500042 512 0x10204001 f1 f2 aQ
   have ab8:(dY (σ.az+1+k0) ts).drop (k-k0)=dY (σ.az+1+k) (ts.drop (k-k0)):=by
    unfold dY;rw[<- F_,pK,dT,gZ f1]
   have hck:=hc hm k hf
   refine c5 (ri (k:=σ.az+1+k) (j:=0) (ai rfl) aH) (xO (lE [σ.az,k] mn 0x21012004426 aQ)) (bK (kJ (k:=σ.az+1+k) (ai rfl) (aP (ai e3) A.lg rfl)) (cb (cw [σ.az,k,σ.eM] mD 0x201012004406 0x10004200 hck aQ)) ?_)
   refine bo (bH (ai e3) A.lg rfl (aq (iV (zh (k:=k-k0) (ai e2) (cX (c6 (k:=σ.az+1+k) (ai rfl) (dO (ai e4)) (cw [σ.az,k0,k] bJ 0x20120044121000440 0x20100 f1 aQ)) (lT [] 0x2010012200044101200440203 [σ.az,k,k0] 0x11001100400110190011005001100190011006012020110000110060019000110110060120110011000500190011001100601202001 0x50302 aQ)) (by rw[cQ];exact gh [] AQ [k,k0,ts.length] 0x1100011040019001101104002 tM mm f2 aQ) lP) ab8) aE) (OW A Y_ (qB.mp (fu [(List.drop (k-k0) ts).length,k,k0,ts.length] 0x19011011030 33 0x30204101 0x30204001042 f2 hkd aQ)) (by rw[hkd];exact hk) (fun t h=>ht t (I5 h)) hck fun v H2 fv A2 K2=>⟨fv,bG (bC ?_)⟩))
   have hle:min sure (σ.az+k0+ts.length)<=(σ.ext k (ts.drop (k-k0))).az+(σ.ext k (ts.drop (k-k0))).now.length:=by
    refine aK (je ..) ?_
    show _<=σ.az+(σ.now.take k++ts.drop (k-k0)).length
    rw[M4 Y_,hkd,dT];exact bD _
   refine bo (bH (ai e3) A2.lg rfl (aq (ow (ai e5) (ai rfl)) aE) (wY A2 hle fun H3 A3 K3=>⟨rfl,cy (ai rfl) (q2 _ hm ?_ (jD K2 K3))⟩))
   unfold Lg.Sj;rw[hf];exact A3
end
set_option genCtorIdx true in
inductive Rc
 |f
 |h (d:Hd)
 |e (x:En)
noncomputable def Rc.bs (b t:Nat) (vs:ah Nat):Rc->ah aA
 |.f=>fold b t vs
 |.h d=>d.bs
 |.e x=>x.bs
def Rc.Ok:Rc->Prop
 |.f=>True
 |.h d=>d.Ok
 |.e x=>x.Ok
abbrev Rs:=ah En×Hd×ah En
noncomputable def yy (b:Nat):Rs->Rc->aC Rs
 |(es,hd,pe),.e x=>aa (es,hd,pe++[x])
 |(es,hd,pe),.h d=>(fb b es pe).map fun il=>(il,d,[])
 |_,.f=>au
noncomputable def runs (b:Nat):Rs->ah Rc->aC Rs
 |s,[]=>aa s
 |s,r::rs=>(yy b s r).bind fun s1=>runs b s1 rs
theorem lC (b:Nat):∀ (rs us:ah Rc) (s:Rs),runs b s (rs++us)=(runs b s rs).bind fun s1=>runs b s1 us
 |[],us,s=>rfl
 |r::rs,us,s=>by
  simp only[List.cons_append,runs]
  cases yy b s r with
  |none=>rfl
  |some s1=>simp only[pk,lC b rs us s1]
noncomputable def UW:Rs:=([],⟨0,0,0⟩,[])
structure Sv where
 e:Nat
 rows:ah Nat
 hd:Hd
noncomputable def c8 (es:ah Nat) (n:Nat):ah Nat:=es.filter (· <=n)
noncomputable def eZ (ss:ah Sv) (n:Nat):ah Sv:=ss.filter (·.e<=n)
theorem Jr.le {B:Nat}:∀ {rs:ah (ah aA)}{p:Nat}{bs:ah aA}{es:ah Nat},Jr B p rs bs es->(∀ e∈es,e<=p+bs.length)/\es.getLast?.getD p=p+bs.length
 |[],p,bs,es,h=>by obtain⟨rfl,rfl⟩:=h;simp
 |r::rs,p,bs,es,⟨b,yh,il,h1,h2,h3,h4⟩=>by
  subst h2 h3
  obtain⟨i1,i2⟩:=Jr.le h4
  refine⟨fun e he=>?_,?_⟩
  ·rcases dS.mp he with rfl |he
   ·simp
   ·have:=i1 e he;simp;exact cw [e,p,b.length,yh.length] bJ 0x30204104000 0x30201044000 this aQ
  ·rw[show((p+b.length)::il).getLast?.getD p=il.getLast?.getD (p+b.length) by cases il<;>simp [TS]]
   rw[i2];simp;exact lE [p,b.length,yh.length] rL 0x20104004201000442 aQ
theorem mJ (es:ah Nat) (E n:Nat):c8 (es++[E]) n=c8 es n++(if E<=n then[E] else[]):=by
 unfold c8
 rw[Gv]
 by_cases h:E<=n
 ·rw[a8 h];simp [h]
 ·rw[bb h];simp [h]
theorem JD (es:ah Sv) (E:Sv) (n:Nat):eZ (es++[E]) n=eZ es n++(if E.e<=n then[E] else[]):=by
 unfold eZ
 rw[Gv]
 by_cases h:E.e<=n
 ·rw[a8 h];simp [h]
 ·rw[bb h];simp [h]
theorem vb {es:ah Nat}{n:Nat} (h:∀ e∈es,e<=n):c8 es n=es:=L9.mpr (by simpa using h)
theorem N7 {es:ah Sv}{n:Nat} (h:∀ e∈es,e.e<=n):eZ es n=es:=L9.mpr (by simpa using h)
theorem N1 (es:ah Nat) (a n:Nat):c8 (c8 es a) n=c8 es (min a n):=by
 unfold c8
 rw[TR]
 congr 1
 funext e
 simp [Sw,and_comm,SU]
theorem GZ (es:ah Sv) (a n:Nat):eZ (eZ es a) n=eZ es (min a n):=by
 unfold eZ
 rw[TR]
 congr 1
 funext e
 simp [Sw,SU]
structure iK where
 B:Nat
 az:Nat
 bt:Nat
 vs:ah Nat
noncomputable def iK.bs (P:iK):Rc->ah aA:=Rc.bs P.az P.bt P.vs
structure Jn (P:iK) (cg:ah Rc) (F:ah aA) (aX:ah Nat) (bu:ah Sv) (synced:Nat) (gK:ah Nat) (pend:ah En):Prop where
 jr:Jr P.B 0 (cg.map P.bs) F aX
 shape:∃ B9 rest,cg=.f::.h B9::rest
 ok:∀ r∈cg,r.Ok
 two:∀ n,synced<=n->2<=(c8 aX n).length
 Kz:∀ n,synced<=n->∃ sv pe,(eZ bu n).getLast?=aa sv/\runs P.az UW ((cg.take (c8 aX n).length).drop 1)=aa (ents (P.az+1) sv.rows,sv.hd,pe)/\pe.length=((c8 aX n).filter (sv.e < ·)).length
 sf:synced<=F.length
 sl:∀ sv∈bu,sv.e<=F.length
 se:∃ sv∈bu,sv.e=synced
 so:bu.Pairwise (·.e < ·.e)
 fin:∃ sv,bu.getLast?=aa sv/\sv.rows=gK/\runs P.az UW (cg.drop 1)=aa (ents (P.az+1) gK,sv.hd,pend)
section
variable {P:iK}{cg:ah Rc}{F:ah aA}{aX:ah Nat}{bu:ah Sv}{synced:Nat}{gK:ah Nat}{pend:ah En}
theorem Jn.As (J:Jn P cg F aX bu synced gK pend):cg.length=aX.length:=by have:=J.jr.As;simpa using this
theorem Jn.entry (hB:8<=P.B) (J:Jn P cg F aX bu synced gK pend){x:En}{b:ah aA} (hx:x.Ok) (hf:Frs P.B F.length ao x.bs b):Jn P (cg++[.e x]) (F++b) (aX++[(F++b).length]) bu synced gK (pend++[x]):=by
 have hb:=(hf.len hB).2.1
 have hL:=J.As
 have hle:=(J.jr.le).1
 have hz:∀ n,synced<=n->(cg++[Rc.e x]).take (c8 (aX++[(F++b).length]) n).length=(if (F++b).length<=n then cg++[Rc.e x] else cg.take (c8 aX n).length):=by
  intro n hn
  rw[mJ]
  split
  ·rename_i h
   rw[vb (fun e he=>by have:=hle e he;simp at h;exact GK [e,n,b.length,F.length] x6 dP qI 0x30024000 0x10203040 hb this h aQ)]
   rw[mu (by simp;exact cw [cg.length,aX.length] bJ dP pS hL aQ)]
  ·rw[fT,SR]
   have:(c8 aX n).length<=aX.length:=tZ _ _
   exact fu [(c8 aX n).length,cg.length,aX.length] 0x11019011030 dP 0x20102 pO hL this aQ
 refine⟨?_,?_,?_,?_,?_,?_,?_,J.se,J.so,?_⟩
 ·have:=J.jr.snoc (r:=x.bs) (b:=b) (by rw[jF];exact hf)
  rw[jF] at this
  rw[f7];exact this
 ·obtain⟨B9,rest,e⟩:=J.shape
  exact⟨B9,rest++[.e x],by rw[e];rfl⟩
 ·intro r hr
  rcases iS.mp hr with hr |hr
  ·exact J.ok r hr
  ·simp at hr;subst hr;exact hx
 ·intro n hn
  rw[mJ]
  have:=J.two n hn
  simp;exact cw [(c8 aX n).length,(if F.length+b.length<=n then[F.length+b.length] else[]).length] bJ 0x10004220 544 this aQ
 ·intro n hn
  rw[hz n hn]
  by_cases h:(F++b).length<=n
  ·rw[a8 h]
   obtain⟨sv,e1,e2,e3⟩:=J.fin
   obtain⟨sv2,pe2,f1,f2,f3⟩:=J.Kz n hn
   have E0:eZ bu n=bu:=N7 fun s hs=>by have:=J.sl s hs;simp at h;exact GK [s.e,n,b.length,F.length] x6 dP qI rI 0x10203040 hb this h aQ
   have MT:c8 aX n=aX:=vb fun e he=>by have:=hle e he;simp at h;exact GK [e,n,b.length,F.length] x6 dP qI 0x30024000 0x10203040 hb this h aQ
   rw[E0,e1] at f1
   cases f1
   rw[MT,mu (by exact cw [cg.length,aX.length] bJ dP pS hL aQ),e3] at f2
   simp only[ZV,Prod.mk.injEq] at f2
   obtain⟨_,_,rfl⟩:=f2
   refine⟨sv,pend++[x],by rw[E0];exact e1,?_,?_⟩
   ·have:(cg++[Rc.e x]).drop 1=cg.drop 1++[.e x]:=by
     obtain⟨B9,rest,e⟩:=J.shape
     rw[e];rfl
    rw[this,lC,e3,e2];rfl
   ·rw[mJ,a8 h,Gv,bN,bN,<- f3]
    have:sv.e < (F++b).length:=by have:=J.sl sv (Bw e1);simp;exact fu [sv.e,F.length,b.length] eI mm qI dP hb this aQ
    have e9:[(F++b).length].filter (sv.e < ·)=[(F++b).length]:=by simp only[List.filter_cons,List.filter_nil,c9 this,if_true]
    rw[e9];rfl
  ·rw[bb h]
   obtain⟨sv2,pe2,f1,f2,f3⟩:=J.Kz n hn
   refine⟨sv2,pe2,f1,f2,?_⟩
   rw[mJ,bb h,fT];exact f3
 ·have:=J.sf;simp;exact fu [synced,F.length,b.length] eI oH qI dP hb this aQ
 ·intro sv h;have:=J.sl sv h;simp;exact fu [sv.e,F.length,b.length] eI oH qI dP hb this aQ
 ·obtain⟨sv,e1,e2,e3⟩:=J.fin
  refine⟨sv,e1,e2,?_⟩
  have:(cg++[Rc.e x]).drop 1=cg.drop 1++[.e x]:=by
   obtain⟨B9,rest,e⟩:=J.shape
   rw[e];rfl
  rw[this,lC,e3];rfl
theorem Jn.Kt (hB:8<=P.B) (J:Jn P cg F aX bu synced gK pend){d:Hd}{b:ah aA}{now:ah Nat} (hx:d.Ok) (hf:Frs P.B F.length ao d.bs b) (hs:fb P.az (ents (P.az+1) gK) pend=aa (ents (P.az+1) now)):
  Jn P (cg++[.h d]) (F++b) (aX++[(F++b).length]) (bu++[⟨(F++b).length,now,d⟩]) synced now []:=by
 have hb:=(hf.len hB).2.1
 have hL:=J.As
 have hle:=(J.jr.le).1
 have hdr:(cg++[Rc.h d]).drop 1=cg.drop 1++[.h d]:=by
  obtain⟨B9,rest,e⟩:=J.shape
  rw[e];rfl
 have HV:runs P.az UW ((cg++[Rc.h d]).drop 1)=aa (ents (P.az+1) now,d,[]):=by
  obtain⟨sv,e1,e2,e3⟩:=J.fin
  rw[hdr,lC,e3]
  simp only[pk,runs,yy,hs,Gg]
 refine⟨?_,?_,?_,?_,?_,?_,?_,?_,?_,?_⟩
 ·have:=J.jr.snoc (r:=d.bs) (b:=b) (by rw[jF];exact hf)
  rw[jF] at this
  rw[f7];exact this
 ·obtain⟨B9,rest,e⟩:=J.shape
  exact⟨B9,rest++[.h d],by rw[e];rfl⟩
 ·intro r hr
  rcases iS.mp hr with hr |hr
  ·exact J.ok r hr
  ·simp at hr;subst hr;exact hx
 ·intro n hn
  rw[mJ]
  have:=J.two n hn
  simp;exact cw [(c8 aX n).length,(if F.length+b.length<=n then[F.length+b.length] else[]).length] bJ 0x10004220 544 this aQ
 ·intro n hn
  rw[mJ,JD]
  by_cases h:(F++b).length<=n
  ·rw[a8 h,a8 h]
   have MT:c8 aX n=aX:=vb fun e he=>by have:=hle e he;simp at h;exact GK [e,n,b.length,F.length] x6 dP qI 0x30024000 0x10203040 hb this h aQ
   refine⟨⟨(F++b).length,now,d⟩,[],by simp,?_,?_⟩
   ·rw[MT,mu (by simp;exact cw [cg.length,aX.length] bJ dP pS hL aQ)];exact HV
   ·rw[MT]
    symm
    rw[xj,qO,I8]
    intro e he
    rcases iS.mp he with he |he
    ·have:=hle e he;simp;exact fu [e,F.length,b.length] eI oH qI 0x10024000 hb this aQ
    ·simp at he ⊢;exact cw [e,F.length,b.length] bJ oH 0x20104002 he aQ
  ·rw[bb h,bb h,fT,fT]
   obtain⟨sv2,pe2,f1,f2,f3⟩:=J.Kz n hn
   refine⟨sv2,pe2,f1,?_,f3⟩
   rw[SR]
   ·exact f2
   ·have:(c8 aX n).length<=aX.length:=tZ _ _
    exact fu [(c8 aX n).length,cg.length,aX.length] 0x11019011030 dP 0x20102 pO hL this aQ
 ·have:=J.sf;simp;exact fu [synced,F.length,b.length] eI oH qI dP hb this aQ
 ·intro sv h
  rcases iS.mp h with h |h
  ·have:=J.sl sv h;simp;exact fu [sv.e,F.length,b.length] eI oH qI dP hb this aQ
  ·have h:=eR.mp h;subst h;exact bD _
 ·obtain⟨sv,h1,h2⟩:=J.se
  exact⟨sv,Nu _ h1,h2⟩
 ·rw[Nv]
  refine⟨J.so,by simp,?_⟩
  intro s hs t ht
  simp at ht;subst ht
  have:=J.sl s hs;simp;exact fu [s.e,F.length,b.length] eI mm qI dP hb this aQ
 ·exact⟨⟨(F++b).length,now,d⟩,by simp,rfl,HV⟩
theorem Jn.sync (J:Jn P cg F aX bu synced gK pend){s2:Nat} (h1:synced<=s2) (h2:s2<=F.length) (h3:∃ sv∈bu,sv.e=s2):Jn P cg F aX bu s2 gK pend:=
 ⟨J.jr,J.shape,J.ok,fun n hn=>J.two n (fu [synced,n,s2] eI dP pO lJ h1 hn aQ),fun n hn=>J.Kz n (fu [synced,n,s2] eI dP pO lJ h1 hn aQ),h2,J.sl,h3,J.so,J.fin⟩
theorem Jn.cut (hB:8<=P.B) (J:Jn P cg F aX bu synced gK pend){a:Nat}{sv:Sv} (h1:synced<=a) (h2:a<=F.length) (uW:(eZ bu a).getLast?=aa sv) (hg:(c8 aX a).getLast?.getD 0=a) (hp:((c8 aX a).filter (sv.e < ·))=[]):
  Jn P (cg.take (c8 aX a).length) (F.take a) (c8 aX a) (eZ bu a) a sv.rows []/\sv.e=a:=by
 have Ji:(F.take a).length=a:=by simp;exact gh [] 0x10001102 [a,F.length] M' 514 dP h2 aQ
 have htw:=J.two a h1
 have hsa:sv.e=a:=by
  have hm:sv∈eZ bu a:=Bw uW
  have hle:sv.e<=a:=by have:=(nR.mp hm).2;simpa using this
  have Dq:c8 aX a≠[]:=by intro q;rw[q] at htw;simp at htw
  obtain⟨g,hgl⟩:∃ g,(c8 aX a).getLast?=aa g:=⟨_,Wf Dq⟩
  rw[hgl] at hg
  have hg:g=a:=hg
  subst hg
  have:¬ (sv.e < g):=by
   intro q
   have:g∈(c8 aX g).filter (sv.e < ·):=nR.mpr ⟨Bw hgl,by simpa using q⟩
   rw[hp] at this;cases this
  exact fu [sv.e,g] 0x11000110050011011000050001021 pS dP 0x100016 hle this aQ
 have hjr:=J.jr.cut hB a
 obtain⟨hj1,hj2,hj3⟩:=hjr
 have hg':(aX.filter (· <=a)).getLast?.getD 0=a:=hg
 rw[hg',Nat.sub_zero,<- sC] at hj1
 have Xd:∀ n,a<=n->c8 (c8 aX a) n=c8 aX a:=fun n hn=>by rw[N1,dM hn]
 have hm3:∀ n,a<=n->eZ (eZ bu a) n=eZ bu a:=fun n hn=>by rw[GZ,dM hn]
 obtain⟨sv2,pe2,f1,f2,f3⟩:=J.Kz a h1
 rw[uW] at f1
 cases f1
 rw[hp,xj,qO] at f3
 subst f3
 have HV:runs P.az UW ((cg.take (c8 aX a).length).drop 1)=aa (ents (P.az+1) sv.rows,sv.hd,[]):=f2
 refine⟨⟨hj1,?_,?_,?_,?_,by exact cw [a,(List.take a F).length] 0x19011020 dP 258 Ji aQ,?_,?_,?_,?_⟩,hsa⟩
 ·obtain⟨B9,rest,e⟩:=J.shape
  refine⟨B9,rest.take ((c8 aX a).length-2),?_⟩
  rw[e]
  obtain⟨k,hk⟩:∃ k,(c8 aX a).length=k+2:=⟨(c8 aX a).length-2,by exact gh [] 0x22000101 [(c8 aX a).length] RN 0x22104002 544 htw aQ⟩
  rw[hk];simp
 ·intro r hr;exact J.ok r (yk hr)
 ·intro n hn;rw[Xd n hn];exact htw
 ·intro n hn
  refine⟨sv,[],by rw[hm3 n hn];exact uW,?_,?_⟩
  ·rw[Xd n hn,mu (by simp;exact lT [] 0x10001102 [(c8 aX a).length,cg.length] 0x11011011030011001103002 512 aQ)];exact HV
  ·rw[Xd n hn,hp];rfl
 ·intro s hs
  have:=(nR.mp hs).2
  simp at this;rw[Ji];exact this
 ·exact⟨sv,Bw uW,hsa⟩
 ·exact J.so.sublist T7
 ·exact⟨sv,uW,rfl,HV⟩
end
theorem oQ (b:Nat):∀ (us gK:ah Nat) (k:Nat),k<=gK.length->fb b (ents (b+1) gK) (ents (b+1+k) us)=aa (ents (b+1) (if us=[] then gK else gK.take k++us))
 |[],gK,k,h=>rfl
 |u::us,gK,k,h=>by
  have e1:gT b (ents (b+1) gK) (kF u (b+1+k))=aa (ents (b+1) (gK.take k++[u])):=by
   unfold gT
   rw[a8 ⟨by show b+1<=b+1+k;exact lE [b,k] hM 0x10120044120040 aQ,by show b+1+k<=_;rw[fh];exact cw [b,k,gK.length] bJ 0x20120044101200440 0x20100 h aQ⟩]
   rw[show(kF u (b+1+k)).i-b-1=k by show b+1+k-b-1=k;exact lT [] 0x1220000101200440202 [b,k] 0x1100030011011000050019001900110060120201100030011011001100500110011001100601202001 0x10402 aQ,mQ,rE,eW,dM h]
   rfl
  have hl:(gK.take k++[u]).length=k+1:=by simp;exact gh [] 0x10001102 [k,gK.length] M' 514 dP h aQ
  simp only[ents,fb,e1,pk]
  have:=oQ b us (gK.take k++[u]) (k+1) (cw [k,(List.take k gK++[u]).length] 0x19011020 0x10120040 0x12004102 hl aQ)
  rw[show b+1+k+1=b+1+(k+1) by exact lE [b,k] rL 0x12104120044121012004442 aQ,this]
  congr 2
  by_cases hu:us=[]
  ·subst hu;simp
  ·rw[bb hu,bb (by simp),mu (by exact cw [(List.take k gK++[u]).length,k] bJ pR 0x12104002 hl aQ)];simp
theorem Qd (b:Nat):∀ (xs:ah En) (es:ah En) (hd:Hd) (pe:ah En),runs b (es,hd,pe) (xs.map Rc.e)=aa (es,hd,pe++xs)
 |[],es,hd,pe=>by simp [runs]
 |x::xs,es,hd,pe=>by
  simp only[gv,runs,yy,pk]
  rw[Qd b xs es hd (pe++[x])];simp
noncomputable def lY (P:iK) (rows:ah Nat) (hd:Hd):ah Rc:=.f::.h hd::(if rows=[] then[] else(ents (P.az+1) rows).map Rc.e++[.h hd])
theorem Jn.start {P:iK}{F:ah aA}{aX:ah Nat}{rows:ah Nat}{hd:Hd} (hB:8<=P.B) (hj:Jr P.B 0 ((lY P rows hd).map P.bs) F aX) (hh:hd.Ok) (ho:∀ x∈ents (P.az+1) rows,x.Ok):Jn P (lY P rows hd) F aX [⟨F.length,rows,hd⟩] F.length rows []:=by
 have hle:=hj.le
 have hlen:=hj.As
 rw[cF] at hlen
 have HV:runs P.az UW ((lY P rows hd).drop 1)=aa (ents (P.az+1) rows,hd,[]):=by
  unfold lY UW
  by_cases hr:rows=[]
  ·subst hr;rfl
  ·rw[bb hr]
   show(yy P.az ([],⟨0,0,0⟩,[]) (.h hd)).bind (fun s1=>runs P.az s1 _)=_
   simp only[yy,fb,Gg,pk]
   rw[lC,Qd]
   have:=oQ P.az rows [] 0 (by simp)
   rw[bb hr] at this
   simp only[pk,runs,yy,LU]
   rw[show fb P.az [] (ents (P.az+1) rows)=aa (ents (P.az+1) rows) from this]
   rfl
 have E0:∀ n,F.length<=n->c8 aX n=aX:=fun n hn=>vb fun e he=>by have:=hle.1 e he;exact fu [e,n,F.length] eI dP lJ 0x20024000 hn this aQ
 have h2:2<=(lY P rows hd).length:=by unfold lY;simp
 refine⟨hj,⟨hd,_,rfl⟩,?_,?_,?_,bD _,?_,⟨_,.head _,rfl⟩,by simp,⟨_,rfl,rfl,HV⟩⟩
 ·intro r hr
  unfold lY at hr
  rcases dS.mp hr with rfl |hr
  ·trivial
  rcases dS.mp hr with rfl |hr
  ·exact hh
  split at hr
  ·cases hr
  ·rcases iS.mp hr with hr |hr
   ·obtain⟨x,hx,rfl⟩:=l9.mp hr
    exact ho x hx
   ·simp at hr;subst hr;exact hh
 ·intro n hn;rw[E0 n hn];exact fu [aX.length,(lY P rows hd).length] eI 544 258 0x10220 hlen h2 aQ
 ·intro n hn
  refine⟨⟨F.length,rows,hd⟩,[],by unfold eZ;simp [hn],?_,?_⟩
  ·rw[E0 n hn,mu (by exact cw [(lY P rows hd).length,aX.length] bJ dP pS hlen aQ)];exact HV
  ·rw[E0 n hn]
   symm
   rw[xj,qO,I8]
   intro e he
   have:=hle.1 e he;simp;exact cw [e,F.length] bJ dP 0x10024000 this aQ
 ·intro sv h;simp at h;subst h;exact bD _
structure Agree (bh rows:ah Nat) (b7:Nat):Prop where
 m:∀ (k t:Nat),rows[k]? =aa t->bh[k]? =aa t->rows.take (k+1)=bh.take (k+1)
 c:∀ k:Nat,rows[k]? =aa b7->bh[k]? =aa b7
 b:∀ t∈rows,t<=b7
structure tC (az sure:Nat) (bh rows:ah Nat) (b7 eM:Nat):Prop where
 a:Agree bh rows b7
 c1:az<=eM
 c2:eM<=sure
 c3:eM<=az+rows.length
 p:rows.take (eM-az)=bh.take (eM-az)
theorem Ed {α:Type}{xs ys:ah α}{k n:Nat} (h:xs.take n=ys.take n) (hk:k<=n):xs.take k=ys.take k:=by
 have:=aW (List.take k) h
 rw[qx,qx,dM hk] at this;exact this
theorem xQ {α:Type}{xs ys:ah α}{n:Nat} (h:∀ j,j < n->xs[j]? =ys[j]?):xs.take n=ys.take n:=by
 apply TK
 intro j
 by_cases hj:j < n
 ·rw[pY hj,pY hj];exact h j hj
 ·rw[By (by simp;exact gh [] 0x10001103 [n,xs.length,j] M_ tM 0x2016 hj aQ),By (by simp;exact gh [] 0x10001103 [n,ys.length,j] M_ tM 0x2016 hj aQ)]
theorem rC {α:Type}{xs ys:ah α}{n j:Nat} (h:xs.take n=ys.take n) (hj:j < n):xs[j]? =ys[j]? :=by
 rw[<- pY hj,h,pY hj]
section
variable {az sure b7 eM:Nat}{bh rows:ah Nat}
theorem tC.grow (S:tC az sure bh rows b7 eM) (hs:sure<=az+bh.length) (n:Nat){GY:Nat} (h2:sure<=GY):tC az GY (bh++List.replicate n b7) rows b7 eM:=by
 have hl:∀ k:Nat,k<=bh.length->(bh++List.replicate n b7).take k=bh.take k:=fun k hk=>SR hk
 refine⟨⟨fun k t h1 h3=>?_,fun k h1=>?_,S.a.b⟩,S.c1,aK S.c2 h2,S.c3,?_⟩
 ·by_cases hk:k < bh.length
  ·rw[I_ hk] at h3
   rw[hl _ (by exact cw [k,bh.length] bJ 0x10120040 rG hk aQ)];exact S.a.m k t h1 h3
  ·rw[ZR (by exact cw [bh.length,k] oZ dP 0x1016 hk aQ)] at h3
   have:t=b7:=by
    have:=Bx h3
    exact(BR.mp this).2
   subst this
   have:=lX (S.a.c k h1)
   exact(fu [k,bh.length] 0x1101100040011 11 0x100016 rG hk this aQ:False).elim
 ·have:=S.a.c k h1
  rw[I_ (lX this)];exact this
 ·rw[hl _ (by have:=S.c2;exact nk [] 0x10000104 [eM,az,bh.length,sure] 0x11000011050019001101101105002 0x20400 0x20104300 rI hs this aQ)];exact S.p
theorem tC.turn (S:tC az sure bh rows b7 eM){c n vd GY:Nat} (h1:sure<=az+c) (hc:c<=bh.length) (ht:b7 < vd) (h2:sure<=GY):tC az GY (bh.take c++List.replicate n vd) rows vd eM:=by
 have lP:(bh.take c).length=c:=by simp;exact gh [] 0x10001102 [c,bh.length] M' 514 dP hc aQ
 have hl:∀ k:Nat,k<=c->(bh.take c++List.replicate n vd).take k=bh.take k:=fun k hk=>by
  rw[SR (by exact fu [k,(List.take c bh).length,c] 0x11019011030 dP 0x20102 pO lP hk aQ),qx,dM hk]
 refine⟨⟨fun k t h3 h4=>?_,fun k h3=>?_,fun t h=>by have:=S.a.b t h;exact fu [t,vd,b7] eI dP 0x10201 pO ht this aQ⟩,S.c1,aK S.c2 h2,S.c3,?_⟩
 ·by_cases hk:k < c
  ·rw[I_ (by exact fu [k,(List.take c bh).length,c] 0x11019011030 rG 0x20102 0x20001 lP hk aQ),pY hk] at h4
   rw[hl _ (by exact cw [k,c] bJ 0x10120040 rG hk aQ)];exact S.a.m k t h3 h4
  ·rw[ZR (by exact fu [(List.take c bh).length,k,c] 0x110011011040021 dP 0x20002 0x201016 lP hk aQ)] at h4
   have:t=vd:=(BR.mp (Bx h4)).2
   have:=S.a.b t (Bx h3)
   exact(GK [b7,vd,t] 0x110190110040 11 rG 0x10202 512 ht (by assumption) this aQ:False).elim
 ·have:=S.a.b vd (Bx h3)
  exact(fu [b7,vd] AR 11 rG 256 ht this aQ:False).elim
 ·rw[hl _ (by have:=S.c2;exact nk [] 0x10000104 [eM,az,c,sure] 0x11000011050019001101101105002 0x20400 0x20104300 rI h1 this aQ)];exact S.p
noncomputable def Cd (now:ah Nat) (k0:Nat) (ts:ah Nat):ah Nat:=match fc now k0 ts with
 |none=>now
 |some k=>now.take k++ts.drop (k-k0)
theorem P7 {k0 c j:Nat} (h1:k0<=j) (h2:j < k0+(cut bh k0 (k0+c)).length):(cut bh k0 (k0+c))[j-k0]? =bh[j]? :=by
 rw[tc] at h2
 unfold cut
 rw[pY (by exact nk [] 0x80601103001020104010000404 [j,k0,c,bh.length] 0x1100110040011011019001100110700110019001100110703202 0x60401 256 0xa0104001 h1 h2 aQ),BS]
 congr 1;exact gh [] 0x100102 [k0,j] 0x1100110040019001100050020110110004001100110005002001 0x10200042 dP h1 aQ
theorem tC.append (S:tC az sure bh rows b7 eM) (hs:sure<=az+bh.length){k0 c:Nat} (hk:k0<=bh.length) (hl:∀ t∈bh,t<=b7) (hm:k0=0∨∃ t,rows[k0-1]? =aa t/\bh[k0-1]? =aa t):
  (∀ k,fc rows k0 (cut bh k0 (k0+c))=aa k->eM<=az+k/\k<=rows.length)/\tC az sure bh (Cd rows k0 (cut bh k0 (k0+c))) b7 (max eM (min sure (az+k0+(cut bh k0 (k0+c)).length))):=by
 have EY:rows.take k0=bh.take k0:=by
  rcases hm with rfl |⟨t,h1,h2⟩
  ·simp
  ·by_cases h0:k0=0
   ·subst h0;simp
   ·have:=S.a.m _ _ h1 h2
    rw[show k0-1+1=k0 by exact gh [] 0x12000101 [k0] 0x110011000060011000000600210110190000060011011000006000102011 0x121042 0x20026 h0 aQ] at this;exact this
 have lP:=tc bh k0 (k0+c)
 have wV:∀ j,k0<=j->j < k0+(cut bh k0 (k0+c)).length->(cut bh k0 (k0+c))[j-k0]? =bh[j]? :=fun j h1 h2=>P7 h1 h2
 have hnn:k0+(cut bh k0 (k0+c)).length<=bh.length:=by exact nk [] 0x604010020000300040304 [k0,(cut bh k0 (k0+c)).length,bh.length,c] 0x1100110040011001900110011070011011019001100110702212 x8 pO 0x80102 hk lP aQ
 generalize hts:cut bh k0 (k0+c)=ts at lP wV hnn ⊢
 have c1:=S.c1
 have c2:=S.c2
 have c3:=S.c3
 cases hf:fc rows k0 ts with
 |none=>
  refine⟨nofun,?_⟩
  have hn:=Fb hf
  have E0:rows.take (k0+ts.length)=bh.take (k0+ts.length):=xQ fun j hj=>by
   by_cases h:j < k0
   ·exact rC EY h
   ·rw[hn j (by exact cw [k0,j] oZ dP 0x1016 h aQ) hj];exact wV j (cw [k0,j] oZ dP 0x1016 h aQ) hj
  have hlen:k0+ts.length<=rows.length:=by
   have:=aW List.length E0
   simp at this;exact nk [] 0x3010004120100041204 [k0,ts.length,rows.length,bh.length] 0x1900110019011011070019001100190011070120110001104002 x8 0x30100040 0x60402 hnn this aQ
  unfold Cd;rw[hf]
  refine⟨S.a,by exact gh [] 0x5010240300044201205 [az,eM,sure,k0,ts.length] 0x19001101104001901101101104012 0x70000 dP c1 aQ,by exact gh [] 0x5000240302044101205 [eM,sure,az,k0,ts.length] 0x1100001101106001100110110011060120110000110110600110011000110601202 0x10700 dP c2 aQ,by show _<=az+rows.length;exact nk [] 0x6000240302044101206 [eM,sure,az,k0,ts.length,rows.length] 0x110000011011070011001100110011070120110000011011070011001101101100110701202 0x50204800 0x50204000 0x50403040 c3 hlen aQ,?_⟩
  show rows.take _=_
  by_cases h:eM<=min sure (az+k0+ts.length)
  ·rw[BN h]
   exact Ed E0 (lT [] 0x1040030201044001204 [sure,az,k0,ts.length] 0x1101900040019001100110501201100001105001900110110110501202 0x30204600 aQ)
  ·rw[xl (by exact gh [] 0x30201044001105 [sure,az,k0,ts.length,eM] oZ 0x40500 0x504006 h aQ)];exact S.p
 |some k=>
  obtain⟨f1,f2,f3,f4⟩:=s7 hf
  have hpk:rows.take k=bh.take k:=xQ fun j hj=>by
   by_cases h:j < k0
   ·exact rC EY h
   ·rw[f4 j (by exact cw [k0,j] oZ dP 0x1016 h aQ) hj];exact wV j (cw [k0,j] oZ dP 0x1016 h aQ) (fu [j,k0,ts.length,k] eI mm 0x20104301 0x30001 f2 hj aQ)
  have hck:eM<=az+k:=by
   refine iD fun h=>?_
   have:=rC S.p (show k < eM-az by exact gh [] 0x20100103 [k,eM,az] 0x110110030011001101104002 0x30001 0x10002041 h aQ)
   rw[wV k f1 f2] at f3
   exact f3 this
  have hkr:k<=rows.length:=by
   have:=aW List.length hpk
   simp at this;exact EN [] 0x4000110001205 [k,rows.length,k0,ts.length,bh.length] 0x11000011011007001900110019000110801201100001105002 dP 0x40302040 0x30204001 0x70502 hnn f2 this aQ
  refine⟨fun k2 h2=>(eH h2)▸⟨hck,hkr⟩,?_⟩
  have ad0:Cd rows k0 ts=bh.take (k0+ts.length):=by
   unfold Cd;rw[hf]
   show rows.take k++ts.drop (k-k0)=_
   rw[hpk]
   apply TK
   intro j
   by_cases h1:j < k
   ·rw[I_ (by simp;exact nl4 [] 0xa0801302003050304020101406 [j,k,bh.length,k0,ts.length,c] 0x1100000011008001100190019001101101100110b00110110190019001101101100110b03222019001100001107002 0x60001 tM 0xc0402 0x40304101 rG hk lP f2 h1 aQ),pY h1,pY (by exact fu [j,k0,ts.length,k] eI mm 0x20104301 0x30001 f2 h1 aQ)]
   ·rw[ZR (by simp;exact gh [] 0x10001103 [k,bh.length,j] M_ tM 0x2016 h1 aQ),eW,dM (by exact fu [k,bh.length,k0,ts.length] eI dP 0x10302040 0x30204001 hnn f2 aQ),BS]
    by_cases h2:j < k0+ts.length
    ·rw[pY h2,show k-k0+(j-k)=j-k0 by exact nk [] 0x102000020010000303 [k,k0,j] 0x1100001100600110000110000800110190019001100000a001100190019001100000b022120201100001100600110000110000800110000001100000b001900110011001100000b0221202001021 0x70503042 256 0x2016 f1 h1 aQ];exact wV j (fu [k0,j,k] 0x110011011040021 dP pO 0x201016 f1 h1 aQ) h2
    ·rw[By (by exact nk [] 0x1030020100204 [ts.length,k,k0,j] 0x11001101100011070011000110110001108012011000110011007001100110011000110801202021 0x60404000 0x204101 0x2043016 f2 h2 aQ),By (by simp;exact gh [] 0x20100041104 [k0,ts.length,bh.length,j] M_ 0x30400 0x100043016 h2 aQ)]
  rw[ad0]
  have hln:(bh.take (k0+ts.length)).length=k0+ts.length:=by simp;exact gh [] 0x20100041103 [k0,ts.length,bh.length] M' 0x10004302 x8 hnn aQ
  refine⟨⟨fun j t h1 h2=>?_,fun j h1=>?_,fun t h=>hl t (yk h)⟩,by exact gh [] 0x5010240300044201205 [az,eM,sure,k0,ts.length] 0x19001101104001901101101104012 0x70000 dP c1 aQ,by exact gh [] 0x5000240302044101205 [eM,sure,az,k0,ts.length] 0x1100001101106001100110110011060120110000110110600110011000110601202 0x10700 dP c2 aQ,by exact EN [] 0x7000240302044101207 [eM,sure,az,k0,ts.length,(List.take (k0+ts.length) bh).length,k] 0x110000190110110110800110011001900011080120110000190110110110800110011011019000110801202 0x50204900 0x40304601 0x60204000 0x40304502 f2 hck hln aQ,?_⟩
  ·have:=lX h1
   rw[qx,dM (by exact fu [j,k0,ts.length,(List.take (k0+ts.length) bh).length] eI 0x20104120040 0x20104302 0x30001 hln this aQ)]
  ·have:=lX h1
   rw[pY (by exact fu [j,k0,ts.length,(List.take (k0+ts.length) bh).length] eI mm 0x20104302 0x30001 hln this aQ)] at h1;exact h1
  ·rw[qx,dM (by exact nk [] 0x208006000240302044101306 [eM,sure,az,k0,ts.length,k] 0x11019001101100600110000000110110900190011001100001109022120110000000110110900190011000011011011090220110000000110110900190011001101100011090221202 0x40304a00 0x40304501 0x50204000 f2 hck aQ)]
end
noncomputable def dk (i:Nat) (ts:ah Nat):ah V:=(ents i ts).map En.row
theorem dJ (i:Nat) (ts:ah Nat):(dk i ts).length=ts.length:=(cF ..).trans (fh i ts)
theorem pC {i:Nat}{ts:ah Nat}{k t:Nat} (h:ts[k]? =aa t):(dk i ts)[k]? =aa (kF t (i+k)).row:=by
 unfold dk;rw[BP,rD,h];rfl
theorem zW (i:Nat) (ts us:ah Nat):dk i (ts++us)=dk i ts++dk (i+ts.length) us:=by unfold dk;rw[rE,f7]
theorem Ih (i:Nat) (ts:ah Nat) (p q:Nat):cut (dk i ts) p q=dk (i+p) (cut ts p q):=by
 unfold cut dk
 rw[<- F_,<- sC,pK,mQ]
theorem C7 (i:Nat) (ts:ah Nat) (p:Nat):(dk i ts).take p=dk i (ts.take p):=by
 unfold dk;rw[<- sC,mQ]
theorem Du (i:Nat) (ts:ah Nat) (p:Nat):(dk i ts).drop p=dk (i+p) (ts.drop p):=by
 unfold dk;rw[<- F_,pK]
theorem kH {n:Nat}{xs ys:ah V}{r:aC aj} (h:xs.length=ys.length) (k:oR (tI n) xs ys=r):tI (n+1) (.tup xs) (.tup ys)=r:=(a8 h).trans k
theorem JR {n:Nat}{xs ys:ah V}{r:aC aj} (h:xs.length=ys.length) (k:oR (tI n) xs ys=r):tI (n+1) (.bE xs) (.bE ys)=r:=(a8 h).trans k
theorem ic {f:V->V->aC aj}{x y:V}{xs ys:ah V}{a b:aj} (h:f x y=aa a) (k:oR f xs ys=aa b):oR f (x::xs) (y::ys)=aa (a&&b):=by
 show((f x y).bind fun a=>(oR f xs ys).map (a&& ·))=_
 rw[h,k];rfl
theorem Qm (n:Nat) (t u i:Nat):tI (n+2) (kF t i).row (kF u i).row=aa (decide (t=u)):=by
 refine kH rfl ((ic (a:=decide ((t:Int)=u)) rfl (ic rfl (ic rfl (ic rfl rfl)))).trans ?_)
 by_cases h:t=u
 ·subst h;simp only[decide_true,S9]
 ·rw[dU h,dU fun e=>h (LJ.mp e),Bool.false_and]
theorem Hm (n:Nat):∀ (ts:ah Nat) (i:Nat),oR (tI (n+2)) (dk i ts) (dk i ts)=aa ag
 |[],i=>rfl
 |t::ts,i=>ic ((Qm n t t i).trans (aW aa (c9 rfl))) (Hm n ts (i+1))
theorem Eo (n:Nat) (i:Nat) (ts:ah Nat):tI (n+3) (.bE (dk i ts)) (.bE (dk i ts))=aa ag:=JR rfl (Hm n ts i)
theorem U' {n:Nat}{xs ys:ah V} (h:¬ xs.length=ys.length):tI (n+1) (.bE xs) (.bE ys)=aa ao:=bb h
theorem rh (n:Nat) (xs:ah V):tI (n+1) (.bE xs) (.bE [])=aa (decide (xs=[])):=by
 cases xs with
 |nil=>rfl
 |cons x xs=>exact(U' (show ¬ (x::xs).length=([]:ah V).length from nofun)).trans (aW aa (dU (show ¬ x::xs=[] from nofun)).symm)
theorem vo {i:Nat}{ts:ah Nat}:dk i ts=[]↔ts=[]:=by
 rw[<- qO,dJ,qO]
theorem H9 (fs:ah (Nm×V)) (f g:Nm) (v:V):eF (cL fs f v) g=if f=g then aa v else eF fs g:=by
 induction fs with
 |nil=>rfl
 |cons a fs ih=>
  obtain⟨k,w⟩:=a
  show eF (if k=f then(k,v)::fs else(k,w)::cL fs f v) g=if f=g then aa v else if k=g then aa w else eF fs g
  by_cases h:k=f
  ·subst h;rw[a8 rfl]
   show(if k=g then aa v else eF fs g)=_
   by_cases h2:k=g
   ·rw[a8 h2,a8 h2]
   ·rw[bb h2,bb h2,bb h2]
  ·rw[bb h]
   show(if k=g then aa w else eF (cL fs f v) g)=_
   rw[ih]
   by_cases h2:k=g
   ·rw[a8 h2,a8 h2,bb (by rw[<- h2];exact fun q=>h q.symm)]
   ·rw[bb h2,bb h2]
theorem ir {fs:ah (Nm×V)}{f:Nm}{v:V}:eF (cL fs f v) f=aa v:=(H9 ..).trans (a8 rfl)
theorem aJ {fs:ah (Nm×V)}{f g:Nm}{v:V}{r:aC V} (h:decide (f=g)=ao) (k:eF fs g=r):eF (cL fs f v) g=r:=(H9 ..).trans ((bb (Gw h)).trans k)
theorem eC (fs:ah (Nm×V)) (f:Nm) (v:V):(cL fs f v).length<=fs.length+1/\(∀ w,eF fs f=aa w->(cL fs f v).length=fs.length):=by
 induction fs with
 |nil=>exact⟨bD _,nofun⟩
 |cons a fs ih=>
  obtain⟨k,w⟩:=a
  show List.length (if k=f then(k,v)::fs else(k,w)::cL fs f v)<=_/\∀ u,(if k=f then aa w else eF fs f)=aa u->List.length (if k=f then(k,v)::fs else(k,w)::cL fs f v)=_
  by_cases h:k=f
  ·rw[a8 h];exact⟨F5 _,fun _ _=>rfl⟩
  ·rw[bb h,bb h];exact⟨eG ih.1,fun w hw=>aW (· +1) (ih.2 w hw)⟩
theorem vj {fs:ah (Nm×V)}{f:Nm}{v:V}{k:Nat} (h:fs.length < k):(cL fs f v).length < k+1:=cE (eC fs f v).1 (Tu h)
structure DY (H:Hp) (wa:ax) (fs:ah (Nm×V)) (f e wr:ax) (B:Nat) (F:ah aA) (aX:ah Nat):Prop where
 at_:H wa=aa (.i_ fs)
 kw:eF fs .fw=aa (.ref wr)
 ke:eF fs .km=aa (.ref e)
 W:pq H wr f B F
 E:H e=aa (.bE (aX.map nv))
 fe:f≠e
section
variable {n:Nat}{H:Hp}{Q:PV}{X:PX}{wa f e wr:ax}{fs:ah (Nm×V)}{B:Nat}{F:ah aA}{aX:ah Nat}
theorem pq.keep {H':Hp}{S:ah ax} (W:pq H wr f B F) (k:g_ S H H') (h1:wr∉S) (h2:f∉S):pq H' wr f B F:=by
 obtain⟨a,ps,b,c⟩:=W
 exact⟨k _ _ h1 a,ps,k _ _ h2 b,c⟩
theorem DY.more {H':Hp} (J:DY H wa fs f e wr B F aX) (l:H.le H'):DY H' wa fs f e wr B F aX:=⟨l _ _ J.at_,J.kw,J.ke,J.W.more l,l _ _ J.E,J.fe⟩
theorem DY.aw (J:DY H wa fs f e wr B F aX):wa≠wr:=aY J.at_ J.W.at_ nofun
theorem DY.af (J:DY H wa fs f e wr B F aX):wa≠f:=by
 obtain⟨ps,h,_⟩:=J.W.fl
 exact aY J.at_ h nofun
theorem DY.ae (J:DY H wa fs f e wr B F aX):wa≠e:=aY J.at_ J.E nofun
theorem DY.ew (J:DY H wa fs f e wr B F aX):e≠wr:=aY J.E J.W.at_ nofun
theorem Ke {a b c:ax} (h:c≠a) (k:c≠b):c∉[a,b]:=fun q=>by
 rcases dS.mp q with r |r
 ·exact h r
 ·exact k (eR.mp r)
theorem gq {a c:ax} (h:c≠a):c∉[a]:=fun q=>h (eR.mp q)
theorem DE {r:ah aA} (J:DY H wa fs f e wr B F aX) (hB:8<=B/\B<=100) (hr:r.length<=100) (hF:F.length<=900000) (he:aX.length<=100000)
  (q:∀ H' bs,Frs B F.length ao r bs->DY H' wa fs f e wr B (F++bs) (aX++[(F++bs).length])->g_ [wr,f,e] H H'->Q .none H'):aM (n+5) .mB [.ref wa,.bytes r] H Q X:=by
 refine bA rfl (bo (bH (bp (ai rfl) J.at_ J.kw) J.W.at_ rfl (aq (ai rfl) aE) (Zz J.W hB hr hF fun H1 bs h1 h2 h3=>⟨rfl,?_⟩)))
 have k1:=h3 wa _ (Ke J.aw J.af) J.at_
 have k2:=h3 e _ (Ke J.ew J.fe.symm) J.E
 refine bo (oW (bp (ai rfl) k1 J.ke) k2 (aP (bp (ai rfl) k1 J.kw) h2.at_ rfl) (by rw[cF];exact cE he (by decide)) ⟨rfl,bG ?_⟩)
 refine q _ bs h1 ⟨bY J.ae k1,J.kw,J.ke,h2.keep (dR (dZ _) (.head _)) (gq J.ew.symm) (gq J.fe),?_,J.fe⟩ (dR (fun c o hc h=>h3 c o (fun q=>hc ?_) h) (.tail _ (.tail _ (.head _))))
 ·rw[f7];exact aN
 ·exact Nu [e] q
end
theorem Jr.aaV {B:Nat}{rs:ah (ah aA)}{bs:ah aA}{es:ah Nat}{r b:ah aA} (h:Jr B 0 rs bs es) (hf:Frs B bs.length ao r b):Jr B 0 (rs++[r]) (bs++b) (es++[(bs++b).length]):=by
 have:=h.snoc (r:=r) (b:=b) (by rw[jF];exact hf)
 rw[jF] at this;exact this
theorem Ax {S T:ah ax}{H H1 H2:Hp} (k:g_ S H H1) (j:g_ T H1 H2) (h:∀ c∈T,H c=au∨c∈S):g_ S H H2:=fun c o nc e=>j c o (fun q=>by
 rcases h c q with h |h
 ·rw[e] at h;contradiction
 ·exact nc h) (k c o nc e)
theorem Om {S:ah ax}{H H1:Hp}{c:ax} (k:g_ S H H1) (nc:c∉S) (h:H1 c=au):H c=au:=by
 cases e:H c with
 |none=>rfl
 |some o=>rw[k c o nc e] at h;contradiction
theorem AJ {b t:Nat}{vs:ah Nat} (hb:b < 2 ^ 32) (ht:t < 2 ^ 32) (hv:me vs):(fold b t vs).length<=100:=
 have l3:=td hv
 have l4:(lp (Nd vs)).length<=66:=du (c_ (cE l3 (by decide))) l3 (bD _)
 aK (du (x:=[4]) (bD 1) (du (c_ hb) (du (c_ ht) l4 (bD _)) (bD _)) (bD _)) (by decide)
theorem zv {h:Hd} (hh:h.Ok):h.bs.length<=16:=du (x:=[1]) (bD 1) (du (c_ hh.1) (du (c_ hh.2.1) (c_ hh.2.2) (bD _)) (bD _)) (bD _)
theorem zy {x:En} (hx:x.Ok):x.bs.length<=43:=eG (vF hx)
structure iK.Ok (P:iK):Prop where
 B1:8<=P.B
 B2:P.B<=100
 b1:2<=P.az
 b2:P.az<=50000
 t1:1<=P.bt
 t2:P.bt<=50000
 v:me P.vs
 v2:P.vs≠[]
structure Us (P:iK) (fs:ah (Nm×V)):Prop where
 B:eF fs .dC=aa (nv P.B)
 az:eF fs .cx=aa (nv P.az)
 bt:eF fs .bU=aa (nv P.bt)
 kO:eF fs .dq=aa (Nc P.vs)
theorem Frs.le {B L:Nat}{bg:aj}{d bs:ah aA} (hB:8<=B) (h:Frs B L bg d bs) (hd:d.length<=100):bs.length<=3000:=
 aK (h.len hB).1 (aK (Sn (md 27 hd) 26) (by decide))
section
variable {C:CC}{L:bZ}{H:Hp}{rz:aj}{r:Ss}{Q:PO}{X:fj}{e:E}{wa:ax}{fs:ah (Nm×V)}{f:Nm}
theorem Hc (z:∀ H,PE C L H e (.ref wa)) (h:H wa=aa (.i_ fs)) (hl:fs.length < 100) (k:∀ a K,H a=au->K a=aa (.bE [])->K wa=aa (.i_ (cL fs f (.ref a)))->cH wa H K->wSs C rz r L K Q X):wSs C rz (.cons (.c4 e f (.list ao .nil)) r) L H Q X:=
 mL (iI aE (bX _) fun a ha=>Dn (z _) (bY (a_ h ha) h) hl (k a _ ha (bY (a_ h ha).symm aN) aN (.set (.of_le (iC ha)))))
end
theorem adG {A B:Prop} (k:B):cond (!true) A B:=k
theorem adH {A B:Prop} (k:A):cond (!false) A B:=k
theorem Vz {C:CC}{L:bZ}{H:Hp}{Q:PV}{X:PX}{e:E}{xs:ah V} (p:PE C L H e (.bE xs)) (k:∀ z,H z=au->Q (.bool !decide (xs=[])) (H.set z (.bE []))):wE C (.cB e .ne (.list ao .nil)) L H Q X:=
 p _ _ (iI aE (bX _) fun z hz=>⟨decide (xs=[]),by rw[QO aN];exact rh 5 xs,k z hz⟩)
section
variable {n:Nat}{H:Hp}{Q:PV}{X:PX}{wa:ax}{fs:ah (Nm×V)}{P:iK}
noncomputable def Zm (fs:ah (Nm×V)) (f e wr sv:ax) (s:Nat):ah (Nm×V):=cL (cL (cL (cL (cL fs .gC (.ref f)) .km (.ref e)) .fw (.ref wr)) .iG (nv s)) .iA (.ref sv)
theorem Jy {rows:ah Nat}{hd:Hd}{L:bZ}{f e wr:ax}{F:ah aA}{aX:ah Nat}{X:fj} (OD:fs.length<=50) (g1:L .xw=aa (.ref wa)) (g2:L .f9=aa (.bE (dk (P.az+1) rows))) (g3:L .cO=aa hd.row)
  (J8:DY H wa (cL (cL (cL fs .gC (.ref f)) .km (.ref e)) .fw (.ref wr)) f e wr P.B F aX):
  wSs (aM n) ag nF L H (fun o L1 H1=>o=.next/\∃ sv,H sv=au/\DY H1 wa (Zm fs f e wr sv F.length) f e wr P.B F aX/\H1 sv=aa (.bE [.tup [nv F.length,.bE (dk (P.az+1) rows),hd.row]])/\e≠sv/\f≠sv/\wa≠sv/\g_ [wa,sv] H H1) X:=by
 have m3:(cL (cL (cL fs .gC (.ref f)) .km (.ref e)) .fw (.ref wr)).length < 54:=vj (vj (vj (uQ OD)))
 have m4:(cL (cL (cL (cL fs .gC (.ref f)) .km (.ref e)) .fw (.ref wr)) .iG (nv F.length)).length < 55:=vj m3
 obtain⟨ps,w2,_⟩:=J8.W.fl
 refine iN (aP (bp (ai g1) J8.at_ J8.kw) J8.W.at_ rfl) (ai g1) J8.at_ (fq m3 (by decide)) ?_
 refine mL (iI (aq (dw (aq (bp (ai g1) aN ir) (aq (ai g2) (aq (ai g3) aE))) (aT rfl)) aE) (aT rfl) fun sv uW=>?_)
 have hwv:=eY uW aN
 have VI:=lh (.set (.refl H)) hwv.symm uW
 refine Dn (ai g1) (bY hwv aN) (fq m4 (by decide)) (bG ⟨rfl,sv,VI,?_⟩)
 have ks:g_ [wa,sv] H (((H.set wa (.i_ (cL (cL (cL (cL fs .gC (.ref f)) .km (.ref e)) .fw (.ref wr)) .iG (nv F.length)))).set sv (.bE [.tup [nv F.length,.bE (dk (P.az+1) rows),hd.row]])).set wa (.i_ (Zm fs f e wr sv F.length))):=dR (dR (dR (dZ _) (.head _)) (.tail _ (.head _))) (.head _)
 have hev:=eY VI J8.E
 have hfv:=eY VI w2
 exact⟨⟨aN,aJ rfl (aJ rfl ir),aJ rfl (aJ rfl (aJ rfl ir)),J8.W.keep ks (Ke J8.aw.symm (eY VI J8.W.at_)) (Ke J8.af.symm hfv),ks e _ (Ke J8.ae.symm hev) J8.E,J8.fe⟩,bY hwv.symm aN,hev,hfv,hwv,ks⟩
theorem K7 {r:Ss}{L:bZ}{Qo:PO}{Xo:fj} (hP:P.Ok) (h:H wa=aa (.i_ fs)) (OD:fs.length<=50) (A:Us P fs) (l1:L .xw=aa (.ref wa)) (k:∀ K f e wr,DY K wa (cL (cL (cL fs .gC (.ref f)) .km (.ref e)) .fw (.ref wr)) f e wr P.B [] []->g_ [wa] H K->H f=au->H e=au->H wr=au->wSs (aM (n+2)) ag r L K Qo Xo):
  wSs (aM (n+2)) ag (.cons (.c4 (.aB .xw) .gC (.list ao .nil)) (.cons (.c4 (.aB .xw) .km (.list ao .nil)) (.cons (.c4 (.aB .xw) .fw (.new ao .jP (.cons (.key (.aB .xw) .gC) (.cons (.key (.aB .xw) .dC) (.cons (.glob .iM) (.cons (.int 0) .nil)))))) r))) L H Qo Xo:=by
 have m1:(cL fs .gC (.ref wa)).length < 52:=vj (uQ OD)
 refine Hc (fun _=>ai l1) h (cE OD (by decide)) fun f K1 hf f1 w1 k1=>?_
 refine Hc (fun _=>ai l1) w1 (fq (vj (uQ OD)) (by decide)) fun e K2 he e2 w2 k2=>?_
 have hwf:=a_ h hf
 have he0:=lh k1 (eY he w1).symm he
 have f2:=k2 f _ hwf.symm f1
 have hfe:=eY he f1
 refine mL (lV (aq (bp (ai l1) w2 (aJ rfl ir)) (aq (bp (ai l1) w2 (aJ rfl (aJ rfl A.B))) (aq (bw rfl) (aq aH aE)))) rfl fun wr UC=>?_)
 have hww:=eY UC w2
 have hfw:=eY UC f2
 have hew:=eY UC e2
 have k12:=k1.trans k2
 have abz:=lh k12 hww.symm UC
 refine Iv (F:=[]) (B:=P.B) aN ⟨[],bY hfw f2,rfl,bD _⟩ ⟨hP.B1,hP.B2⟩ fun W=>⟨rfl,?_⟩
 rw[Hp.set_set] at W ⊢
 refine Dn (ai l1) (bY hww w2) (fq (vj (vj (uQ OD))) (by decide)) (k _ f e wr ⟨aN,ir,aJ rfl ir,W.keep (dR (S:=[wa]) (dZ _) (.head _)) (gq hww.symm) (gq hwf.symm),bY (eY he w1).symm (bY hew e2),hfe⟩ (dR (fun c o nc hc=>?_) (.head _)) hf he0 abz)
 exact bY (a_ hc abz) (k12 c o (fun q=>nc (by rw[q];exact .head _)) hc)
structure Yl (P:iK) (H H1:Hp) (wa:ax) (fs:ah (Nm×V)) (f e wr:ax) (cg:ah Rc) (F:ah aA) (aX:ah Nat):Prop where
 J:DY H1 wa fs f e wr P.B F aX
 K:g_ [wa] H H1
 R:Jr P.B 0 (cg.map P.bs) F aX
 N:F.length<=3000*cg.length
 E:aX.length=cg.length
theorem Yl.up {H1 H2:Hp}{f e wr:ax}{cg:ah Rc}{F:ah aA}{aX:ah Nat} (S:Yl P H H1 wa fs f e wr cg F aX) (l:H1.le H2):Yl P H H2 wa fs f e wr cg F aX:=⟨S.J.more l,jD S.K (MP l),S.R,S.N,S.E⟩
theorem Fy {H1:Hp}{f e wr:ax}{cg:ah Rc}{F:ah aA}{aX:ah Nat}{x:Rc} (hP:P.Ok) (hT:∀ c∈[wr,f,e],H c=au∨c∈[wa]) (S:Yl P H H1 wa fs f e wr cg F aX) (hx:(P.bs x).length<=100) (hn:cg.length<=200) (k:∀ H' F' ab9,Yl P H H' wa fs f e wr (cg++[x]) F' ab9->Q .none H'):aM (n+5) .mB [.ref wa,.bytes (P.bs x)] H1 Q X:=by
 refine DE S.J ⟨hP.B1,hP.B2⟩ hx (aK S.N (cw [cg.length] 0xbb82011020 0xdbba033000bb8250 0xc813000 hn aQ)) (by rw[S.E];exact cw [cg.length] bJ 0x186a033000 0xc813000 hn aQ) fun H' b fr J' k'=>k _ _ _ ⟨J',Ax S.K k' hT,?_,?_,?_⟩
 ·rw[f7];exact S.R.aaV fr
 ·rw[bN,bN,Bz,uN];exact fS S.N (fr.le hP.B1 hx)
 ·rw[bN (as:=aX),bN (as:=cg),S.E];rfl
theorem ye {rows:ah Nat}{hd:Hd} (hP:P.Ok) (h:H wa=aa (.i_ fs)) (OD:fs.length<=50) (A:Us P fs) (hh:hd.Ok) (hr:∀ t∈rows,t < 2 ^ 32) (mC:rows.length<=100)
  (q:∀ H' f e wr sv F aX,DY H' wa (Zm fs f e wr sv F.length) f e wr P.B F aX->H' sv=aa (.bE [.tup [nv F.length,.bE (dk (P.az+1) rows),hd.row]])->e≠sv->f≠sv->g_ [wa] H H'->H f=au->H e=au->H wr=au->H sv=au->
   Jr P.B 0 ((lY P rows hd).map P.bs) F aX->F.length<=3000*(lY P rows hd).length->Q .none H'):aM (n+8) .sZ [.ref wa,.bE (dk (P.az+1) rows),hd.row] H Q X:=by
 have AD:=hP.b2
 have Xj:P.az < 2 ^ 32:=cE hP.b2 (by decide)
 have hbt:P.bt < 2 ^ 32:=cE hP.t2 (by decide)
 have hhl:(P.bs (.h hd)).length<=100:=aK (zv hh) (by decide)
 refine bA rfl (K7 (n:=n+5) hP h OD A rfl fun K f e wr J0 K0 hf he UC=>?_)
 have hT:∀ c∈[wr,f,e],H c=au∨c∈[wa]:=fun c hc=>by
  rcases dS.mp hc with rfl |hc
  ·exact .inl UC
  ·rcases dS.mp hc with rfl |hc
   ·exact .inl hf
   ·rw[eR.mp hc];exact .inl he
 have S0:Yl P H K wa _ f e wr [] [] []:=⟨J0,K0,⟨rfl,rfl⟩,bD _,rfl⟩
 have hx:∀ {L:bZ}{H:Hp}{i:Int}{k:Nat}{u:V},L .cO=aa hd.row->[nv hd.t,nv hd.v,nv hd.c][k]? =aa u->i=k->PE (aM (n+7)) L H (.idx (.aB .cO) (.int i)) u:=fun h1 h2 h3=>sU (ai h1) (h3▸aH) h2 (aT rfl)
 refine bM (bQ (aq (oy (aq (hx (k:=0) rfl rfl rfl) (aq (hx (k:=1) rfl rfl rfl) (aq (hx (k:=2) rfl rfl rfl) aE)))) aE) (o6 (h:=hd) hh fun H4 l4=>?_))
 have S4:=S0.up l4
 refine bo (rA (q7 (ai rfl) (D7 (bQ (aq (bp (ai rfl) S4.J.at_ (aJ rfl (aJ rfl (aJ rfl A.az)))) (aq (bp (ai rfl) S4.J.at_ (aJ rfl (aJ rfl (aJ rfl A.bt)))) (aq (bp (ai rfl) S4.J.at_ (aJ rfl (aJ rfl (aJ rfl A.kO)))) aE))) (o7 Xj hbt hP.v fun H5 l5=>?_)))))
 refine Fy (x:=.f) hP hT (S4.up l5) (AJ Xj hbt hP.v) (by decide) fun H6 F6 E6 S6=>⟨rfl,?_⟩
 refine bo (bQ (aq (ai rfl) (aq (ai rfl) aE)) (Fy (x:=.h hd) hP hT S6 hhl (by decide) fun H7 F7 E7 S7=>⟨rfl,?_⟩))
 have fin:∀ (L:bZ) H8 F aX,L .xw=aa (.ref wa)->L .f9=aa (.bE (dk (P.az+1) rows))->L .cO=aa hd.row->Yl P H H8 wa (cL (cL (cL fs .gC (.ref f)) .km (.ref e)) .fw (.ref wr)) f e wr (lY P rows hd) F aX->wSs (aM (n+7)) ag nF L H8 (Cc Q) (wJ X):=by
  intro L H8 F aX g1 g2 g3 S8
  refine dH (dj _) _ ?_ (fun _ _ _ h=>h) (Jy OD g1 g2 g3 S8.J)
  rintro o L1 H1 ⟨rfl,sv,uW,J9,s9,hev,hfv,hwv,ks⟩
  have hs:=Om S8.K (gq hwv.symm) uW
  refine q _ f e wr sv F aX J9 s9 hev hfv (Ax S8.K ks fun c hc=>?_) hf he UC hs S8.R S8.N
  rcases dS.mp hc with rfl |hc
  ·exact .inr (.head _)
  ·rw[eR.mp hc];exact .inl hs
 refine zU (Vz (ai rfl) fun z hz=>⟨!decide (dk (P.az+1) rows=[]),rfl,?_⟩)
 have S8:=S7.up (iC (o:=.bE []) hz)
 by_cases OC:rows=[]
 ·rw[c9 (vo.mpr OC)]
  exact adG (bG (bC (fin _ _ _ _ rfl rfl rfl (by unfold lY;rw[a8 OC];exact S8))))
 ·rw[dU (fun h=>OC (vo.mp h))]
  have Xg:(ents (P.az+1) rows).length<=100:=by rw[fh];exact mC
  have B8:=zw hr (cE (fS (eG AD) mC) (by decide))
  refine adH (tG (eE (aq (ai rfl) aE) fun _ _ q=>o5 (es:=ents (P.az+1) rows) rfl (aK Xg (by decide)) q) rfl (qo En.v (ents (P.az+1) rows) (fun done L H1=>L .xw=aa (.ref wa)/\L .f9=aa (.bE (dk (P.az+1) rows))/\L .cO=aa hd.row/\L .u1=aa (.bytes hd.bs)/\∃ F E,Yl P H H1 wa (cL (cL (cL fs .gC (.ref f)) .km (.ref e)) .fw (.ref wr)) f e wr ([.f,.h hd]++done.map Rc.e) F E) ⟨rfl,rfl,rfl,rfl,_,_,S8⟩ (fun _ _ _ _=>rfl) ?_ ?_))
  ·rintro done w rest L H1 e1 ⟨g1,g2,g3,g4,F,E,S⟩
   have hx:=B8 w (by rw[e1];exact t4 _ (.head _))
   have hn:([Rc.f,Rc.h hd]++done.map Rc.e).length<=200:=by
    have:=aW List.length e1
    rw[bN] at this
    rw[bN,cF]
    exact aK (dW (aK (ft ..) (aK (gY this.symm) Xg)) _) (by show 2+100<=200;decide)
   refine bo (rA (q7 (ai g1) (D7 (bQ (aq (ai rfl) aE) (j8 hx fun H2 l2=>?_)))))
   refine Fy (x:=.e w) hP hT (S.up l2) (aK (zy hx) (by decide)) hn fun H3 F3 E3 S3=>⟨rfl,bG ⟨g1,g2,g3,g4,F3,E3,?_⟩⟩
   rw[f7,<- dF];exact S3
  ·rintro L H1 ⟨g1,g2,g3,g4,F,E,S⟩
   have hn:([Rc.f,Rc.h hd]++(ents (P.az+1) rows).map Rc.e).length<=200:=by
    rw[bN,cF]
    exact aK (dW Xg _) (by show 2+100<=200;decide)
   refine bC (bo (bQ (aq (ai g1) (aq (ai g4) aE)) (Fy (x:=.h hd) hP hT S hhl hn fun H3 F3 E3 S3=>⟨rfl,bG (bC (fin _ _ F3 E3 g1 g2 g3 ?_))⟩)))
   unfold lY;rw[bb OC];exact S3
end
section
variable {n:Nat}{H:Hp}{Q:PV}{X:PX}{wa:ax}{fs:ah (Nm×V)}{P:iK}{σ:Lg}
noncomputable def Lg.Je (P:iK) (rows:ah Nat) (eM:Nat):Lg:=⟨P.az,P.bt,rows,rows,rows.length,eM,P.az⟩
theorem ZA {un:ax}{v:V} (q:Q .none (H.set un (.inst .j' [(.cZ,.none),(.aS,.bE []),(.cJ,v)]))):aM (n+1) .oK [.ref un,v] (H.set un (.inst .j' [])) Q X:=by
 refine bA rfl (bj iP (ai rfl) (aT rfl) (by decide) (bj (cG aE (bX _)) (ai rfl) (aT rfl) (by decide) ?_))
 refine bj (ai rfl) (ai rfl) (aT rfl) (by decide) ?_
 exact q
theorem ZE {lg st:ax}{hv cv sv:V} (hs:H st=aa (mZ σ hv cv sv)) (hl:σ.gK.length<=1000) (ha:H lg=au)
  (q:∀ un K,H un=au->K un=aa (.inst .j' [(.cZ,.none),(.aS,.bE []),(.cJ,nv (σ.az+σ.gK.length+1))])->K lg=aa (.inst .wk [(.cV,.ref st),(.fB,.int 1048576),(.fN,.ref un),(.b5,nv σ.az),(.d9,nv σ.az)])->cH lg H K->Q .none K):aM (n+2) .p9 [.ref lg,.ref st,.int 1048576] (H.set lg (.inst .wk [])) Q X:=by
 have yE:=a_ hs ha
 refine bA rfl ?_
 refine cT (ai rfl) (ai rfl) aN (aT rfl) (by decide) ?_;refine bj (ai rfl) (ai rfl) (aT rfl) (by decide) ?_
 rw[Hp.set_set]
 have h1:=bY (o:=.inst .wk (cL (cL [] .cV (.ref st)) .fB (.int 1048576))) yE hs
 refine aR (vg h1 (ai rfl)) (eP (lV (aq (dO (zc h1 hl (ai rfl))) aE) rfl fun un hun=>ZA ⟨rfl,?_⟩))
 have hlu:=eY hun aN
 have Kn:=lh (.set (.refl H)) hlu.symm hun
 refine yC (ai rfl) (bY hlu aN) (aT rfl) (by decide) ?_
 refine bj (cX (c6 (j:=1) (ai rfl) aH (j_ ..)) (L6 ..)) (ai rfl) (aT rfl) (by decide) (bj (cX (c6 (j:=1) (ai rfl) aH (j_ ..)) (L6 ..)) (ai rfl) (aT rfl) (by decide) (bG ?_))
 exact q un _ Kn (bY hlu.symm aN) aN (.set (.vk (.set (.refl _)) Kn))
theorem W9 {a b c d:ax}{H K:Hp} (k:g_ [b,c,d] H K):g_ [a,b,c,d] H K:=fun x o nx h=>k x o (fun q=>nx (.tail _ q)) h
theorem adI {a b c d x:ax} (h1:x≠a) (h2:x≠b) (h3:x≠c) (h4:x≠d):x∉[a,b,c,d]:=fun q=>by
 rcases dS.mp q with r |q
 ·exact h1 r
 ·rcases dS.mp q with r |q
  ·exact h2 r
  ·exact Ke h3 h4 q
theorem Ao {b c d x:ax} (h2:x≠b) (h3:x≠c) (h4:x≠d):x∉[b,c,d]:=fun q=>by
 rcases dS.mp q with r |q
 ·exact h2 r
 ·exact Ke h3 h4 q
theorem PC {L:bZ}{st:ax}{rows:ah Nat}{hd:Hd}{cv sv:V}{X:fj} (hP:P.Ok) (h:H wa=aa (.i_ fs)) (OD:fs.length<=60) (hb:eF fs .cx=aa (nv P.az)) (g1:L .xw=aa (.ref wa)) (g2:L .cV=aa (.ref st)) (g3:L .cO=aa hd.o)
  (hr:∀ t∈rows,t < 2 ^ 32) (mC:rows.length<=400) (hc:hd.c<=P.az+rows.length) (hs:H st=aa (mZ (Lg.Je P rows P.az) hd.o cv sv)):
  wSs (aM (n+3)) ag vY L H (fun o L1 H1=>o=.next/\∃ lg un,eB H1 lg st un (Lg.Je P rows (max P.az hd.c))/\H1 wa=aa (.i_ (cL (cL fs .cV (.ref st)) .xlog (.ref lg)))/\H lg=au/\H un=au/\g_ [wa,lg,st,un] H H1) X:=by
 have yH:=uQ OD
 have Rf:=aY h hs nofun
 refine bM (lV (aq (ai g2) (aq (eV (j:=1048576) (z7 (k:=1) (q:=20) aH aH (by unfold small;decide) (by decide)) rfl) aE)) rfl fun lg hlg=>ZE (σ:=Lg.Je P rows P.az) hs (aK mC (by decide)) hlg fun un K hun ku kl kb=>⟨rfl,?_⟩)
 have hwl:=a_ h hlg
 have W':=a_ h hun
 have yE:=a_ hs hlg
 have Rh:=a_ hs hun
 have hlu:=aY kl ku nofun
 have ok:(Lg.Je P rows P.az).Ok:=⟨bD _,bD _,rfl,fun _=>rfl,aK hP.b2 (by decide),mC,mC,hr,hr,cE hP.t2 (by decide),ft _ _,bD _,bD _⟩
 have eu:D9 (Lg.Je P rows P.az)=.inst .j' [(.cZ,.none),(.aS,.bE []),(.cJ,nv ((Lg.Je P rows P.az).az+(Lg.Je P rows P.az).gK.length+1))]:=by
  unfold D9 Lg.Je
  dsimp only
  rw[Tv,iE];rfl
 have A:eB K lg st un (Lg.Je P rows P.az):=⟨kl,⟨hd.o,cv,sv,kb _ _ yE hs⟩,by rw[eu];exact ku,ok⟩
 have hw:=kb _ _ hwl h
 refine bo (bH (ai rfl) A.lg rfl (aq (bI (ai g3) rfl) aE) (wY A hc fun H3 A3 K3=>⟨rfl,?_⟩))
 have hw3:=K3 wa _ (Ao hwl Rf W') hw
 refine bo (bH (ai rfl) A3.lg rfl (aq (bp (ai g1) hw3 hb) aE) (A6 A3 (aK (by decide) hP.b1) (bD _) (Tp ..) fun H4 A4 K4=>⟨rfl,?_⟩))
 have hw4:=K4 wa _ (Ao hwl Rf W') hw3
 refine iN (ai g2) (ai g1) hw4 (fq yH (by decide)) (gg (ai rfl) (ai g1) (fq (vj yH) (by decide)) (bG ⟨rfl,lg,un,?_,aN,hlg,hun,?_⟩))
 ·obtain⟨a,b,c,uw⟩:=A4.st
  exact⟨bY hwl.symm A4.lg,⟨a,b,c,bY Rf.symm uw⟩,bY W'.symm A4.un,A4.ok⟩
 ·exact dR (jD (jD (fun c o nc e=>kb c o (fun q=>nc (by rw[q];exact .tail _ (.head _))) e) (W9 K3)) (W9 K4)) (.head _)
theorem VZ {st:ax}{vs:ah Nat} (hv:me vs) (h0:vs≠[]) (q:Q .none (H.set st (.inst .iz [(.cO,.obj .fQ [(.bO,.int 1),(.oj,.int 0),(.h_,.int 1)]),(.dq,Nc vs),(.xG,.obj .Snapshot [(.cp,.int 1),(.bO,.int 1),(.dq,Nc vs),(.bq,.bytes [])]),(.cD,.int 1),(.bU,.int 1),(.aS,.bE [])]))):aM (n+2) .kh [.ref st,Nc vs] (H.set st (.inst .iz [])) Q X:=by
 have hvl:(vs.map nv).length<=line:=by rw[cF];exact aK hv.2.1 (by decide)
 refine bA rfl (aR aH (c5 (fk (eX (bI (ai rfl) rfl) hvl) aH) (dD (by rw[cF];exact qB.mpr h0)) (aR aH (bG (bC ?_)))))
 refine bj (oy (aq (ai rfl) (aq aH (aq (ai rfl) aE)))) (ai rfl) (aT rfl) (by decide) ?_
 refine bj (ai rfl) (ai rfl) (aT rfl) (by decide) ?_
 refine bj (My (aq (ai rfl) (aq (ai rfl) (aq (ai rfl) (aq gU aE))))) (ai rfl) (aT rfl) (by decide) ?_
 refine bj (ai rfl) (ai rfl) (aT rfl) (by decide) ?_;refine bj (ai rfl) (ai rfl) (aT rfl) (by decide) ?_
 exact bj (cG aE (bX _)) (ai rfl) (aT rfl) (by decide) q
theorem KO {st:ax}{i t:Nat}{hv c cv:V} (hi:1 < i) (hs:H st=aa (.inst .iz [(.cO,hv),(.dq,cv),(.xG,.obj .Snapshot [(.cp,.int 1),(.bO,.int 1),(.dq,cv),(.bq,.bytes [])]),(.cD,.int 1),(.bU,.int 1),(.aS,.bE [])]))
  (q:Q .none (H.set st (.inst .iz [(.cO,hv),(.dq,c),(.xG,.obj .Snapshot [(.cp,nv i),(.bO,nv t),(.dq,c),(.bq,.bytes [])]),(.cD,nv i),(.bU,nv t),(.aS,.bE [])]))):aM (n+1) .iw [.ref st,.obj .Snapshot [(.cp,nv i),(.bO,nv t),(.dq,c),(.bq,.bytes [])]] H Q X:=by
 refine bA rfl (bK (a9 (dK (kJ (j:=1) (bI (ai rfl) rfl) (bI (aP (ai rfl) hs rfl) rfl)) (cb (Gm hi)) (cP (gu (j:=1) (bI (ai rfl) rfl) (aP (ai rfl) hs rfl))))) (cb (Nat.not_lt_of_lt hi)) ?_)
 refine cT (ai rfl) (ai rfl) hs (aT rfl) (by decide) (bj (bI (ai rfl) rfl) (ai rfl) (aT rfl) (by decide) (bj (bI (ai rfl) rfl) (ai rfl) (aT rfl) (by decide) (bj (bI (ai rfl) rfl) (ai rfl) (aT rfl) (by decide) ?_)))
 exact bj (cG aE (bX _)) (ai rfl) (aT rfl) (by decide) q
theorem DF {x:V}{rows:ah Nat}{hd:Hd} (hP:P.Ok) (h:H wa=aa (.i_ fs)) (OD:fs.length<=60) (A:Us P fs) (hx:listOf H x=aa (dY (P.az+1) rows)) (hr:∀ t∈rows,t < 2 ^ 32) (mC:rows.length<=400) (hc:hd.c<=P.az+rows.length)
  (q:∀ H' lg st un,eB H' lg st un (Lg.Je P rows (max P.az hd.c))->H' wa=aa (.i_ (cL (cL fs .cV (.ref st)) .xlog (.ref lg)))->H lg=au->H st=au->H un=au->g_ [wa] H H'->Q .none H'):aM (n+4) .ET [.ref wa,x,hd.o] H Q X:=by
 have Zk:=hP.b1
 refine bA rfl (bM (lV (aq (bp (ai rfl) h A.kO) aE) rfl fun st uw=>VZ hP.v hP.v2 ⟨rfl,?_⟩))
 have Rf:=a_ h uw
 have hw:=fun o=>bY (o:=o) Rf h
 refine bo (bH (ai rfl) aN rfl (aq (My (aq (bp (ai rfl) (hw _) A.az) (aq (bp (ai rfl) (hw _) A.bt) (aq (bp (ai rfl) (hw _) A.kO) (aq gU aE))))) aE) (KO Zk aN ⟨rfl,?_⟩))
 rw[Hp.set_set]
 have UB:=fun o=>rq (o:=o) uw hx
 refine bo (bH (ai rfl) aN rfl (aq (ai rfl) aE) (DC (σ:=Lg.Je P [] P.az) (k:=0) (us:=rows) aN (UB _) (bX _) (fun _=>rfl) (bX _) (aK mC (by decide)) fun H2 s2 k2=>⟨rfl,?_⟩))
 refine bo (bH (ai rfl) s2 rfl (aq (ai rfl) aE) (AY (σ:=Lg.Je P rows P.az) s2 ⟨rfl,?_⟩))
 have K2:cH st H H2:=fun c o hc Xh=>k2 c o (gq hc) (bY hc Xh)
 have h2:=K2 wa _ Rf h
 have kb:cH st H (H2.set st (mZ (Lg.Je P rows P.az) hd.o (Nc P.vs) (.obj .Snapshot [(.cp,nv P.az),(.bO,nv P.bt),(.dq,Nc P.vs),(.bq,.bytes [])]))):=K2.set
 refine dH (dj _) _ ?_ (fun _ _ _ h=>h) (PC (st:=st) (fs:=fs) (wa:=wa) (rows:=rows) (hd:=hd) hP (bY Rf h2) OD A.az rfl rfl rfl hr mC hc aN)
 rintro o L1 H3 ⟨rfl,lg,un,B1,B2,B3,B4,B5⟩
 have n1:=lh kb (eY B3 aN).symm B3
 have n2:=lh kb (eY B4 aN).symm B4
 refine q H3 lg st un B1 B2 n1 uw n2 fun c o hc Xh=>?_
 have c2:=a_ Xh uw
 exact B5 c o (adI (fun q=>hc (by rw[q];exact .head _)) (a_ Xh n1) c2 (a_ Xh n2)) (kb c o c2 Xh)
end
structure Ad where
 f:ax
 e:ax
 wr:ax
 ak:ax
 sv:ax
 st:ax
 lg:ax
 un:ax
structure Wd where
 cuts:Nat
 b7:Nat
 sure:Nat
 b8:Nat
 bh:ah Nat
 gK:ah Nat
 now:ah Nat
 br:Nat
 eM:Nat
 app:Nat
 bV:ah (Nat×Nat)
 F:ah aA
 aX:ah Nat
 bu:ah Sv
 synced:Nat
noncomputable def Wd.lg (P:iK) (σ:Wd):Lg:=⟨P.az,P.bt,σ.gK,σ.now,σ.br,σ.eM,σ.app⟩
noncomputable def Jd (P:iK) (s:Sv):V:=.tup [nv s.e,.bE (dk (P.az+1) s.rows),s.hd.row]
noncomputable def y7 (a:Nat×Nat):V:=.tup [nv a.1,nv a.2]
structure jy (P:iK) (fs:ah (Nm×V)) (a:Ad) (σ:Wd):Prop where
 len:fs.length<=50
 B:eF fs .dC=aa (nv P.B)
 az:eF fs .cx=aa (nv P.az)
 bt:eF fs .bU=aa (nv P.bt)
 kO:eF fs .dq=aa (Nc P.vs)
 cuts:eF fs .qF=aa (nv σ.cuts)
 b7:eF fs .bO=aa (nv σ.b7)
 bh:eF fs .ji=aa (.bE (dk (P.az+1) σ.bh))
 sure:eF fs .tE=aa (nv σ.sure)
 now:eF fs .iq=aa (.bE (dk (P.az+1) σ.now))
 eM:eF fs .b5=aa (nv σ.eM)
 app:eF fs .d9=aa (nv σ.app)
 br:eF fs .lA=aa (nv σ.br)
 b8:eF fs .fY=aa (nv σ.b8)
 bV:eF fs .mX=aa (.ref a.ak)
 file:eF fs .gC=aa (.ref a.f)
 aX:eF fs .km=aa (.ref a.e)
 writer:eF fs .fw=aa (.ref a.wr)
 synced:eF fs .iG=aa (nv σ.synced)
 bu:eF fs .iA=aa (.ref a.sv)
 fy:eF fs .cV=aa (.ref a.st)
 log:eF fs .xlog=aa (.ref a.lg)
structure wq (P:iK) (H:Hp) (a:Ad) (σ:Wd):Prop where
 J:pq H a.wr a.f P.B σ.F
 E:H a.e=aa (.bE (σ.aX.map nv))
 A:H a.ak=aa (.bE (σ.bV.map y7))
 S:H a.sv=aa (.bE (σ.bu.map (Jd P)))
 L:eB H a.lg a.st a.un (σ.lg P)
 d1:a.f≠a.e
 d2:a.f≠a.ak
 d3:a.f≠a.sv
 d4:a.e≠a.ak
 d5:a.e≠a.sv
 d6:a.ak≠a.sv
structure jh (P:iK) (H:Hp) (wa:ax) (fs:ah (Nm×V)) (a:Ad) (σ:Wd):Prop where
 at_:H wa=aa (.i_ fs)
 D:jy P fs a σ
 G:wq P H a σ
section
variable {n:Nat}{H:Hp}{Q:PV}{X:PX}{wa:ax}{fs:ah (Nm×V)}{P:iK}{a:Ad}{σ:Wd}
theorem wq.keep {H':Hp}{S:ah ax} (G:wq P H a σ) (k:g_ S H H') (h:∀ c∈S,c≠a.f/\c≠a.e/\c≠a.wr/\c≠a.ak/\c≠a.sv/\c≠a.st/\c≠a.lg/\c≠a.un):wq P H' a σ:=by
 have h1:a.f∉S:=fun q=>(h _ q).1 rfl
 have h2:a.e∉S:=fun q=>(h _ q).2.1 rfl
 have h3:a.wr∉S:=fun q=>(h _ q).2.2.1 rfl
 have h4:a.ak∉S:=fun q=>(h _ q).2.2.2.1 rfl
 have h5:a.sv∉S:=fun q=>(h _ q).2.2.2.2.1 rfl
 have h6:a.st∉S:=fun q=>(h _ q).2.2.2.2.2.1 rfl
 have h7:a.lg∉S:=fun q=>(h _ q).2.2.2.2.2.2.1 rfl
 have h8:a.un∉S:=fun q=>(h _ q).2.2.2.2.2.2.2 rfl
 obtain⟨x,y,z,uw⟩:=G.L.st
 exact⟨G.J.keep k h3 h1,k _ _ h2 G.E,k _ _ h4 G.A,k _ _ h5 G.S,⟨k _ _ h7 G.L.lg,⟨x,y,z,k _ _ h6 uw⟩,k _ _ h8 G.L.un,G.L.ok⟩,G.d1,G.d2,G.d3,G.d4,G.d5,G.d6⟩
theorem jy.Yx {i:Nat} (D:jy P fs a σ):jy P (cL fs .qF (nv i)) a {σ with cuts:=i}:=⟨by rw[(eC fs .qF (nv i)).2 _ D.cuts];exact D.len,aJ rfl D.B,aJ rfl D.az,aJ rfl D.bt,aJ rfl D.kO,ir,aJ rfl D.b7,aJ rfl D.bh,aJ rfl D.sure,aJ rfl D.now,aJ rfl D.eM,aJ rfl D.app,aJ rfl D.br,aJ rfl D.b8,aJ rfl D.bV,aJ rfl D.file,aJ rfl D.aX,aJ rfl D.writer,aJ rfl D.synced,aJ rfl D.bu,aJ rfl D.fy,aJ rfl D.log⟩
theorem jy.Yu {i:Nat} (D:jy P fs a σ):jy P (cL fs .bO (nv i)) a {σ with b7:=i}:=⟨by rw[(eC fs .bO (nv i)).2 _ D.b7];exact D.len,aJ rfl D.B,aJ rfl D.az,aJ rfl D.bt,aJ rfl D.kO,aJ rfl D.cuts,ir,aJ rfl D.bh,aJ rfl D.sure,aJ rfl D.now,aJ rfl D.eM,aJ rfl D.app,aJ rfl D.br,aJ rfl D.b8,aJ rfl D.bV,aJ rfl D.file,aJ rfl D.aX,aJ rfl D.writer,aJ rfl D.synced,aJ rfl D.bu,aJ rfl D.fy,aJ rfl D.log⟩
theorem jy.P_ {ts:ah Nat} (D:jy P fs a σ):jy P (cL fs .ji (.bE (dk (P.az+1) ts))) a {σ with bh:=ts}:=⟨by rw[(eC fs .ji (.bE (dk (P.az+1) ts))).2 _ D.bh];exact D.len,aJ rfl D.B,aJ rfl D.az,aJ rfl D.bt,aJ rfl D.kO,aJ rfl D.cuts,aJ rfl D.b7,ir,aJ rfl D.sure,aJ rfl D.now,aJ rfl D.eM,aJ rfl D.app,aJ rfl D.br,aJ rfl D.b8,aJ rfl D.bV,aJ rfl D.file,aJ rfl D.aX,aJ rfl D.writer,aJ rfl D.synced,aJ rfl D.bu,aJ rfl D.fy,aJ rfl D.log⟩
theorem jy.Yv {i:Nat} (D:jy P fs a σ):jy P (cL fs .tE (nv i)) a {σ with sure:=i}:=⟨by rw[(eC fs .tE (nv i)).2 _ D.sure];exact D.len,aJ rfl D.B,aJ rfl D.az,aJ rfl D.bt,aJ rfl D.kO,aJ rfl D.cuts,aJ rfl D.b7,aJ rfl D.bh,ir,aJ rfl D.now,aJ rfl D.eM,aJ rfl D.app,aJ rfl D.br,aJ rfl D.b8,aJ rfl D.bV,aJ rfl D.file,aJ rfl D.aX,aJ rfl D.writer,aJ rfl D.synced,aJ rfl D.bu,aJ rfl D.fy,aJ rfl D.log⟩
theorem jy.WV {ts:ah Nat} (D:jy P fs a σ):jy P (cL fs .iq (.bE (dk (P.az+1) ts))) a {σ with now:=ts}:=⟨by rw[(eC fs .iq (.bE (dk (P.az+1) ts))).2 _ D.now];exact D.len,aJ rfl D.B,aJ rfl D.az,aJ rfl D.bt,aJ rfl D.kO,aJ rfl D.cuts,aJ rfl D.b7,aJ rfl D.bh,aJ rfl D.sure,ir,aJ rfl D.eM,aJ rfl D.app,aJ rfl D.br,aJ rfl D.b8,aJ rfl D.bV,aJ rfl D.file,aJ rfl D.aX,aJ rfl D.writer,aJ rfl D.synced,aJ rfl D.bu,aJ rfl D.fy,aJ rfl D.log⟩
theorem jy.Hf {i:Nat} (D:jy P fs a σ):jy P (cL fs .b5 (nv i)) a {σ with eM:=i}:=⟨by rw[(eC fs .b5 (nv i)).2 _ D.eM];exact D.len,aJ rfl D.B,aJ rfl D.az,aJ rfl D.bt,aJ rfl D.kO,aJ rfl D.cuts,aJ rfl D.b7,aJ rfl D.bh,aJ rfl D.sure,aJ rfl D.now,ir,aJ rfl D.app,aJ rfl D.br,aJ rfl D.b8,aJ rfl D.bV,aJ rfl D.file,aJ rfl D.aX,aJ rfl D.writer,aJ rfl D.synced,aJ rfl D.bu,aJ rfl D.fy,aJ rfl D.log⟩
theorem jy.WX {i:Nat} (D:jy P fs a σ):jy P (cL fs .d9 (nv i)) a {σ with app:=i}:=⟨by rw[(eC fs .d9 (nv i)).2 _ D.app];exact D.len,aJ rfl D.B,aJ rfl D.az,aJ rfl D.bt,aJ rfl D.kO,aJ rfl D.cuts,aJ rfl D.b7,aJ rfl D.bh,aJ rfl D.sure,aJ rfl D.now,aJ rfl D.eM,ir,aJ rfl D.br,aJ rfl D.b8,aJ rfl D.bV,aJ rfl D.file,aJ rfl D.aX,aJ rfl D.writer,aJ rfl D.synced,aJ rfl D.bu,aJ rfl D.fy,aJ rfl D.log⟩
theorem jy.JI {i:Nat} (D:jy P fs a σ):jy P (cL fs .lA (nv i)) a {σ with br:=i}:=⟨by rw[(eC fs .lA (nv i)).2 _ D.br];exact D.len,aJ rfl D.B,aJ rfl D.az,aJ rfl D.bt,aJ rfl D.kO,aJ rfl D.cuts,aJ rfl D.b7,aJ rfl D.bh,aJ rfl D.sure,aJ rfl D.now,aJ rfl D.eM,aJ rfl D.app,ir,aJ rfl D.b8,aJ rfl D.bV,aJ rfl D.file,aJ rfl D.aX,aJ rfl D.writer,aJ rfl D.synced,aJ rfl D.bu,aJ rfl D.fy,aJ rfl D.log⟩
theorem jy.zT {i:Nat} (D:jy P fs a σ):jy P (cL fs .fY (nv i)) a {σ with b8:=i}:=⟨by rw[(eC fs .fY (nv i)).2 _ D.b8];exact D.len,aJ rfl D.B,aJ rfl D.az,aJ rfl D.bt,aJ rfl D.kO,aJ rfl D.cuts,aJ rfl D.b7,aJ rfl D.bh,aJ rfl D.sure,aJ rfl D.now,aJ rfl D.eM,aJ rfl D.app,aJ rfl D.br,ir,aJ rfl D.bV,aJ rfl D.file,aJ rfl D.aX,aJ rfl D.writer,aJ rfl D.synced,aJ rfl D.bu,aJ rfl D.fy,aJ rfl D.log⟩
theorem jy.UU {x:ax} (D:jy P fs a σ):jy P (cL fs .mX (.ref x)) {a with ak:=x} σ:=⟨by rw[(eC fs .mX (.ref x)).2 _ D.bV];exact D.len,aJ rfl D.B,aJ rfl D.az,aJ rfl D.bt,aJ rfl D.kO,aJ rfl D.cuts,aJ rfl D.b7,aJ rfl D.bh,aJ rfl D.sure,aJ rfl D.now,aJ rfl D.eM,aJ rfl D.app,aJ rfl D.br,aJ rfl D.b8,ir,aJ rfl D.file,aJ rfl D.aX,aJ rfl D.writer,aJ rfl D.synced,aJ rfl D.bu,aJ rfl D.fy,aJ rfl D.log⟩
theorem jy.Qb {x:ax} (D:jy P fs a σ):jy P (cL fs .gC (.ref x)) {a with f:=x} σ:=⟨by rw[(eC fs .gC (.ref x)).2 _ D.file];exact D.len,aJ rfl D.B,aJ rfl D.az,aJ rfl D.bt,aJ rfl D.kO,aJ rfl D.cuts,aJ rfl D.b7,aJ rfl D.bh,aJ rfl D.sure,aJ rfl D.now,aJ rfl D.eM,aJ rfl D.app,aJ rfl D.br,aJ rfl D.b8,aJ rfl D.bV,ir,aJ rfl D.aX,aJ rfl D.writer,aJ rfl D.synced,aJ rfl D.bu,aJ rfl D.fy,aJ rfl D.log⟩
theorem jy.Ej {x:ax} (D:jy P fs a σ):jy P (cL fs .km (.ref x)) {a with e:=x} σ:=⟨by rw[(eC fs .km (.ref x)).2 _ D.aX];exact D.len,aJ rfl D.B,aJ rfl D.az,aJ rfl D.bt,aJ rfl D.kO,aJ rfl D.cuts,aJ rfl D.b7,aJ rfl D.bh,aJ rfl D.sure,aJ rfl D.now,aJ rfl D.eM,aJ rfl D.app,aJ rfl D.br,aJ rfl D.b8,aJ rfl D.bV,aJ rfl D.file,ir,aJ rfl D.writer,aJ rfl D.synced,aJ rfl D.bu,aJ rfl D.fy,aJ rfl D.log⟩
theorem jy.Ha {x:ax} (D:jy P fs a σ):jy P (cL fs .fw (.ref x)) {a with wr:=x} σ:=⟨by rw[(eC fs .fw (.ref x)).2 _ D.writer];exact D.len,aJ rfl D.B,aJ rfl D.az,aJ rfl D.bt,aJ rfl D.kO,aJ rfl D.cuts,aJ rfl D.b7,aJ rfl D.bh,aJ rfl D.sure,aJ rfl D.now,aJ rfl D.eM,aJ rfl D.app,aJ rfl D.br,aJ rfl D.b8,aJ rfl D.bV,aJ rfl D.file,aJ rfl D.aX,ir,aJ rfl D.synced,aJ rfl D.bu,aJ rfl D.fy,aJ rfl D.log⟩
theorem jy.zS {i:Nat} (D:jy P fs a σ):jy P (cL fs .iG (nv i)) a {σ with synced:=i}:=⟨by rw[(eC fs .iG (nv i)).2 _ D.synced];exact D.len,aJ rfl D.B,aJ rfl D.az,aJ rfl D.bt,aJ rfl D.kO,aJ rfl D.cuts,aJ rfl D.b7,aJ rfl D.bh,aJ rfl D.sure,aJ rfl D.now,aJ rfl D.eM,aJ rfl D.app,aJ rfl D.br,aJ rfl D.b8,aJ rfl D.bV,aJ rfl D.file,aJ rfl D.aX,aJ rfl D.writer,ir,aJ rfl D.bu,aJ rfl D.fy,aJ rfl D.log⟩
theorem jy.Ms {x:ax} (D:jy P fs a σ):jy P (cL fs .iA (.ref x)) {a with sv:=x} σ:=⟨by rw[(eC fs .iA (.ref x)).2 _ D.bu];exact D.len,aJ rfl D.B,aJ rfl D.az,aJ rfl D.bt,aJ rfl D.kO,aJ rfl D.cuts,aJ rfl D.b7,aJ rfl D.bh,aJ rfl D.sure,aJ rfl D.now,aJ rfl D.eM,aJ rfl D.app,aJ rfl D.br,aJ rfl D.b8,aJ rfl D.bV,aJ rfl D.file,aJ rfl D.aX,aJ rfl D.writer,aJ rfl D.synced,ir,aJ rfl D.fy,aJ rfl D.log⟩
theorem jy.Oa {x:ax} (D:jy P fs a σ):jy P (cL fs .cV (.ref x)) {a with st:=x} σ:=⟨by rw[(eC fs .cV (.ref x)).2 _ D.fy];exact D.len,aJ rfl D.B,aJ rfl D.az,aJ rfl D.bt,aJ rfl D.kO,aJ rfl D.cuts,aJ rfl D.b7,aJ rfl D.bh,aJ rfl D.sure,aJ rfl D.now,aJ rfl D.eM,aJ rfl D.app,aJ rfl D.br,aJ rfl D.b8,aJ rfl D.bV,aJ rfl D.file,aJ rfl D.aX,aJ rfl D.writer,aJ rfl D.synced,aJ rfl D.bu,ir,aJ rfl D.log⟩
theorem jy.aa9 {x:ax} (D:jy P fs a σ):jy P (cL fs .xlog (.ref x)) {a with lg:=x} σ:=⟨by rw[(eC fs .xlog (.ref x)).2 _ D.log];exact D.len,aJ rfl D.B,aJ rfl D.az,aJ rfl D.bt,aJ rfl D.kO,aJ rfl D.cuts,aJ rfl D.b7,aJ rfl D.bh,aJ rfl D.sure,aJ rfl D.now,aJ rfl D.eM,aJ rfl D.app,aJ rfl D.br,aJ rfl D.b8,aJ rfl D.bV,aJ rfl D.file,aJ rfl D.aX,aJ rfl D.writer,aJ rfl D.synced,aJ rfl D.bu,aJ rfl D.fy,ir⟩
theorem jy.lU (D:jy P fs a σ):fs.length < 100:=cE D.len (by decide)
theorem jh.ne (T:jh P H wa fs a σ):wa≠a.f/\wa≠a.e/\wa≠a.wr/\wa≠a.ak/\wa≠a.sv/\wa≠a.st/\wa≠a.lg/\wa≠a.un:=by
 have h:=T.at_
 obtain⟨ps,w2,_⟩:=T.G.J.fl
 obtain⟨x,y,z,uw⟩:=T.G.L.st
 exact⟨aY h w2 nofun,aY h T.G.E nofun,aY h T.G.J.at_ nofun,aY h T.G.A nofun,aY h T.G.S nofun,aY h uw nofun,aY h T.G.L.lg nofun,aY h T.G.L.un nofun⟩
theorem jh.more {H':Hp} (T:jh P H wa fs a σ) (l:H.le H'):jh P H' wa fs a σ:=⟨l _ _ T.at_,T.D,T.G.keep (S:=[]) (MP l) nofun⟩
theorem wq.ZQ {fs':ah (Nm×V)} (T:jh P H wa fs a σ) (G:wq P H a σ):wq P (H.set wa (.i_ fs')) a σ:=G.keep (S:=[wa]) (dR (dZ _) (.head _)) (fun c hc=>by rw[eR.mp hc];exact T.ne)
theorem Dm (σ:Wd):(σ.lg P).tm (P.az+σ.now.length)=(match σ.now.getLast? with |none=>P.bt |some t=>t):=by
 unfold Lg.tm Wd.lg
 dsimp only
 rw[DT]
 by_cases h:σ.now.length=0
 ·rw[a8 (by rw[h];rfl),qO.mp h];rfl
 ·have hl:=FY (Gu h) Nat.one_pos
  rw[bb (show ¬ P.az+σ.now.length=P.az from fun e=>h (Gz (e.trans (sr _).symm))),pX,O',lK hl];rfl
theorem ib {n:Nat}{i:Int}:tI (n+1) (.int i) (.int i)=aa ag:=aW aa (c9 rfl)
theorem jh.nl (T:jh P H wa fs a σ):(dk (P.az+1) σ.now).length<=400:=by rw[dJ];exact T.G.L.ok.n1
theorem vS (T:jh P H wa fs a σ) (q:Q (.bool ag) H):aM (n+8) .ql [.ref wa] H Q X:=by
 have h:=T.at_
 have D:=T.D
 have L:=T.G.L
 have ok:=L.ok
 have MS:=aK T.nl (show 400<=line by decide)
 have k1:P.az<=σ.app:=ok.a1
 have k2:σ.app<=σ.eM:=ok.a2
 have k3:σ.eM-P.az<=σ.now.length:=Ub (by rw[nP];exact ok.c)
 have er:∀ (i:Nat) (ts:ah Nat),tI 6 (.bE ((ents i ts).map En.row)) (.bE (dk i ts))=aa ag:=fun i ts=>Eo 3 i ts
 have t5:∀ (Lc:bZ) (t:Nat),Lc .xw=aa (.ref wa)->Lc .xlog=aa (.ref a.lg)->Lc .iq=aa (.bE (dk (P.az+1) σ.now))->Lc .xlast=aa (nv (P.az+σ.now.length))->Lc .bO=aa (nv t)->t=(σ.lg P).tm (P.az+σ.now.length)->
   wSs (aM (n+7)) ag qN Lc H (Cc Q) (wJ X):=by
  rintro Lc _ g1 g2 g3 g4 g5 rfl
  refine bK (iH (dw (aq (rt L (ai g2)) (aq (jZ L (ai g2)) (aq (d_ (ai g2) L.lg rfl aE fun _ _ q=>ace L q) aE))) (aT rfl)) (dw (aq (dO (bp (ai g1) h D.az)) (aq (ai g4) (aq (ai g5) aE))) (aT rfl)) (t:=true) (kH rfl (ic ib (ic ib (ic ib rfl))))) rfl ?_
  refine bK (iH (dw (aq (aP (ai g2) L.lg rfl) (aq (aP (ai g2) L.lg rfl) aE)) (aT rfl)) (dw (aq (bp (ai g1) h D.eM) (aq (bp (ai g1) h D.app) aE)) (aT rfl)) (t:=true) (kH rfl (ic ib (ic ib rfl)))) rfl ?_
  have Jh:(ents (σ.app+1) (cut σ.now (σ.app-P.az) (σ.eM-P.az))).length<=1000:=by rw[fh];exact aK (gm ..) (aK ok.n1 (by decide))
  have aek:cut (dk (P.az+1) σ.now) (σ.app-P.az) (σ.eM-P.az)=dk (σ.app+1) (cut σ.now (σ.app-P.az) (σ.eM-P.az)):=by
   rw[Ih,iE,gZ k1]
  have hb:∀ {k},k<=σ.now.length->k<=(dk (P.az+1) σ.now).length:=fun h=>by rw[dJ];exact h
  refine bK (iH (eE (aq (d_ (ai g2) L.lg rfl aE fun _ _ q=>ZF L q) aE) fun _ _ q=>kP (es:=ents (σ.app+1) (cut σ.now (σ.app-P.az) (σ.eM-P.az))) rfl Jh q) (iV (JO (ai g3) (c6 (bp (ai g1) h D.app) (bp (ai g1) h D.az) k1) (c6 (bp (ai g1) h D.eM) (bp (ai g1) h D.az) (aK k1 k2)) (hb (aK (wg k2 _) k3)) (hb k3) MS) aek) (er _ _)) rfl ?_
  exact cy (Qt (eE (aq (d_ (ai g2) L.lg rfl aE fun _ _ q=>acg L q) aE) fun _ _ q=>kP (es:=ents (P.az+1) σ.now) rfl (by rw[fh];exact aK ok.n1 (by decide)) q) (ai g3) (er _ _)) q
 refine bA rfl (aR (bp (ai rfl) h D.log) (aR (bp (ai rfl) h D.now) (aR (cS (bp (ai rfl) h D.az) (cX (eX (ai rfl) MS) (dJ ..))) (aR (bp (ai rfl) h D.bt) ?_))))
 have lW:=Dm (P:=P) σ
 by_cases HU:σ.now=[]
 ·refine bK (iH (ai rfl) (cG aE (bX _)) (rh 5 _)) (mY (vo.mpr HU)) (t5 _ P.bt rfl rfl rfl rfl rfl ?_)
  rw[lW,HU];rfl
 ·obtain⟨t,ht⟩:∃ t,σ.now.getLast?=aa t:=⟨_,Wf HU⟩
  have uX:(dk (P.az+1) σ.now).getLast?=aa (kF t (P.az+1+(σ.now.length-1))).row:=by
   rw[DT,dJ]
   rw[DT] at ht
   exact pC ht
  refine c5 (iH (ai rfl) (cG aE (bX _)) (rh 5 _)) (xO fun h=>HU (vo.mp h)) (aR (sU (k:=0) (z8 (ai rfl) uX) aH rfl (aT rfl)) (bG (bC (t5 _ t rfl rfl rfl rfl rfl ?_))))
  rw[lW,ht]
theorem wq.log {H2:Hp}{τ:Wd} (G:wq P H a σ) (L2:eB H2 a.lg a.st a.un (τ.lg P)) (k:g_ [a.lg,a.st,a.un] H H2) (e1:τ.F=σ.F) (e2:τ.aX=σ.aX) (e3:τ.bV=σ.bV) (e4:τ.bu=σ.bu):wq P H2 a τ:=by
 obtain⟨J1,ps,J2,J3⟩:=G.J
 obtain⟨x,y,z,uw⟩:=G.L.st
 have S:∀ (c:ax) (o:Mo),H c=aa o->o≠lgO (σ.lg P) a.st a.un->o≠mZ (σ.lg P) x y z->o≠D9 (σ.lg P)->H2 c=aa o:=fun c o hc o1 o2 o3=>k c o (Ao (aY hc G.L.lg o1) (aY hc uw o2) (aY hc G.L.un o3)) hc
 exact⟨by rw[e1];exact⟨S _ _ J1 nofun nofun nofun,ps,S _ _ J2 nofun nofun nofun,J3⟩,by rw[e2];exact S _ _ G.E nofun nofun nofun,by rw[e3];exact S _ _ G.A nofun nofun nofun,by rw[e4];exact S _ _ G.S nofun nofun nofun,L2,G.d1,G.d2,G.d3,G.d4,G.d5,G.d6⟩
theorem IF {r:Nat} (T:jh P H wa fs a σ) (hb:1<=P.az) (q:∀ H' fs' i,jh P H' wa fs' a {σ with app:=i}->σ.app<=i->i<=σ.eM->Q .none H'):aM (n+4) .wQ [.ref wa,.int r] H Q X:=by
 have h:=T.at_
 have D:=T.D
 have L:=T.G.L
 have k1:P.az<=σ.app:=L.ok.a1
 have k2:σ.app<=σ.eM:=L.ok.a2
 have hm:=dE r (sx (σ.eM-σ.app))
 have hle:σ.app+r % (σ.eM-σ.app+1)<=σ.eM:=aK (dW (xq hm) _) (gY (gZ k2))
 have hap:σ.app<=σ.app+r % (σ.eM-σ.app+1):=ft ..
 generalize hi:σ.app+r % (σ.eM-σ.app+1)=i at hle hap
 have hx:∀ {Lc:bZ},Lc .xw=aa (.ref wa)->Lc .xr=aa (.int r)->PE (aM (n+3)) Lc H (.bR .add (.key (.aB .xw) .d9) (.bR .mod (.aB .xr) (.bR .add (.bR .sub (.key (.aB .xw) .b5) (.key (.aB .xw) .d9)) (.int 1)))) (nv i):=fun g1 g2=>cX (cS (bp (ai g1) h D.app) (eV (rj (ai g2) (dO (c6 (bp (ai g1) h D.eM) (bp (ai g1) h D.app) k2)) (Gi.mpr (sx _))) rfl)) hi
 obtain⟨n1,n2,n3,n4,n5,n6,n7,n8⟩:=T.ne
 refine bA rfl (aR (hx rfl rfl) (bo (bH (bp (ai rfl) h D.log) L.lg rfl (aq (ai rfl) aE) (A6 L (aK hb (aK k1 hap)) hap hle fun H2 L2 k=>⟨rfl,?_⟩))))
 have h2:=k wa _ (Ao n7 n6 n8) h
 have T2:jh P H2 wa fs a {σ with app:=i}->True:=fun _=>trivial
 have G2:wq P H2 a {σ with app:=i}:=T.G.log L2 k rfl rfl rfl rfl
 exact iN (ai rfl) (ai rfl) h2 D.lU (bG (q _ _ i ⟨aN,D.WX,G2.keep (S:=[wa]) (dR (dZ _) (.head _)) (fun c hc=>by rw[eR.mp hc];exact T.ne)⟩ hap hle))
end
structure Inv (P:iK) (σ:Wd) (c:Nat):Prop where
 cc:c<=11
 jn:∃ cg,Jn P cg σ.F σ.aX σ.bu σ.synced σ.gK []/\cg.length<=25*(c+1)
 fl:σ.F.length<=75000*(c+1)
 ld:σ.bh.length<=3+2*c
 nw:σ.now.length<=3+2*c
 t1:P.bt < σ.b7
 t2:σ.b7<=P.bt+1+2*c
 lt:∀ t∈σ.bh,t<=σ.b7
 s1:P.az<=σ.sure
 s2:σ.sure<=P.az+σ.bh.length
 safe:tC P.az σ.sure σ.bh σ.now σ.b7 σ.eM
 sv:∀ s∈σ.bu,tC P.az σ.sure σ.bh s.rows σ.b7 s.hd.c/\s.rows.length<=3+2*c/\s.hd.t<=σ.b7/\s.hd.v < 300
 Jk:∀ p∈σ.bV,P.az < p.1/\∀ s∈σ.bu,σ.synced<=s.e->s.rows[p.1-P.az-1]? =aa p.2
 Uc:σ.bV.length<=c
 Mm:σ.bu.length<=c+1
 new:σ.b8<=P.az+3+2*c
noncomputable def bump (r:Nat):Nat:=if r / 24 % 4=1 then 1 else if r / 24 % 4=3 then 2 else 0
noncomputable def Wd.cutAt (P:iK) (σ:Wd) (r:Nat):Nat:=σ.bh.length-r / 3 % (P.az+σ.bh.length-σ.sure+1)
noncomputable def Wd.vz (P:iK) (σ:Wd) (r:Nat):Wd:=
 if r % 3=0 then{σ with b7:=σ.b7+(1+r / 60 % 2),bh:=σ.bh.take (σ.cutAt P r)++List.replicate (1+r / 12 % 2) (σ.b7+(1+r / 60 % 2))}
 else{σ with bh:=σ.bh++List.replicate (r / 12 % 2+r % 3-1) σ.b7}
noncomputable def Wd.mj (P:iK) (σ:Wd) (r:Nat):Wd:={σ.vz P r with sure:=min (P.az+(σ.vz P r).bh.length) (σ.sure+bump r)}
noncomputable def Wd.place (P:iK) (σ:Wd) (r:Nat):Nat:=max P.az (min (P.az+σ.bh.length) (P.az+σ.now.length+r / 35 % 6 / 5)-r / 7 % 4)-P.az
noncomputable def Wd.Ei (σ:Wd) (k0 r:Nat):ah Nat:=cut σ.bh k0 (k0+(1+r / 5 % 3))
noncomputable abbrev Wd.fits (σ:Wd) (k0:Nat):Prop:=k0=0∨(k0<=σ.now.length/\σ.now[k0-1]? =σ.bh[k0-1]?)
noncomputable def Wd.wc (P:iK) (σ:Wd) (k0:Nat) (ts:ah Nat):Wd:=
 {σ with now:=Cd σ.now k0 ts,br:=(match fc σ.now k0 ts with |none=>σ.br |some k=>min σ.br k),eM:=max σ.eM (min σ.sure (P.az+k0+ts.length)),b8:=P.az+k0+ts.length}
theorem Wd.We (P:iK) (σ:Wd) (k0:Nat) (ts:ah Nat):(σ.wc P k0 ts).lg P=(σ.lg P).Sj k0 ts σ.sure:=by
 unfold Wd.wc Wd.lg Lg.Sj Cd
 dsimp only
 cases fc σ.now k0 ts<;>rfl
section
variable {P:iK}{σ:Wd}{c:Nat}
theorem Inv.bh (I:Inv P σ c) (hc:c<=10) (r:Nat):Inv P (σ.mj P r) (c+1)/\(σ.mj P r).bh.length<=3+2*(c+1)/\σ.sure<=(σ.mj P r).sure/\(σ.vz P r).bh.length=(σ.mj P r).bh.length/\σ.sure<=P.az+σ.cutAt P r/\σ.cutAt P r<=σ.bh.length:=by
 have s1:=I.s1
 have s2:=I.s2
 have ld:=I.ld
 have UD:σ.sure<=P.az+σ.cutAt P r/\σ.cutAt P r<=σ.bh.length:=by
  have:=dE (r / 3) (show 0 < P.az+σ.bh.length-σ.sure+1 by exact lT [] 0x20100040103 [P.az,σ.bh.length,σ.sure] hM 0x12304021 aQ)
  unfold Wd.cutAt;exact nk [] 0x20104030200204 [σ.sure,P.az,σ.bh.length,r / 3 % (P.az+σ.bh.length-σ.sure+1)] 0x110011000060019001100006002011000001100700190001101101100080120110000011007001900110011011000801202001 0x20400401040007 oH 0x12604301 s2 this aQ
 obtain⟨cg,J,mC⟩:=I.jn
 by_cases h3:r % 3=0
 ·have e:σ.vz P r={σ with b7:=σ.b7+(1+r / 60 % 2),bh:=σ.bh.take (σ.cutAt P r)++List.replicate (1+r / 12 % 2) (σ.b7+(1+r / 60 % 2))}:=by unfold Wd.vz;rw[a8 h3]
  unfold Wd.mj
  rw[e]
  have lP:(σ.bh.take (σ.cutAt P r)++List.replicate (1+r / 12 % 2) (σ.b7+(1+r / 60 % 2))).length=σ.cutAt P r+(1+r / 12 % 2):=by simp;exact gh [] 0x10001104 [Wd.cutAt P σ r,σ.bh.length,σ.sure,P.az] 0x110110110000070011001100000700201900110110000700190011000007002001011 0x402 0x10000003042007 UD aQ
  have Rh:σ.sure<=min (P.az+(σ.cutAt P r+(1+r / 12 % 2))) (σ.sure+bump r):=by exact gh [] 0x400049012420410410216030c1303306 [σ.sure,P.az,Wd.cutAt P σ r,r,bump r,σ.bh.length] 0x19000001106001900011001106022011 0xa0000 0x50200201040007 UD aQ
  dsimp only
  rw[lP]
  have key:∀ {rows:ah Nat}{eM:Nat},tC P.az σ.sure σ.bh rows σ.b7 eM->tC P.az (min (P.az+(σ.cutAt P r+(1+r / 12 % 2))) (σ.sure+bump r)) (σ.bh.take (σ.cutAt P r)++List.replicate (1+r / 12 % 2) (σ.b7+(1+r / 60 % 2))) rows (σ.b7+(1+r / 60 % 2)) eM:=fun S=>S.turn UD.1 UD.2 (lT [] 0x212033c1103202 [σ.b7,r] hM 0x50124004001 aQ) Rh
  refine⟨⟨by exact cw [c] bJ 0xb2120040 0xa2000 hc aQ,⟨cg,J,by exact cw [cg.length,c] bJ 0x121210441915000 0x121041915000 mC aQ⟩,by have:=I.fl;show σ.F.length<=_;exact cw [σ.F.length,c] bJ 0x121210440124f835000 0x121040124f835000 this aQ,by show(_++_:ah Nat).length<=_;rw[lP];exact nk [] 0x216030c1103206 [Wd.cutAt P σ r,r,c,σ.bh.length,σ.sure,P.az] 0x1100110001101107012021 0x122040215324901240040 0x200215324300 0x30000005044007 ld UD aQ,by have:=I.nw;show σ.now.length<=_;exact cw [σ.now.length,c] bJ rH lI this aQ,by have:=I.t1;show P.bt < σ.b7+_;exact gh [] 0x213033c1203203 [P.bt,σ.b7,r] bJ 0x60124104001 rG this aQ,by have:=I.t2;show σ.b7+(1+r / 60 % 2)<=_;exact gh [] 0x214033c1103204 [σ.b7,r,P.bt,c] 0x11001101104012 0x123040215122044701240040 0x300215122044000 this aQ,?_,by show P.az<=min _ _;exact nk [] 0x403048012410400410215030c1203305 [P.az,Wd.cutAt P σ r,r,σ.sure,bump r] eI 0x90000 rI 0x90300 s1 Rh aQ,?_,key I.safe,?_,I.Jk,by have:=I.Uc;show σ.bV.length<=_;exact cw [σ.bV.length,c] bJ pR dP this aQ,by have:=I.Mm;show σ.bu.length<=_;exact cw [σ.bu.length,c] bJ 0x12121044000 pR this aQ,by have:=I.new;show σ.b8<=_;exact cw [σ.b8,P.az,c] bJ 0x122040215321044000 0x200215321044000 this aQ⟩,by exact nk [] 0x216030c1103206 [Wd.cutAt P σ r,r,c,σ.bh.length,σ.sure,P.az] 0x1100110001101107012021 0x122040215324901240040 0x200215324300 0x30000005044007 ld UD aQ,by exact gh [] 0x400048012420410410215030c1303305 [σ.sure,P.az,Wd.cutAt P σ r,r,bump r] bJ 0x90000 0x90000 Rh aQ,rfl,UD⟩
  ·intro t ht
   rcases iS.mp ht with ht |ht
   ·have:=I.lt t (yk ht);show t<=σ.b7+_;exact gh [] 0x213033c1203203 [t,σ.b7,r] bJ 0x60124104000 dP this aQ
   ·rw[(BR.mp ht).2];exact bD _
  ·show min _ _<=P.az+(_++_:ah Nat).length
   rw[lP];exact lT [] 0x403048012410400410215030c1203305 [P.az,Wd.cutAt P σ r,r,σ.sure,bump r] 0x11011011030011001103022 0x80124104004900 aQ
  ·intro s hs
   obtain⟨g1,g2,g3,g4⟩:=I.sv s hs
   exact⟨key g1,by exact cw [s.rows.length,c] bJ rH lI g2 aQ,by show s.hd.t<=σ.b7+_;exact gh [] 0x213033c1203203 [s.hd.t,σ.b7,r] bJ 0x60124104000 dP g3 aQ,g4⟩
 ·have e:σ.vz P r={σ with bh:=σ.bh++List.replicate (r / 12 % 2+r % 3-1) σ.b7}:=by unfold Wd.vz;rw[bb h3]
  unfold Wd.mj
  rw[e]
  have lP:(σ.bh++List.replicate (r / 12 % 2+r % 3-1) σ.b7).length=σ.bh.length+(r / 12 % 2+r % 3-1):=by simp
  have Rh:σ.sure<=min (P.az+(σ.bh.length+(r / 12 % 2+r % 3-1))) (σ.sure+bump r):=by exact gh [] 0x40004b0204104112a080400313030215030c1303505 [σ.sure,P.az,σ.bh.length,r,bump r] 0x1900011040019001101104042 0xd0000 oH s2 aQ
  dsimp only
  rw[lP]
  have key:∀ {rows:ah Nat}{eM:Nat},tC P.az σ.sure σ.bh rows σ.b7 eM->tC P.az (min (P.az+(σ.bh.length+(r / 12 % 2+r % 3-1))) (σ.sure+bump r)) (σ.bh++List.replicate (r / 12 % 2+r % 3-1) σ.b7) rows σ.b7 eM:=fun S=>S.grow I.s2 _ Rh
  refine⟨⟨by exact cw [c] bJ 0xb2120040 0xa2000 hc aQ,⟨cg,J,by exact cw [cg.length,c] bJ 0x121210441915000 0x121041915000 mC aQ⟩,by have:=I.fl;show σ.F.length<=_;exact cw [σ.F.length,c] bJ 0x121210440124f835000 0x121040124f835000 this aQ,by show(_++_:ah Nat).length<=_;rw[lP];exact gh [] 0x128060400311030213030c1103403 [σ.bh.length,r,c] 0x1100000011011080019001100110011011080322212 0x122040215324900040 Il ld aQ,by have:=I.nw;show σ.now.length<=_;exact cw [σ.now.length,c] bJ rH lI this aQ,I.t1,by have:=I.t2;show σ.b7<=_;exact cw [σ.b7,P.bt,c] bJ 0x122040215121044000 0x200215121044000 this aQ,?_,by show P.az<=min _ _;exact nk [] 0x40304b0104004112a080400312030215030c1203505 [P.az,σ.bh.length,r,σ.sure,bump r] eI 0xd0000 rI 0xd0300 s1 Rh aQ,?_,key I.safe,?_,I.Jk,by have:=I.Uc;show σ.bV.length<=_;exact cw [σ.bV.length,c] bJ pR dP this aQ,by have:=I.Mm;show σ.bu.length<=_;exact cw [σ.bu.length,c] bJ 0x12121044000 pR this aQ,by have:=I.new;show σ.b8<=_;exact cw [σ.b8,P.az,c] bJ 0x122040215321044000 0x200215321044000 this aQ⟩,by exact gh [] 0x128060400311030213030c1103403 [σ.bh.length,r,c] 0x1100000011011080019001100110011011080322212 0x122040215324900040 Il ld aQ,by exact gh [] 0x40004b0204104112a080400313030215030c1303505 [σ.sure,P.az,σ.bh.length,r,bump r] bJ 0xd0000 0xd0000 Rh aQ,rfl,UD⟩
  ·intro t ht
   rcases iS.mp ht with ht |ht
   ·exact I.lt t ht
   ·rw[(BR.mp ht).2];exact bD _
  ·show min _ _<=P.az+(_++_:ah Nat).length
   rw[lP];exact lT [] 0x40304b0104004112a080400312030215030c1203505 [P.az,σ.bh.length,r,σ.sure,bump r] 0x11011011030011001103042 0xb0104004d00 aQ
  ·intro s hs
   obtain⟨g1,g2,g3,g4⟩:=I.sv s hs
   exact⟨key g1,by exact cw [s.rows.length,c] bJ rH lI g2 aQ,g3,g4⟩
theorem Inv.place (I:Inv P σ c) (r:Nat):σ.place P r<=σ.bh.length:=by unfold Wd.place;exact lT [] 0x21001002f0a00041c0307130380200044100041051703061403231303904 [P.az,σ.bh.length,σ.now.length,r] 0x11019000000080019001100000011090820110000000011090019001100110000110908272011019000000080019001100000011090820110000000011090019001100190011011011090827262011019000000080019001100000011090820110000000011090019001100110000110908272011019000000080019001100000011090820110000000011090019001100190011001109082726232 0x10410 aQ
theorem Inv.fit (I:Inv P σ c) (r:Nat) (hf:σ.fits (σ.place P r)):
  (∀ k,fc σ.now (σ.place P r) (σ.Ei (σ.place P r) r)=aa k->σ.eM<=P.az+k/\k<=σ.now.length)/\Inv P (σ.wc P (σ.place P r) (σ.Ei (σ.place P r) r)) c:=by
 have hp:=I.place r
 have hm:σ.place P r=0∨∃ t,σ.now[σ.place P r-1]? =aa t/\σ.bh[σ.place P r-1]? =aa t:=by
  rcases hf with h |⟨h1,h2⟩
  ·exact .inl h
  ·by_cases h0:σ.place P r=0
   ·exact .inl h0
   ·right
    have:=lK (l:=σ.now) (i:=σ.place P r-1) (nk [] 0x12000102 [Wd.place P σ r,σ.now.length] 0x1101100000600190000011011070020110000050031021 0x10201 dP 0x20026 h1 h0 aQ)
    exact⟨_,this,by rw[<- h2];exact this⟩
 obtain⟨g1,g2⟩:=I.safe.append I.s2 (k0:=σ.place P r) (c:=1+r / 5 % 3) hp I.lt hm
 have yE:=tc σ.bh (σ.place P r) (σ.place P r+(1+r / 5 % 3))
 have uX:=I.ld
 have hn2:=I.nw
 refine⟨g1,⟨I.cc,I.jn,I.fl,I.ld,?_,I.t1,I.t2,I.lt,I.s1,I.s2,g2,I.sv,I.Jk,I.Uc,I.Mm,?_⟩⟩
 ·show(Cd σ.now (σ.place P r) (cut σ.bh (σ.place P r) (σ.place P r+(1+r / 5 % 3)))).length<=_
  unfold Cd
  cases Jg:fc σ.now (σ.place P r) (cut σ.bh (σ.place P r) (σ.place P r+(1+r / 5 % 3))) with
  |none=>exact hn2
  |some k=>
   obtain⟨f1,f2,_⟩:=s7 Jg
   have:=(g1 k Jg).2
   simp only[bN,eW,fJ]
   exact nl5 [] 0x311113050030011243040031d03051603902003000010001807 [k,σ.now.length,(cut σ.bh (Wd.place P σ r) (Wd.place P σ r+(1+r / 5 % 3))).length,Wd.place P σ r,c,σ.bh.length,r] 0x110000110000090011019000011000000b0011000000000001100d00110019001900110011011000110110011100011011019001900110011011000110110011100726222120110000110000090011019000011000000b0011000000000001100d00110019001900110011000011011001110001101101900190011001100001101100111007262221202 0x400215324b07040 0x50300 0x51202 0x400215324500 768 0x20304001 hp yE uX f1 f2 aQ
 ·show P.az+σ.place P r+(cut σ.bh (σ.place P r) (σ.place P r+(1+r / 5 % 3))).length<=_
  exact EN [] 0xc0a011040010901241040031603051503506 [P.az,Wd.place P σ r,(cut σ.bh (Wd.place P σ r) (Wd.place P σ r+(1+r / 5 % 3))).length,c,σ.bh.length,r] 0x11000110050011001900110110011080011011019001101100110804232 0x300215320044201000440 0x40100 0xe0202 0x300215324400 hp yE uX aQ
end
noncomputable def Wd.append (P:iK) (σ:Wd) (r:Nat):Wd:=if (σ.mj P r).fits ((σ.mj P r).place P r) then(σ.mj P r).wc P ((σ.mj P r).place P r) ((σ.mj P r).Ei ((σ.mj P r).place P r) r) else σ.mj P r
theorem Inv.append {P:iK}{σ:Wd}{c:Nat} (I:Inv P σ c) (hc:c<=10) (r:Nat):Inv P (σ.append P r) (c+1):=by
 have I1:=(I.bh hc r).1
 unfold Wd.append
 split
 ·rename_i h;exact(I1.fit r h).2
 ·exact I1
noncomputable def ap (now:ah Nat) (az:Nat):Nat->ah Nat->ah Nat
 |_,[]=>[]
 |k,t::ts=>if now[k]? =aa t then ap now az (k+1) ts else(az+1+k)::ap now az (k+1) ts
theorem Nr (now:ah Nat) (az:Nat):∀ (ts:ah Nat) (k:Nat),(ap now az k ts)[0]? =(fc now k ts).map (az+1+ ·)
 |[],k=>rfl
 |t::ts,k=>by
  show(if now[k]? =aa t then ap now az (k+1) ts else(az+1+k)::ap now az (k+1) ts)[0]? =(if now[k]? =aa t then fc now (k+1) ts else aa k).map _
  by_cases h:now[k]? =aa t
  ·rw[a8 h,a8 h];exact Nr now az ts (k+1)
  ·rw[bb h,bb h];rfl
theorem FV (now:ah Nat) (az:Nat):∀ (ts:ah Nat) (k:Nat),(ap now az k ts).length<=ts.length
 |[],k=>bD 0
 |t::ts,k=>by
  show(if now[k]? =aa t then ap now az (k+1) ts else(az+1+k)::ap now az (k+1) ts).length<=ts.length+1
  by_cases h:now[k]? =aa t
  ·rw[a8 h];exact TL (FV now az ts (k+1))
  ·rw[bb h];exact eG (FV now az ts (k+1))
theorem W_ {C:CC}{L:bZ}{H:Hp}{Q:PV}{X:PX}{a b:E}{op:Co} (k:wE C a L H (fun x H1=>wE C b L H1 (fun y H2=>yb op x y H2 fun t=>Q (.bool t) H2) X) X):wE C (.cB a op b) L H Q X:=k
section
variable {n:Nat}{H:Hp}{Q:PV}{X:PX}{wa:ax}{fs:ah (Nm×V)}{P:iK}{a:Ad}{σ:Wd}
theorem Dt {i k0:Nat}{ts:ah Nat} (hk:k0+ts.length<=400):(ents i ts).length<=1000:=by rw[fh];exact aK (j_ _ k0) (aK hk (by decide))
theorem wA {L:bZ}{k0 t:Nat}{ts:ah Nat}{X:fj} (h:H wa=aa (.i_ fs)) (D:jy P fs a (σ.wc P k0 ts)) (G:wq P H a σ) (g1:L .xw=aa (.ref wa)) (g2:L .dA=aa (nv (P.az+k0))) (g3:L .bO=aa (nv t)) (g4:L .pv=aa (.bE (dk (P.az+1+k0) ts))) (g5:L .zE=aa (nv (P.az+k0+ts.length)))
  (hk:k0+ts.length<=400) (ht:∀ t∈ts,t < 2 ^ 32) (hc:∀ k,fc σ.now k0 ts=aa k->σ.eM<=P.az+k) (hm:P.az+k0<=P.az+σ.now.length/\(σ.lg P).tm (P.az+k0)=t):
  wSs (aM (n+6)) ag iX L H (fun o L1 H1=>o=.ret (.bool ag)/\jh P H1 wa fs a (σ.wc P k0 ts)) X:=by
 refine gN (W_ (bH (bp (ai g1) h D.log) G.L.lg rfl (aq (ai g2) (aq (ai g3) (aq (bp (ai g1) h D.sure) (aq (eE (aq (ai g4) aE) fun _ _ q=>o5 (es:=ents (P.az+1+k0) ts) rfl (Dt hk) q) aE)))) ?_))
 refine Nk (σ:=σ.lg P) (k0:=k0) (t:=t) (sure:=σ.sure) (ts:=ts) G.L hk ht (fun _=>hc) (fun H' hn _=>(hn hm).elim) (fun H' _ L2 k=>?_)
 rw[<- Wd.We P σ k0 ts] at L2
 obtain⟨x,y,z,uw⟩:=G.L.st
 exact(ai g5) _ _ ⟨ag,ib,rfl,k _ _ (Ao (aY h G.L.lg nofun) (aY h uw nofun) (aY h G.L.un nofun)) h,D,G.log L2 k rfl rfl rfl rfl⟩
theorem yt {L:bZ}{k0 t:Nat}{ts:ah Nat}{X:fj} (T:jh P H wa fs a σ) (g1:L .xw=aa (.ref wa)) (g2:L .dA=aa (nv (P.az+k0))) (g3:L .bO=aa (nv t)) (g4:L .pv=aa (.bE (dk (P.az+1+k0) ts))) (g5:L .zE=aa .none)
  (hk:k0+ts.length<=400) (ht:∀ t∈ts,t < 2 ^ 32) (hm:¬ (P.az+k0<=P.az+σ.now.length/\(σ.lg P).tm (P.az+k0)=t)):
  wSs (aM (n+6)) ag iX L H (fun o L1 H1=>o=.ret (.bool ag)/\jh P H1 wa fs a σ) X:=by
 have D:=T.D
 refine gN (W_ (bH (bp (ai g1) T.at_ D.log) T.G.L.lg rfl (aq (ai g2) (aq (ai g3) (aq (bp (ai g1) T.at_ D.sure) (aq (eE (aq (ai g4) aE) fun _ _ q=>o5 (es:=ents (P.az+1+k0) ts) rfl (Dt hk) q) aE)))) ?_))
 refine Nk (σ:=σ.lg P) (k0:=k0) (t:=t) (sure:=σ.sure) (ts:=ts) T.G.L hk ht (fun hy=>(hm hy).elim) (fun H' hn e=>?_) (fun H' hy _ _=>(hm hy).elim)
 subst e
 exact(ai g5) _ _ ⟨ag,rfl,rfl,T⟩
end
section
variable {C:CC}{L:bZ}{H:Hp}{e:E}{t i:Nat}
theorem zj (p:PE C L H e (kF t i).row):PE C L H (.idx e (.int 0)) (nv t):=sU (k:=0) p aH rfl (aT rfl)
theorem U8 (p:PE C L H e (kF t i).row):PE C L H (.idx e (.int 1)) (nv i):=sU (k:=1) p aH rfl (aT rfl)
theorem Ho {α:Type}{elt it cond:E}{x:Nm}{fv:ah Nm}{src:V} (f:α->V) (g:α->aC V) (xs:ah α) (p:PE C L H it src) (hs:gO H src=aa (xs.map f)) (hl:xs.length<=line) (hx:∀ a∈xs,∀ k:aC V->Hp->Prop,k (g a) H->Dx C elt ao [x] cond (L.only fv) (f a) H k):PE C L H (.comp ag elt ao [x] it cond fv) (.bE (xs.filterMap g)):=
 fun Q X q=>wR f g xs p hs hl hx ⟨aK (List.length_filterMap_le ..) hl,q⟩
end
section
variable {n:Nat}{H:Hp}{Q:PV}{X:PX}{wa:ax}{fs:ah (Nm×V)}{P:iK}{a:Ad}{σ:Wd}
theorem FU (b k:Nat):b+1+k-b-1=k:=by rw[dT,pX,pX]
theorem x3 (now:ah Nat) (az:Nat):∀ (ts:ah Nat) (k:Nat),(ents (az+1+k) ts).filterMap (fun e=>if now[e.i-az-1]? =aa e.t then au else aa (nv e.i))=(ap now az k ts).map nv
 |[],k=>rfl
 |t::ts,k=>by
  have ih:=x3 now az ts (k+1)
  have hb:(if now[(kF t (az+1+k)).i-az-1]? =aa (kF t (az+1+k)).t then au else aa (nv (kF t (az+1+k)).i))=(if now[k]? =aa t then au else aa (nv (az+1+k))):=by
   rw[show(kF t (az+1+k)).i-az-1=k from FU az k];rfl
  show List.filterMap _ (kF t (az+1+k)::ents (az+1+(k+1)) ts)=(if now[k]? =aa t then ap now az (k+1) ts else(az+1+k)::ap now az (k+1) ts).map nv
  by_cases h:now[k]? =aa t
  ·rw[a8 h] at hb ⊢
   exact(Ta (f:=fun e:En=>if now[e.i-az-1]? =aa e.t then au else aa (nv e.i)) hb).trans ih
  ·rw[bb h] at hb ⊢
   exact(NC (f:=fun e:En=>if now[e.i-az-1]? =aa e.t then au else aa (nv e.i)) hb).trans (aW (_:: ·) ih)
theorem Rv {k0 t:Nat} (h0:k0=0->t=P.bt) (h1:k0≠0->σ.bh[k0-1]? =aa t):(P.az+k0<=P.az+σ.now.length/\(σ.lg P).tm (P.az+k0)=t)↔σ.fits k0:=by
 unfold Wd.fits
 by_cases hz:k0=0
 ·subst hz
  exact⟨fun _=>.inl rfl,fun _=>⟨ft ..,(a8 rfl).trans (h0 rfl).symm⟩⟩
 ·have:=Eb (σ.lg P) (k0-1) t
  rw[show(σ.lg P).az+1+(k0-1)=P.az+k0 by show P.az+1+(k0-1)=_;exact gh [] 0x12100102 [P.az,k0] 0x110011000060011000000600210110190000060011011000006000102011 0x10004201200442 0x21026 hz aQ] at this
  refine this.trans ?_
  rw[h1 hz]
  exact⟨fun h=>.inr ⟨Nat.le_of_pred_lt (lX h),h⟩,fun h=>h.resolve_left hz |>.2⟩
theorem Sh {L:bZ}{k0 t:Nat}{C:CC} (g2:L .dA=aa (nv (P.az+k0))) (g3:L .bO=aa (nv t))
  (g5:L .mz=aa (nv (P.az+σ.now.length))) (g6:L .cx=aa (nv P.az)) (g7:L .iq=aa (.bE (dk (P.az+1) σ.now))) (mC:(dk (P.az+1) σ.now).length<=line) (h1:k0≠0->σ.bh[k0-1]? =aa t):
  ∃ v,PE C L H (.b6 ag (.cons (.cB (.aB .dA) .le (.aB .mz)) (.cons (.b6 ao (.cons (.cB (.aB .dA) .eq (.aB .cx)) (.cons (.cB (.idx (.idx (.aB .iq) (.bR .sub (.bR .sub (.aB .dA) (.aB .cx)) (.int 1))) (.int 0)) .eq (.aB .bO)) .nil))) .nil))) v/\truth H v=aa (decide (σ.fits k0)):=by
 by_cases c1:k0<=σ.now.length
 ·by_cases hz:k0=0
  ·exact⟨_,a9 (dK (kJ (ai g2) (ai g5)) (dD (dW c1 _)) (cP (a9 (m_ (fE (ai g2) (ai g6)) (dD (by rw[hz];rfl)))))),(dD (by rw[hz];rfl)).trans (aW aa (c9 (show σ.fits k0 from .inl hz)).symm)⟩
  ·obtain⟨u,hu⟩:∃ u,σ.now[k0-1]? =aa u:=⟨_,lK (ma (FY (Gu hz) Nat.one_pos) c1)⟩
   have Dq:¬ P.az+k0=P.az:=fun e=>hz (Gz (e.trans (sr _).symm))
   refine⟨_,a9 (dK (kJ (ai g2) (ai g5)) (dD (dW c1 _)) (cP (a9 (dK (fE (ai g2) (ai g6)) (cb Dq) (cP (fE (zj (gG (k:=k0-1) (ai g7) (cX (c6 (j:=1) (c6 (ai g2) (ai g6) (ft ..)) aH (by rw[pX];exact Gu hz)) (by rw[pX])) (pC hu) mC)) (ai g3))))))),aW aa (kW.mpr ?_)⟩
   refine⟨fun e=>.inr ⟨c1,by rw[hu,h1 hz,e]⟩,fun e=>?_⟩
   have:=(e.resolve_left hz).2
   rw[hu,h1 hz] at this
   exact eH this
 ·have hnf:¬ σ.fits k0:=fun h=>h.elim (fun e=>c1 (by rw[e];exact bX _)) fun e=>c1 e.1
  exact⟨_,a9 (jl (kJ (ai g2) (ai g5)) (cb fun h=>c1 (DS h))),(cb fun h=>c1 (DS h)).trans (aW aa (dU hnf).symm)⟩
theorem O9 {L:bZ}{k0:Nat}{ts:ah Nat}{C:CC} (g4:L .pv=aa (.bE (dk (P.az+1+k0) ts)))
  (g5:L .mz=aa (nv (P.az+σ.now.length))) (g6:L .cx=aa (nv P.az)) (g7:L .iq=aa (.bE (dk (P.az+1) σ.now))) (mC:(dk (P.az+1) σ.now).length<=line) (yE:ts.length<=line):
  PE C L H (.comp ag (.idx (.aB .mV) (.int 1)) ao [.mV] (.aB .pv) (.b6 ao (.cons (.cB (.idx (.aB .mV) (.int 1)) .gt (.aB .mz)) (.cons (.cB (.idx (.aB .iq) (.bR .sub (.bR .sub (.idx (.aB .mV) (.int 1)) (.aB .cx)) (.int 1))) .ne (.aB .mV)) .nil))) [.mz,.iq,.cx]) (.bE ((ap σ.now P.az k0 ts).map nv)):=by
 refine iV (Ho En.row (fun e=>if σ.now[e.i-P.az-1]? =aa e.t then au else aa (nv e.i)) (ents (P.az+1+k0) ts) (ai g4) rfl (by rw[fh];exact yE) fun x hx k hk=>?_) (x3 ..)
 obtain⟨j,hj⟩:=XG hx
 rw[rD] at hj
 obtain⟨u,hu,rfl⟩:=yl.mp hj
 rw[show(kF u (P.az+1+k0+j)).i-P.az-1=k0+j from(aW (· -P.az-1) (dT ..)).trans (FU P.az (k0+j))] at hk
 have r1:∀ {L:bZ},PE C (L.set .mV (kF u (P.az+1+k0+j)).row) H (.idx (.aB .mV) (.int 1)) (nv (P.az+1+k0+j)):=U8 (ai rfl)
 by_cases Xf:σ.now.length<=k0+j
 ·rw[By Xf,bb nofun] at hk
  have:P.az+σ.now.length < P.az+1+k0+j:=by exact cw [P.az,σ.now.length,k0,j] bJ 0x30201200444100041 0x30204100 Xf aQ
  exact RJ rfl (a9 (m_ (fk r1 (ai g5)) (dD this))) (dD this) r1 hk
 ·obtain⟨w,hw⟩:∃ w,σ.now[k0+j]? =aa w:=⟨_,lK (Gp Xf)⟩
  rw[hw] at hk
  have hg:=pC (i:=P.az+1) hw
  rw[<- dT] at hg
  refine RJ rfl (a9 (dK (fk r1 (ai g5)) (cb (cw [P.az,σ.now.length,k0,j] vN 0x302012004441000416 0x302041006 Xf aQ)) (cP (iH (gG (ai g7) (cX (c6 (j:=1) (c6 r1 (ai g6) (lE [P.az,k0,j] hM 0x20101200444000 aQ)) aH (lT [] 0x201012004440103 [P.az,k0,j] 0x110020011001103002 0x30120 aQ)) (lT [] 0x1230000201012004440203 [P.az,k0,j] 0x1100030011011000050019001900110060120201100030011011001100500110011001100601202001 0x20104502 aQ)) hg mC) (ai rfl) (Qm 4 w u _))))) rfl r1 ?_
  have hk:k (if aa w=aa u then au else aa (nv (P.az+1+k0+j))) H:=hk
  by_cases W':w=u
  ·rw[a8 (aW aa W')] at hk
   rw[c9 W'];exact hk
  ·rw[bb fun q=>W' (eH q)] at hk
   rw[dU W'];exact hk
theorem D8 {L:bZ}{k0 t:Nat}{ts:ah Nat}{X:fj} (T:jh P H wa fs a σ) (g1:L .xw=aa (.ref wa)) (g2:L .dA=aa (nv (P.az+k0))) (g3:L .bO=aa (nv t)) (g4:L .pv=aa (.bE (dk (P.az+1+k0) ts)))
  (g5:L .mz=aa (nv (P.az+σ.now.length))) (g6:L .cx=aa (nv P.az)) (g7:L .iq=aa (.bE (dk (P.az+1) σ.now))) (g8:L .fY=aa (nv (P.az+k0+ts.length)))
  (hk:k0+ts.length<=400) (ht:∀ t∈ts,t < 2 ^ 32) (hb:P.az<=100000) (hf:σ.fits k0->∀ k,fc σ.now k0 ts=aa k->σ.eM<=P.az+k) (h0:k0=0->t=P.bt) (h1:k0≠0->σ.bh[k0-1]? =aa t):
  wSs (aM (n+6)) ag kQ L H (fun o L1 H1=>o=.ret (.bool ag)/\∃ fs',jh P H1 wa fs' a (if σ.fits k0 then σ.wc P k0 ts else σ)) X:=by
 have D:=T.D
 have h:=T.at_
 have mC:=aK T.nl (show 400<=line by decide)
 have htl:ts.length<=400:=aK (j_ ..) hk
 have yE:(dk (P.az+1+k0) ts).length<=400:=by rw[dJ];exact htl
 have Zc:=Rv (P:=P) (σ:=σ) h0 h1
 obtain⟨v,hv,hvt⟩:=Sh (H:=H) (C:=aM (n+6)) (L:=L.set .zE .none) g2 g3 g5 g6 g7 mC h1
 refine aR iP (He hv hvt (fun hF=>?_) (fun hF=>?_))
 case refine_2=>
  have hF:=Gw hF
  rw[bb hF]
  refine bG (bC (dH (dj _) _ ?_ (fun _ _ _ h=>h) (yt T g1 g2 g3 g4 rfl hk ht fun q=>hF (Zc.mp q))))
  rintro o L1 H1 ⟨e,T1⟩
  exact⟨e,_,T1⟩
 have hF:=ij hF
 rw[a8 hF]
 have hk0:k0<=σ.now.length:=DS (Zc.mpr hF).1
 have fin:∀ {L' fs'},L' .xw=L .xw->L' .dA=L .dA->L' .bO=L .bO->L' .pv=L .pv->L' .zE=aa (nv (P.az+k0+ts.length))->jy P fs' a (σ.wc P k0 ts)->
   wSs (aM (n+6)) ag iX L' (H.set wa (.i_ fs')) (fun o L1 H1=>o=.ret (.bool ag)/\∃ fs',jh P H1 wa fs' a (σ.wc P k0 ts)) X:=by
  intro L' fs' e1 e2 e3 e4 e5 D'
  refine dH (dj _) _ ?_ (fun _ _ _ h=>h) (wA aN D' (T.G.ZQ T) (e1.trans g1) (e2.trans g2) (e3.trans g3) (e4.trans g4) e5 hk ht (hf hF) (Zc.mpr hF))
  rintro o L1 H1 ⟨e,T1⟩
  exact⟨e,_,T1⟩
 have EZ:=Nr σ.now P.az ts k0
 have aec:((ap σ.now P.az k0 ts).map nv).length<=line:=by rw[cF];exact aK (FV σ.now P.az ts k0) (aK htl (by decide))
 refine aR (ai g8) (aR (O9 g4 g5 g6 g7 mC (aK htl (by decide))) ?_)
 cases Jg:fc σ.now k0 ts with
 |none=>
  rw[Jg] at EZ
  have HU:ap σ.now P.az k0 ts=[]:=by
   cases e:ap σ.now P.az k0 ts with
   |nil=>rfl
   |cons x xs=>rw[e] at EZ;contradiction
  have e:σ.wc P k0 ts={σ with eM:=max σ.eM (min σ.sure (P.az+k0+ts.length)),b8:=P.az+k0+ts.length}:=by unfold Wd.wc Cd;rw[Jg]
  refine bK (iH (ai rfl) (cG aE (bX _)) (rh 5 _)) (mY (by rw[HU];rfl)) ?_
  refine iN (vq (bp (ai g1) h D.eM) (ow (bp (ai g1) h D.sure) (ai g8))) (ai g1) h D.lU (gg (ai g8) (ai g1) D.Hf.lU (bG (bC (fin rfl rfl rfl rfl rfl ?_))))
  rw[e];exact D.Hf.zT
 |some k=>
  rw[Jg] at EZ
  obtain⟨f1,f2,_⟩:=s7 Jg
  have Dq:¬ (ap σ.now P.az k0 ts).map nv=[]:=fun q=>by
   rw[T6.mp q] at EZ;contradiction
  have hg0:((ap σ.now P.az k0 ts).map nv)[0]? =aa (nv (P.az+1+k)):=by rw[BP,EZ];rfl
  have Y_:=Xp Jg hk0
  have Rm:(dk (P.az+1) σ.now).take k++(dk (P.az+1+k0) ts).drop (k-k0)=dk (P.az+1) (σ.now.take k++ts.drop (k-k0)):=by
   rw[C7,Du,zW,eW,dM Y_,dT (P.az+1),gZ f1]
  have e:σ.wc P k0 ts={σ with now:=σ.now.take k++ts.drop (k-k0),br:=min σ.br k,eM:=max σ.eM (min σ.sure (P.az+k0+ts.length)),b8:=P.az+k0+ts.length}:=by unfold Wd.wc Cd;rw[Jg]
  have a0:∀ {L H},L .mW=aa (.bE ((ap σ.now P.az k0 ts).map nv))->PE (aM (n+6)) L H (.idx (.aB .mW) (.int 0)) (nv (P.az+1+k)):=fun h=>gG (k:=0) (ai h) aH hg0 aec
  have a1:∀ {L H},L .mW=aa (.bE ((ap σ.now P.az k0 ts).map nv))->L .cx=aa (nv P.az)->PE (aM (n+6)) L H (.bR .sub (.bR .sub (.idx (.aB .mW) (.int 0)) (.aB .cx)) (.int 1)) (nv k):=fun h h2=>cX (c6 (j:=1) (c6 (a0 h) (ai h2) (lE [P.az,k] hM 0x10120044000 aQ)) aH (lT [] 0x101200440102 [P.az,k] 0x110020011001103002 0x20120 aQ)) (FU P.az k)
  have a2:∀ {L H},L .mW=aa (.bE ((ap σ.now P.az k0 ts).map nv))->L .dA=aa (nv (P.az+k0))->PE (aM (n+6)) L H (.bR .sub (.bR .sub (.idx (.aB .mW) (.int 0)) (.aB .dA)) (.int 1)) (nv (k-k0)):=fun h h2=>cX (c6 (j:=1) (c6 (a0 h) (ai h2) (cw [P.az,k0,k] bJ 0x20120044100040 0x20100 f1 aQ)) aH (gh [] 0x20004101200440103 [P.az,k,k0] 0x110110030011001101104002 0x30120 lJ f1 aQ)) (lT [] 0x201001230020004101200440303 [P.az,k,k0] 0x11000011006001900110011006012011000011006001101900190011007001100190019001100802212020110000110060011001100050220110000001100800190001101100110080220110000001100800190011001100110080221202001 0x70502 aQ)
  refine c5 (iH (ai rfl) (cG aE (bX _)) (rh 5 _)) (xO Dq) ?_
  refine iN (iV (oA (Em (ai g7) (a1 rfl g6) (by rw[dJ];exact Y_) mC) (zh (ai g4) (a2 rfl g2) (by rw[dJ];exact gh [] AQ [k,k0,ts.length] 0x1100011040019001101104002 tM mm f2 aQ) (aK yE (by decide))) ?_) Rm) (ai g1) h D.lU ?_
  ·rw[eW,fJ];exact aK (fS (aK (je ..) T.nl) (aK (jc ..) yE)) (by decide)
  have D1:=D.WV (ts:=σ.now.take k++ts.drop (k-k0))
  refine gg (ow (bp (ai g1) aN D1.br) (a1 rfl g6)) (ai g1) D1.lU (bG (bC ?_))
  have D2:=D1.JI (i:=min σ.br k)
  refine gg (vq (bp (ai g1) aN D2.eM) (ow (bp (ai g1) aN D2.sure) (ai g8))) (ai g1) D2.lU (gg (ai g8) (ai g1) D2.Hf.lU (bG (bC (fin rfl rfl rfl rfl rfl ?_))))
  rw[e];exact D2.Hf.zT
end
section
variable {C:CC}{L:bZ}{H:Hp}{e c d:E}{k j m:Nat}
theorem fg (p:PE C L H e (.int k)) (q:PE C L H c (.int j)) (h1:0 < j) (h2:j < 1073741824):PE C L H (.bR .fdiv e c) (.int (k / j:Nat)):=eV (ME p q (Gi.mpr h1) (sA.mpr h2)) rfl
theorem ej (p:PE C L H e (.int k)) (q:PE C L H c (.int j)) (h1:0 < j):PE C L H (.bR .mod e c) (.int (k % j:Nat)):=eV (rj p q (Gi.mpr h1)) rfl
theorem QX (b m c:Nat):max (b:Int) ((m:Int)-c)=((max b (m-c):Nat):Int):=by
 rcases BH c m with h |h
 ·rw[<- LI h,X4]
 ·rw[Nz h,xl (bX _)]
  exact Ts (Int.le_trans (Int.sub_nonpos_of_le (uO.mpr h)) (gw _))
theorem U_ (p:PE C L H e (.int k)) (q:PE C L H c (.int j)) (r:PE C L H d (.int m)):PE C L H (.bc .max (.cons e (.cons (.bR .sub c d) .nil))) (.int (max k (j-m):Nat)):=eV (Qp p (jb q r)) (QX ..)
theorem DH {n d q:Nat} (hq:q<=2 ^ 62) (hn:n<=line):bound n d (.int q)=aa (min q n):=by
 rcases BH q n with h |h
 ·rw[dM h];exact gV rfl h hn
 ·rw[qz h]
  show Bc n q=_
  unfold Bc
  rw[a8 (by exact cw [q] 0x11011003001100030001 RO 0x400000000000000083000 hq aQ),clipAt_nat,qz h]
theorem Ii {α:Type} (xs:ah α) (k q:Nat):cut xs k (min q xs.length)=cut xs k q:=by
 rcases BH q xs.length with h |h
 ·rw[dM h]
 ·rw[qz h,M9 _ (bD _),M9 _ h]
theorem U5 {lo hi:E}{xs:ah V} (p:PE C L H e (.bE xs)) (g:PE C L H lo (.int k)) (h:PE C L H hi (.int j)) (hp:k<=xs.length) (hq:j<=2 ^ 62) (hl:xs.length<=line):PE C L H (.slice ag e lo hi) (.bE (cut xs k j)):=fun Q X z=>p _ _ (g _ _ (h _ _
 ⟨k,min j xs.length,hl,gV rfl hp hl,DH hq hl,aK (gm _ _ _) hl,by rw[Ii];exact z⟩))
end
section
variable {n:Nat}{H:Hp}{Q:PV}{X:PX}{wa:ax}{fs:ah (Nm×V)}{P:iK}{a:Ad}{σ:Wd}
theorem wq.same {τ:Wd} (G:wq P H a σ) (e1:τ.F=σ.F) (e2:τ.aX=σ.aX) (e3:τ.bV=σ.bV) (e4:τ.bu=σ.bu) (e5:τ.lg P=σ.lg P):wq P H a τ:=
 ⟨by rw[e1];exact G.J,by rw[e2];exact G.E,by rw[e3];exact G.A,by rw[e4];exact G.S,by rw[e5];exact G.L,G.d1,G.d2,G.d3,G.d4,G.d5,G.d6⟩
noncomputable def Wd.rest (P:iK) (σ:Wd) (r:Nat):Wd:=if σ.fits (σ.place P r) then σ.wc P (σ.place P r) (σ.Ei (σ.place P r) r) else σ
theorem Inv.ld9 {c:Nat} (I:Inv P σ c):σ.bh.length<=25:=by have:=I.ld;have:=I.cc;exact fu [σ.bh.length,c] 0x21011011030 0x1913000 lI 0xb2100 (by assumption) this aQ
theorem Inv.Uz {c:Nat} (hP:P.Ok) (I:Inv P σ c){t:Nat} (h:t<=σ.b7):t < 2 ^ 32:=by have:=I.t2;have:=I.cc;have:=hP.t2;exact YO [t,σ.b7,P.bt,c] 0x11021011011011050 oa dP 0x300215122044100 0xb2300 0xc35023200 h (by assumption) (by assumption) this aQ
theorem GS {L:bZ}{r c:Nat}{X:fj} (hP:P.Ok) (T:jh P H wa fs a σ) (I:Inv P σ c) (g1:L .xw=aa (.ref wa)) (g2:L .xr=aa (nv r)) (g3:L .cx=aa (nv P.az)) (g4:L .ji=aa (.bE (dk (P.az+1) σ.bh))) (g5:L .xlast=aa (nv (P.az+σ.bh.length))):
  wSs (aM (n+6)) ag qL L H (fun o L1 H1=>o=.ret (.bool ag)/\∃ fs',jh P H1 wa fs' a (σ.rest P r)) X:=by
 have D:=T.D
 have h:=T.at_
 have Pm:=I.ld9
 have Pl:=I.place r
 have lP:(dk (P.az+1) σ.bh).length<=25:=by rw[dJ];exact Pm
 have uX:=aK lP (show 25<=line by decide)
 have MS:=aK T.nl (show 400<=line by decide)
 have hpd:max P.az (min (P.az+σ.bh.length) (P.az+σ.now.length+r / 35 % 6 / 5)-r / 7 % 4)=P.az+σ.place P r:=(gZ (Tp ..)).symm
 have hm3:r / 5 % 3 < 3:=dE _ (by decide)
 have OE:cut (dk (P.az+1) σ.bh) (σ.place P r) (σ.place P r+(1+r / 5 % 3))=dk (P.az+1+σ.place P r) (σ.Ei (σ.place P r) r):=Ih ..
 have yE:(σ.Ei (σ.place P r) r).length<=25:=aK (gm ..) Pm
 have lW:∀ t∈σ.Ei (σ.place P r) r,t < 2 ^ 32:=fun t ht=>I.Uz hP (I.lt t (M8 ht))
 have hsb:∀ {k L H},L .cx=aa (nv P.az)->L .dA=aa (nv (P.az+k))->PE (aM (n+6)) L H (.bR .sub (.aB .dA) (.aB .cx)) (nv k):=fun h1 h2=>cX (c6 (ai h2) (ai h1) (ft ..)) (pX ..)
 have key:∀ {L':bZ}{t:Nat},L' .xw=aa (.ref wa)->L' .dA=aa (nv (P.az+σ.place P r))->L' .bO=aa (nv t)->L' .pv=aa (.bE (dk (P.az+1+σ.place P r) (σ.Ei (σ.place P r) r)))->L' .mz=aa (nv (P.az+σ.now.length))->L' .cx=aa (nv P.az)->L' .iq=aa (.bE (dk (P.az+1) σ.now))->L' .fY=aa (nv (P.az+σ.place P r+(σ.Ei (σ.place P r) r).length))->(σ.place P r=0->t=P.bt)->(σ.place P r≠0->σ.bh[σ.place P r-1]? =aa t)->
   wSs (aM (n+6)) ag kQ L' H (fun o L1 H1=>o=.ret (.bool ag)/\∃ fs',jh P H1 wa fs' a (σ.rest P r)) X:=fun k1 k2 k3 k4 k5 k6 k7 k8 k9 k10=>
  D8 T k1 k2 k3 k4 k5 k6 k7 k8 (aK (fS (aK Pl Pm) yE) (by decide)) lW (aK hP.b2 (by decide)) (fun hf k hk=>((I.fit r hf).1 k hk).1) k9 k10
 refine aR (bp (ai g1) h D.now) (aR (cS (ai g3) (cX (eX (ai rfl) MS) (dJ ..))) ?_)
 refine aR (cX (U_ (ai g3) (ow (ai g5) (cS (ai rfl) (fg (j:=5) (ej (j:=6) (fg (j:=35) (ai g2) aH (by decide) (by decide)) aH (by decide)) aH (by decide) (by decide)))) (ej (j:=4) (fg (j:=7) (ai g2) aH (by decide) (by decide)) aH (by decide))) hpd) ?_
 generalize σ.place P r=pl at*
 refine aR (iV (U5 (ai g4) (hsb g3 rfl) (cX (cS (dO (hsb g3 rfl)) (ej (j:=3) (fg (j:=5) (ai g2) aH (by decide) (by decide)) aH (by decide))) (dT ..)) (by rw[dJ];exact Pl) (EN [] 0x31303051103203 [pl,r,σ.bh.length] x6 0x400000000000000083601240040 0x1913200 0x32601 pO Pm hm3 Pl aQ) uX) OE) ?_
 refine aR (cS (ai rfl) (cX (eX (ai rfl) (by rw[dJ];exact aK yE (by decide))) (dJ ..))) (aR (bp (ai g1) h D.bt) ?_)
 by_cases hz:pl=0
 ·exact bK (fk (ai rfl) (ai g3)) (cb (by rw[hz];exact sD _)) (key g1 rfl rfl rfl rfl g3 rfl rfl (fun _=>rfl) (fun q=>(q hz).elim))
 ·have yG:=Gu hz
  obtain⟨u,hu⟩:∃ u,σ.bh[pl-1]? =aa u:=⟨_,lK (ma (FY yG Nat.one_pos) Pl)⟩
  exact c5 (fk (ai rfl) (ai g3)) (dD (NB yG)) (aR (zj (gG (k:=pl-1) (ai g4) (c6 (j:=1) (hsb g3 rfl) aH yG) (pC hu) uX)) (bG (bC (key g1 rfl rfl rfl rfl g3 rfl rfl (fun q=>(hz q).elim) (fun _=>hu)))))
theorem RY (m:Nat) (h:m < 4):([.int 0,.int 1,.int 0,.int 2]:ah V)[m]? =aa (nv (if m=1 then 1 else if m=3 then 2 else 0)):=by
 match m,h with
 | 0,_=>rfl
 | 1,_=>rfl
 | 2,_=>rfl
 | 3,_=>rfl
theorem xM {L:bZ}{r c:Nat}{X:fj}{bh:ah Nat} (hP:P.Ok) (T:jh P H wa fs a σ) (hl:bh.length<=300) (hs:σ.sure<=200000)
  (I:Inv P {σ with bh:=bh,sure:=min (P.az+bh.length) (σ.sure+bump r)} c) (g1:L .xw=aa (.ref wa)) (g2:L .xr=aa (nv r)) (g3:L .cx=aa (nv P.az)) (g4:L .ji=aa (.bE (dk (P.az+1) bh))):
  wSs (aM (n+6)) ag qM L H (fun o L1 H1=>o=.ret (.bool ag)/\∃ fs',jh P H1 wa fs' a (Wd.rest P {σ with bh:=bh,sure:=min (P.az+bh.length) (σ.sure+bump r)} r)) X:=by
 have D:=T.D
 have lP:(dk (P.az+1) bh).length<=line:=by rw[dJ];exact aK hl (by decide)
 have D1:=D.P_ (ts:=bh)
 have abU:∀ {L H},L .xr=aa (nv r)->PE (aM (n+6)) L H (.idx (.list ag (.cons (.int 0) (.cons (.int 1) (.cons (.int 0) (.cons (.int 2) .nil))))) (.bR .mod (.bR .fdiv (.aB .xr) (.int 24)) (.int 4))) (nv (bump r)):=fun h=>gG (cG (aq aH (aq aH (aq aH (aq aH aE)))) (aT rfl)) (ej (j:=4) (fg (j:=24) (ai h) aH (by decide) (by decide)) aH (by decide)) (RY _ (dE _ (by decide))) (aT rfl)
 refine iN (ai g4) (ai g1) T.at_ D.lU (aR (cS (ai g3) (cX (eX (ai g4) lP) (dJ ..))) ?_)
 refine gg (ow (ai rfl) (cS (bp (ai g1) aN D1.sure) (abU g2))) (ai g1) D1.lU ?_
 exact GS hP ⟨aN,D1.Yv,wq.same (σ:=σ) (T.G.ZQ T) rfl rfl rfl rfl rfl⟩ I g1 g2 g3 g4 rfl
theorem Fq {r c:Nat} (hP:P.Ok) (T:jh P H wa fs a σ) (I:Inv P σ c) (hc:c<=10) (q:∀ H' fs',jh P H' wa fs' a (σ.append P r)->Q (.bool ag) H'):aM (n+7) .nt [.ref wa,nv r] H Q X:=by
 have D:=T.D
 have h:=T.at_
 obtain⟨I1,j1,j2,j3,j4,j5⟩:=I.bh hc r
 have Pm:=I.ld9
 have AD:=hP.b2
 have s1:=I.s1
 have s2:=I.s2
 have mC:(dk (P.az+1) σ.bh).length<=25:=by rw[dJ];exact Pm
 have abF:=aK mC (show 25<=line by decide)
 have Rh:σ.sure<=200000:=aK s2 (aK (fS AD Pm) (by decide))
 have Dp:∀ {L:bZ}{H1:Hp},(∃ fs',jh P H1 wa fs' a (Wd.rest P (σ.mj P r) r))->Q (.bool ag) H1:=fun⟨fs',T'⟩=>q _ fs' T'
 have hlen:(ents (P.az+1) σ.bh).length<=25:=by rw[fh];exact Pm
 refine bA rfl (aR (bp (ai rfl) h D.az) (aR (bp (ai rfl) h D.bh) (aR (cS (ai rfl) (cX (eX (ai rfl) abF) (dJ ..))) ?_)))
 by_cases h3:r % 3=0
 ·have e0:σ.vz P r={σ with b7:=σ.b7+(1+r / 60 % 2),bh:=σ.bh.take (σ.cutAt P r)++List.replicate (1+r / 12 % 2) (σ.b7+(1+r / 60 % 2))}:=a8 h3
  rw[Wd.mj,e0] at I1 Dp
  have Rj:r / 3 % (P.az+σ.bh.length-σ.sure+1) < P.az+σ.bh.length-σ.sure+1:=dE _ (sx _)
  have Zj:P.az+σ.bh.length-r / 3 % (P.az+σ.bh.length-σ.sure+1)=P.az+σ.cutAt P r:=by
   show _=P.az+(σ.bh.length-r / 3 % (P.az+σ.bh.length-σ.sure+1))
   exact nl4 [] 0x301000402010020100040305 [P.az,σ.bh.length,r / 3 % (P.az+σ.bh.length-σ.sure+1),σ.sure,Wd.cutAt P σ r] 0x1100110000008001101900110000009001100190011000000a012020110000001101100900190001100110110000a02201101900110000009001100190011000000a00212001 0x70004502 0x40004300 0x10400 rI 0x12904201 j4 j5 s1 Rj aQ
  have Xd:r / 12 % 2 < 2:=dE _ (by decide)
  have Y2:σ.b7+(1+r / 60 % 2) < 2 ^ 32:=by have:=I.Uz hP (bD _);have:=I.t2;have:=I.cc;have:=hP.t2;exact EN [] 0x214033c1103204 [σ.b7,r,c,P.bt] 0x11001101102101106012 0x10000000053701240041 0xa2200 0x200215123044000 0xc35023300 hc (by assumption) this aQ
  have D1:=D.Yu (i:=σ.b7+(1+r / 60 % 2))
  refine c5 (fE (ej (j:=3) (ai rfl) aH (by decide)) aH) (dD h3) ?_
  refine aR (cX (c6 (ai rfl) (ej (fg (j:=3) (ai rfl) aH (by decide) (by decide)) (dO (c6 (ai rfl) (bp (ai rfl) h D.sure) s2)) (sx _)) (gh [] 0x30201040104 [r / 3 % (P.az+σ.bh.length-σ.sure+1),P.az,σ.bh.length,σ.sure] 0x110011011040019001101104002 oH 0x12404001 Rj aQ)) Zj) ?_
  refine Oc (ai rfl) h D.b7 (cS (k:=1) aH (ej (j:=2) (fg (j:=60) (ai rfl) aH (by decide) (by decide)) aH (by decide))) D.lU ?_
  have Rm:(dk (P.az+1) σ.bh).take (σ.cutAt P r)++(ents (P.az+1+σ.cutAt P r) (List.replicate (1+r / 12 % 2) (σ.b7+(1+r / 60 % 2)))).map En.row=dk (P.az+1) (σ.bh.take (σ.cutAt P r)++List.replicate (1+r / 12 % 2) (σ.b7+(1+r / 60 % 2))):=by
   rw[C7,zW,eW,dM j5];rfl
  have lP:((ents (P.az+1+σ.cutAt P r) (List.replicate (1+r / 12 % 2) (σ.b7+(1+r / 60 % 2)))).map En.row).length<=2:=by rw[cF,fh,nN];exact lT [] 0x211030c1003201 [r] DA 0x22401240 aQ
  have hk:∀ {L:bZ},L .xw=aa (.ref wa)->PE (aM (n+6)) L (H.set wa (.i_ (cL fs .bO (nv (σ.b7+(1+r / 60 % 2)))))) (.key (.aB .xw) .bO) (nv (σ.b7+(1+r / 60 % 2))):=fun h=>bp (ai h) aN ir
  refine aR (iV (oA (Em (k:=σ.cutAt P r) (ai rfl) (cX (c6 (ai rfl) (ai rfl) (ft ..)) (pX ..)) (by rw[dJ];exact j5) abF) (eE (aq (hk rfl) (aq (cX (i:=P.az+1+σ.cutAt P r) (dO (ai rfl)) (iE ..)) (aq (cS (k:=1) aH (ej (j:=2) (fg (j:=12) (ai rfl) aH (by decide) (by decide)) aH (by decide))) aE))) fun _ _ q=>uF Y2 (GK [P.az,Wd.cutAt P σ r,σ.bh.length] x6 0x10000000053101200441 0x20100 0x1913200 vL j5 Pm AD aQ) (lT [] 0x211030c1003201 [r] DA 0x3e823401240 aQ) q) ?_) Rm) (bG (bC ?_))
  ·exact aK (fS (aK (by rw[eW];exact je ..) mC) lP) (by decide)
  refine dH (dj _) _ ?_ (fun _ _ _ h=>h) (xM hP ⟨aN,D1,wq.same (σ:=σ) (T.G.ZQ T) rfl rfl rfl rfl rfl⟩ ?_ Rh I1 rfl rfl rfl rfl)
  ·rintro o L1 H1 ⟨rfl,hT⟩
   exact Dp (L:=L1) hT
  ·rw[bN,eW,nN]
   exact aK (fS (aK (je ..) Pm) (dW (fH Xd) 1)) (by decide)
 ·have e0:σ.vz P r={σ with bh:=σ.bh++List.replicate (r / 12 % 2+r % 3-1) σ.b7}:=bb h3
  rw[Wd.mj,e0] at I1 Dp
  have Xd:r / 12 % 2 < 2:=dE _ (by decide)
  have hm3:r % 3 < 3:=dE _ (by decide)
  have hc3:r / 12 % 2+r % 3-1<=2:=by exact lT [] 0x126040400310030211030c1003401 [r] 0x1100000011070019001100110011070322212 0x22700 aQ
  refine mh (fE (ej (j:=3) (ai rfl) aH (by decide)) aH) (cb h3) ?_
  have Rm:dk (P.az+1) σ.bh++(ents (P.az+1+σ.bh.length) (List.replicate (r / 12 % 2+r % 3-1) σ.b7)).map En.row=dk (P.az+1) (σ.bh++List.replicate (r / 12 % 2+r % 3-1) σ.b7):=(zW ..).symm
  have lP:((ents (P.az+1+σ.bh.length) (List.replicate (r / 12 % 2+r % 3-1) σ.b7)).map En.row).length<=2:=by rw[cF,fh,nN];exact hc3
  refine aR (iV (oA (ai rfl) (eE (aq (bp (ai rfl) h D.b7) (aq (cX (i:=P.az+1+σ.bh.length) (dO (ai rfl)) (iE ..)) (aq (c6 (j:=1) (cS (ej (j:=2) (fg (j:=12) (ai rfl) aH (by decide) (by decide)) aH (by decide)) (ej (j:=3) (ai rfl) aH (by decide))) aH (gh [] 0x310030211030c1003301 [r] 0x1100011040011000040021011 0x60404120 0x26026 h3 aQ)) aE))) fun _ _ q=>uF (I.Uz hP (bD _)) (fu [P.az,σ.bh.length] eI 0x10000000053101200441 0x1913100 vL Pm AD aQ) (aK hc3 (by decide)) q) (aK (fS mC lP) (by decide))) Rm) (bG (bC ?_))
  refine dH (dj _) _ ?_ (fun _ _ _ h=>h) (xM hP T ?_ Rh I1 rfl rfl rfl rfl)
  ·rintro o L1 H1 ⟨rfl,hT⟩
   exact Dp (L:=L1) hT
  ·rw[bN,nN]
   exact aK (fS Pm hc3) (by decide)
end
noncomputable def tB (P:iK) (now:ah Nat) (l:ah (Nat×Nat)):ah (Nat×Nat):=l.filter fun p=>decide (now[p.1-P.az-1]? =aa p.2)
noncomputable def Wd.saved (P:iK) (σ:Wd) (F:ah aA) (aX:ah Nat) (hd:Hd):Wd:=
 {σ with F:=F,aX:=aX,bu:=σ.bu++[⟨F.length,σ.now,hd⟩],gK:=σ.now,br:=σ.now.length,bV:=tB P σ.now σ.bV}
noncomputable def Wd.sync (P:iK) (σ:Wd):Wd:=
 {σ with synced:=σ.F.length,bV:=(if P.az < σ.b8/\σ.b8<=P.az+σ.now.length then σ.bV++[(σ.b8,σ.now.getD (σ.b8-P.az-1) 0)] else σ.bV)}
section
variable {P:iK}{σ:Wd}{c:Nat}
theorem Inv.saved (I:Inv P σ c) (hc:c<=10){F:ah aA}{aX:ah Nat}{hd:Hd}{cg:ah Rc} (J:Jn P cg F aX (σ.bu++[⟨F.length,σ.now,hd⟩]) σ.synced σ.now []) (hr:cg.length<=25*(c+2)) (hF:F.length<=75000*(c+2))
  (h1:hd.t=σ.b7) (h2:hd.v < 300) (h3:hd.c=σ.eM):Inv P (σ.saved P F aX hd) (c+1):=by
 have nw:=I.nw
 refine⟨by exact cw [c] bJ 0xb2120040 0xa2000 hc aQ,⟨cg,J,hr⟩,hF,by have:=I.ld;show σ.bh.length<=_;exact cw [σ.bh.length,c] bJ rH lI this aQ,by show σ.now.length<=_;exact cw [σ.now.length,c] bJ rH lI nw aQ,I.t1,by have:=I.t2;show σ.b7<=_;exact cw [σ.b7,P.bt,c] bJ 0x122040215121044000 0x200215121044000 this aQ,I.lt,I.s1,I.s2,I.safe,?_,?_,?_,?_,by have:=I.new;show σ.b8<=_;exact cw [σ.b8,P.az,c] bJ 0x122040215321044000 0x200215321044000 this aQ⟩
 ·intro s hs
  rcases iS.mp hs with hs |hs
  ·obtain⟨g1,g2,g3,g4⟩:=I.sv s hs
   exact⟨g1,by exact cw [s.rows.length,c] bJ rH lI g2 aQ,g3,g4⟩
  ·have hs:=eR.mp hs
   subst hs
   exact⟨by rw[show(⟨F.length,σ.now,hd⟩:Sv).hd.c=σ.eM from h3];exact I.safe,by show σ.now.length<=_;exact cw [σ.now.length,c] bJ rH lI nw aQ,by show hd.t<=σ.b7;exact cw [hd.t,σ.b7] bJ dP pS h1 aQ,h2⟩
 ·intro p hp
  obtain⟨hp1,hp2⟩:=nR.mp hp
  obtain⟨g1,g2⟩:=I.Jk p hp1
  refine⟨g1,fun s hs he=>?_⟩
  rcases iS.mp hs with hs |hs
  ·exact g2 s hs he
  ·have hs:=eR.mp hs
   subst hs
   simpa using hp2
 ·have:(tB P σ.now σ.bV).length<=σ.bV.length:=tZ _ _
  have:=I.Uc
  show(tB P σ.now σ.bV).length<=_;exact fu [(tB P σ.now σ.bV).length,c,σ.bV.length] eI pR pO lJ (by assumption) this aQ
 ·have:=I.Mm
  show(σ.bu++[_]).length<=_
  simp;exact cw [σ.bu.length,c] bJ pR pR this aQ
theorem Inv.sync (I:Inv P σ c){s0:ah Sv}{hd:Hd} (hs:σ.bu=s0++[⟨σ.F.length,σ.now,hd⟩]) (ha:∀ p∈σ.bV,σ.now[p.1-P.az-1]? =aa p.2) (hl:∀ s∈s0,s.e < σ.F.length) (hk:σ.bV.length+1<=c):Inv P (σ.sync P) c:=by
 obtain⟨cg,J,hr⟩:=I.jn
 refine⟨I.cc,⟨cg,J.sync J.sf (bD _) ⟨⟨σ.F.length,σ.now,hd⟩,by rw[hs];simp,rfl⟩,hr⟩,I.fl,I.ld,I.nw,I.t1,I.t2,I.lt,I.s1,I.s2,I.safe,I.sv,?_,?_,I.Mm,I.new⟩
 ·have key:∀ p:Nat×Nat,P.az < p.1->σ.now[p.1-P.az-1]? =aa p.2->P.az < p.1/\∀ s∈σ.bu,σ.F.length<=s.e->s.rows[p.1-P.az-1]? =aa p.2:=by
   intro p h1 h2
   refine⟨h1,fun s h3 h4=>?_⟩
   rw[hs] at h3
   rcases iS.mp h3 with h3 |h3
   ·have:=hl s h3;exact(fu [σ.F.length,s.e] AR 11 dP 257 h4 this aQ:False).elim
   ·have h3:=eR.mp h3
    subst h3
    exact h2
  intro p hp
  have hp:p∈(if P.az < σ.b8/\σ.b8<=P.az+σ.now.length then σ.bV++[(σ.b8,σ.now.getD (σ.b8-P.az-1) 0)] else σ.bV):=hp
  split at hp
  ·rename_i hc
   rcases iS.mp hp with hp |hp
   ·exact key p (I.Jk p hp).1 (ha p hp)
   ·have hp:=eR.mp hp
    subst hp
    refine key _ hc.1 ?_
    show σ.now[σ.b8-P.az-1]? =aa (σ.now.getD (σ.b8-P.az-1) 0)
    rw[O',lK (by exact gh [] 0x1230010000203 [σ.b8,P.az,σ.now.length] 0x11001100050011011000110007001900190011000110801202011 0x20501 0x20104000001017 hc aQ)];rfl
  ·exact key p (I.Jk p hp).1 (ha p hp)
 ·show(if P.az < σ.b8/\σ.b8<=P.az+σ.now.length then σ.bV++[(σ.b8,σ.now.getD (σ.b8-P.az-1) 0)] else σ.bV).length<=c
  split<;>(try simp)<;>lia
end
section
variable {n:Nat}{H:Hp}{Q:PV}{X:PX}{wa:ax}{fs:ah (Nm×V)}{P:iK}{a:Ad}{σ:Wd}
theorem wq.ne (G:wq P H a σ):(a.wr≠a.f/\a.wr≠a.e/\a.wr≠a.ak/\a.wr≠a.sv/\a.wr≠a.st/\a.wr≠a.lg/\a.wr≠a.un)/\(a.f≠a.st/\a.f≠a.lg/\a.f≠a.un)/\(a.e≠a.st/\a.e≠a.lg/\a.e≠a.un)/\(a.ak≠a.st/\a.ak≠a.lg/\a.ak≠a.un)/\(a.sv≠a.st/\a.sv≠a.lg/\a.sv≠a.un):=by
 obtain⟨ps,w2,_⟩:=G.J.fl
 obtain⟨x,y,z,uw⟩:=G.L.st
 have w1:=G.J.at_
 have k:∀ {c:ax}{xs:ah V},H c=aa (.bE xs)->c≠a.st/\c≠a.lg/\c≠a.un:=fun h=>⟨aY h uw nofun,aY h G.L.lg nofun,aY h G.L.un nofun⟩
 exact⟨⟨aY w1 w2 nofun,aY w1 G.E nofun,aY w1 G.A nofun,aY w1 G.S nofun,aY w1 uw nofun,aY w1 G.L.lg nofun,aY w1 G.L.un nofun⟩,k w2,k G.E,k G.A,k G.S⟩
theorem jh.jat (T:jh P H wa fs a σ):DY H wa fs a.f a.e a.wr P.B σ.F σ.aX:=⟨T.at_,T.D.writer,T.D.aX,T.G.J,T.G.E,T.G.d1⟩
theorem jy.same {τ:Wd} (D:jy P fs a σ) (e1:τ.cuts=σ.cuts) (e2:τ.b7=σ.b7) (e3:τ.bh=σ.bh) (e4:τ.sure=σ.sure) (e5:τ.now=σ.now) (e6:τ.eM=σ.eM) (e7:τ.app=σ.app) (e8:τ.br=σ.br) (e9:τ.b8=σ.b8) (e10:τ.synced=σ.synced):jy P fs a τ:=
 ⟨D.len,D.B,D.az,D.bt,D.kO,by rw[e1];exact D.cuts,by rw[e2];exact D.b7,by rw[e3];exact D.bh,by rw[e4];exact D.sure,by rw[e5];exact D.now,by rw[e6];exact D.eM,by rw[e7];exact D.app,by rw[e8];exact D.br,by rw[e9];exact D.b8,D.bV,D.file,D.aX,D.writer,by rw[e10];exact D.synced,D.bu,D.fy,D.log⟩
theorem jh.put {H':Hp}{F:ah aA}{aX:ah Nat} (T:jh P H wa fs a σ) (J:DY H' wa fs a.f a.e a.wr P.B F aX) (k:g_ [a.wr,a.f,a.e] H H'):jh P H' wa fs a {σ with F:=F,aX:=aX}:=by
 obtain⟨⟨n1,n2,n3,n4,n5,n6,n7⟩,⟨m1,m2,m3⟩,⟨l1,l2,l3⟩,_,_⟩:=T.G.ne
 have G:=T.G
 obtain⟨x,y,z,uw⟩:=G.L.st
 exact⟨J.at_,T.D.same rfl rfl rfl rfl rfl rfl rfl rfl rfl rfl,⟨J.W,J.E,k _ _ (Ao n3.symm G.d2.symm G.d4.symm) G.A,k _ _ (Ao n4.symm G.d3.symm G.d5.symm) G.S,⟨k _ _ (Ao n6.symm m2.symm l2.symm) G.L.lg,⟨x,y,z,k _ _ (Ao n5.symm m1.symm l1.symm) uw⟩,k _ _ (Ao n7.symm m3.symm l3.symm) G.L.un,G.L.ok⟩,G.d1,G.d2,G.d3,G.d4,G.d5,G.d6⟩⟩
theorem Ng {r:ah aA} (hP:P.Ok) (T:jh P H wa fs a σ) (hr:r.length<=100) (hF:σ.F.length<=900000) (he:σ.aX.length<=100000)
  (q:∀ H' bs,Frs P.B σ.F.length ao r bs->jh P H' wa fs a {σ with F:=σ.F++bs,aX:=σ.aX++[(σ.F++bs).length]}->Q .none H'):aM (n+5) .mB [.ref wa,.bytes r] H Q X:=
 DE T.jat ⟨hP.B1,hP.B2⟩ hr hF he fun H' bs h1 h2 h3=>q H' bs h1 (T.put h2 h3)
theorem KS {p t:Nat} (T:jh P H wa fs a σ) (hp:P.az < p) (hn:σ.now.length<=400) (q:Q (.bool (decide (σ.now[p-P.az-1]? =aa t))) H):aM (n+1) .HO [.ref wa,.int p,.int t] H Q X:=by
 have D:=T.D
 have mC:=aK T.nl (show 400<=line by decide)
 have hlen:∀ {L},L .xw=aa (.ref wa)->PE (aM n) L H (.bc .len (.cons (.key (.aB .xw) .iq) .nil)) (nv σ.now.length):=fun h=>cX (eX (bp (ai h) T.at_ D.now) mC) (dJ ..)
 refine bA rfl (aR (c6 (j:=1) (c6 (ai rfl) (bp (ai rfl) T.at_ D.az) (fH hp)) aH (BO hp)) ?_)
 by_cases hc:p-P.az-1 < σ.now.length
 ·obtain⟨u,hu⟩:∃ u,σ.now[p-P.az-1]? =aa u:=⟨_,lK hc⟩
  rw[hu] at q
  exact cy (gF (a9 (dK (gu (j:=0) (ai rfl) aH) (cb (LS _)) (cP (a9 (dK (gu (ai rfl) (hlen rfl)) (dD hc) (cP (fE (zj (gG (bp (ai rfl) T.at_ D.now) (ai rfl) (pC hu) mC)) (ai rfl)))))))) (aW Vx.bool (kW.mpr ⟨aW aa,eH⟩))) q
 ·rw[By (iD hc),dU nofun] at q
  exact cy (gF (a9 (dK (gu (j:=0) (ai rfl) aH) (cb (LS _)) (cP (a9 (jl (gu (ai rfl) (hlen rfl)) (cb hc)))))) (aW Vx.bool (dU hc))) q
end
section
variable {n:Nat}{H:Hp}{Q:PV}{X:PX}{wa:ax}{fs:ah (Nm×V)}{P:iK}{a:Ad}{σ:Wd}
theorem Qu {C:CC}{L:bZ}{e c d:E}{k j m:Nat} (p:PE C L H e (.int k)) (q:PE C L H c (.int j)) (r:PE C L H d (.int m)):PE C L H (.KC e .lt c .le d) (.bool (decide (k < j/\j<=m))):=fun Q X z=>p _ _ (q _ _ (i2 (by
 show cond (decide ((k:Int) < j)) _ _
 by_cases h:k < j
 ·rw[c9 (sA.mpr h)]
  refine r _ _ (i2 ?_)
  show Q (.bool (decide ((j:Int)<=m))) H
  rw[kW.mpr (show(j:Int)<=m↔(k < j/\j<=m) from uO.trans ⟨fun x=>⟨h,x⟩,fun x=>x.2⟩)];exact z
 ·rw[dU fun e=>h (sA.mp e)]
  rw[dU fun e=>h e.1] at z;exact z)))
abbrev tD (P:iK) (wa:ax) (c:Nat):PO:=fun o _ H1=>o=.ret (.bool ag)/\∃ fs' a' τ,Inv P τ c/\jh P H1 wa fs' a' τ
theorem jh.adK {b:ax}{xs:ah V} (T:jh P H wa fs a σ) (hb:H b=au):jh P (H.set b (.bE xs)) wa fs a σ:=T.more (iC hb)
theorem wq.aaZ {l:ah (Nat×Nat)} (G:wq P H a σ):wq P (H.set a.ak (.bE (l.map y7))) a {σ with bV:=l}:=by
 obtain⟨⟨m1,m2,m3,m4,m5,m6,m7⟩,_,_,⟨j1,j2,j3⟩,_⟩:=G.ne
 have kp:g_ [a.ak] H (H.set a.ak (.bE (l.map y7))):=dR (dZ _) (.head _)
 obtain⟨x,y,z,uw⟩:=G.L.st
 exact⟨G.J.keep kp (gq m3) (gq G.d2),kp _ _ (gq G.d4) G.E,aN,kp _ _ (gq G.d6.symm) G.S,⟨kp _ _ (gq j2.symm) G.L.lg,⟨x,y,z,kp _ _ (gq j1.symm) uw⟩,kp _ _ (gq j3.symm) G.L.un,G.L.ok⟩,G.d1,G.d2,G.d3,G.d4,G.d5,G.d6⟩
theorem Jt {L:bZ}{c r:Nat}{X:fj}{s0:ah Sv}{hd:Hd} (hP:P.Ok) (T:jh P H wa fs a σ) (I:Inv P σ c) (g1:L .xw=aa (.ref wa)) (g2:L .xr=aa (nv r)) (hs:σ.bu=s0++[⟨σ.F.length,σ.now,hd⟩]) (ha:∀ p∈σ.bV,σ.now[p.1-P.az-1]? =aa p.2) (hl:∀ s∈s0,s.e < σ.F.length) (hk:σ.bV.length+1<=c):
  wSs (aM (n+5)) ag rT L H (tD P wa c) X:=by
 have D:=T.D
 have h:=T.at_
 have mC:=aK T.nl (show 400<=line by decide)
 by_cases hr:r % 2=0
 case neg=>exact bK (fE (ej (j:=2) (ai g2) aH (by decide)) aH) (cb hr) (cy fF ⟨rfl,fs,a,σ,I,T⟩)
 have I2:=I.sync hs ha hl hk
 have D2:=D.zS (i:=σ.F.length)
 have G2:=T.G.ZQ (fs':=cL fs .iG (nv σ.F.length)) T
 refine c5 (fE (ej (j:=2) (ai g2) aH (by decide)) aH) (dD hr) (iN (aP (bp (ai g1) h D.writer) T.G.J.at_ rfl) (ai g1) h D.lU ?_)
 have hlen:PE (aM (n+5)) L (H.set wa (.i_ (cL fs .iG (nv σ.F.length)))) (.bc .len (.cons (.key (.aB .xw) .iq) .nil)) (nv σ.now.length):=cX (eX (bp (ai g1) aN D2.now) mC) (dJ ..)
 have hc:=Qu (bp (ai g1) aN D2.az) (bp (ai g1) aN D2.b8) (cS (bp (ai g1) aN D2.az) hlen)
 by_cases c1:P.az < σ.b8/\σ.b8<=P.az+σ.now.length
 ·have Zk:=c1.1
  have AD:σ.b8-P.az-1 < σ.now.length:=by exact gh [] 0x1230010000203 [σ.b8,P.az,σ.now.length] 0x11001100050011011000110007001900190011000110801202011 0x20501 0x20104000001017 c1 aQ
  obtain⟨u,hu⟩:∃ u,σ.now[σ.b8-P.az-1]? =aa u:=⟨_,lK AD⟩
  have hud:σ.now.getD (σ.b8-P.az-1) 0=u:=by rw[O',hu];rfl
  have es:(σ.sync P)={σ with synced:=σ.F.length,bV:=σ.bV++[(σ.b8,u)]}:=by unfold Wd.sync;rw[a8 c1,hud]
  rw[es] at I2
  have Ji:(σ.bV.map y7).length < line:=by rw[cF];exact ma hk (aK I.cc (by decide))
  refine c5 hc (dD c1) (bo (oW (bp (ai g1) aN D2.bV) G2.A (dw (aq (bp (ai g1) aN D2.b8) (aq (zj (gG (bp (ai g1) aN D2.now) (c6 (j:=1) (c6 (bp (ai g1) aN D2.b8) (bp (ai g1) aN D2.az) (fH Zk)) aH (BO Zk)) (pC hu) mC)) aE)) (aT rfl)) Ji ⟨rfl,bG (bC (bG (bC (cy fF ⟨rfl,_,a,_,I2,?_,D2.same rfl rfl rfl rfl rfl rfl rfl rfl rfl rfl,?_⟩))))⟩))
  ·obtain⟨n1,n2,n3,n4,n5,n6,n7,n8⟩:=T.ne
   exact bY n4 aN
  ·have:=G2.aaZ (l:=σ.bV++[(σ.b8,u)])
   rw[f7] at this
   exact this.same rfl rfl rfl rfl rfl
 ·have es:(σ.sync P)={σ with synced:=σ.F.length,bV:=σ.bV}:=by unfold Wd.sync;rw[bb c1]
  rw[es] at I2
  exact bK hc (cb c1) (bG (bC (cy fF ⟨rfl,_,a,_,I2,aN,D2,G2.same rfl rfl rfl rfl rfl⟩)))
end
section
variable {n:Nat}{H:Hp}{Q:PV}{X:PX}{wa:ax}{fs:ah (Nm×V)}{P:iK}{a:Ad}{σ:Wd}
theorem Ue (P:iK) (now:ah Nat) (l:ah (Nat×Nat)):l.filterMap (fun p=>if now[p.1-P.az-1]? =aa p.2 then aa (y7 p) else au)=(tB P now l).map y7:=by
 induction l with
 |nil=>rfl
 |cons p l ih=>
  by_cases h:now[p.1-P.az-1]? =aa p.2
  ·have e:tB P now (p::l)=p::tB P now l:=X0 (c9 h)
   rw[e]
   exact(NC (f:=fun p:Nat×Nat=>if now[p.1-P.az-1]? =aa p.2 then aa (y7 p) else au) (a8 h)).trans (aW (_:: ·) ih)
  ·have e:tB P now (p::l)=tB P now l:=XZ (by rw[dU h];nofun)
   rw[e]
   exact(Ta (f:=fun p:Nat×Nat=>if now[p.1-P.az-1]? =aa p.2 then aa (y7 p) else au) (bb h)).trans ih
theorem wq.nea (G:wq P H a σ) (h:H wa=aa (.i_ fs)):∀ c∈[wa],c≠a.f/\c≠a.e/\c≠a.wr/\c≠a.ak/\c≠a.sv/\c≠a.st/\c≠a.lg/\c≠a.un:=by
 obtain⟨ps,w2,_⟩:=G.J.fl
 obtain⟨x,y,z,uw⟩:=G.L.st
 intro c hc
 rw[eR.mp hc]
 exact⟨aY h w2 nofun,aY h G.E nofun,aY h G.J.at_ nofun,aY h G.A nofun,aY h G.S nofun,aY h uw nofun,aY h G.L.lg nofun,aY h G.L.un nofun⟩
theorem Ju {L:bZ}{c r:Nat}{X:fj}{s0:ah Sv}{hd:Hd} (hP:P.Ok) (T:jh P H wa fs a σ) (I:Inv P {σ with bV:=tB P σ.now σ.bV} c) (g1:L .xw=aa (.ref wa)) (g2:L .xr=aa (nv r)) (hs:σ.bu=s0++[⟨σ.F.length,σ.now,hd⟩]) (hb:∀ p∈σ.bV,P.az < p.1) (hl:∀ s∈s0,s.e < σ.F.length) (hk:σ.bV.length+1<=c):
  wSs (aM (n+5)) ag rU L H (tD P wa c) X:=by
 have D:=T.D
 have h:=T.at_
 have Ji:σ.bV.length<=11:=aK (LY hk) I.cc
 have hf:(tB P σ.now σ.bV).length<=σ.bV.length:=tZ _ _
 refine mL (wR y7 (fun p=>if σ.now[p.1-P.az-1]? =aa p.2 then aa (y7 p) else au) σ.bV (bp (ai g1) h D.bV) (fU T.G.A) (aK Ji (by decide)) (fun p hp k hk=>?_) ?_)
 ·refine ab_ (t:=decide (σ.now[p.1-P.az-1]? =aa p.2)) rfl rfl (eE (aq (ai (show((L.only [.xw]).sets [.dA,.bO] [nv p.1,nv p.2]) .xw=aa (.ref wa) from g1)) (aq (ai rfl) (aq (ai rfl) aE))) fun _ _ q=>KS T (hb p hp) T.G.L.ok.n1 q) rfl (dw (aq (ai rfl) (aq (ai rfl) aE)) (aT rfl)) ?_
  by_cases hh:σ.now[p.1-P.az-1]? =aa p.2
  ·rw[a8 hh] at hk
   rw[c9 hh];exact hk
  ·rw[bb hh] at hk
   rw[dU hh];exact hk
 ·rw[Ue]
  refine⟨by rw[cF];exact aK hf (aK Ji (by decide)),fun ak MU=>?_⟩
  have hwk:=a_ h MU
  have T1:=T.adK (xs:=(tB P σ.now σ.bV).map y7) MU
  have G2:=T1.G.ZQ (fs':=cL fs .mX (.ref ak)) T1
  obtain⟨ps,w2,_⟩:=T.G.J.fl
  refine Dn (ai g1) T1.at_ D.lU (Jt (σ:={σ with bV:=tB P σ.now σ.bV}) (fs:=cL fs .mX (.ref ak)) (a:={a with ak:=ak}) (s0:=s0) (hd:=hd) hP ⟨aN,D.UU.same rfl rfl rfl rfl rfl rfl rfl rfl rfl rfl,⟨G2.J,G2.E,bY hwk.symm aN,G2.S,G2.L,G2.d1,a_ w2 MU,G2.d3,a_ T.G.E MU,G2.d5,(a_ T.G.S MU).symm⟩⟩ I g1 g2 hs (fun p hp=>ij (nR.mp hp).2) hl (aK (eG hf) hk))
theorem C3 {L:bZ}{c r k0:Nat}{X:fj}{s0:ah Sv}{hd:Hd} (hP:P.Ok) (h:H wa=aa (.i_ fs)) (D:jy P fs a {σ with br:=k0}) (G:wq P H a σ) (Y9:σ.br=σ.now.length) (I:Inv P {σ with bV:=tB P σ.now σ.bV} c) (g1:L .xw=aa (.ref wa)) (g2:L .xr=aa (nv r)) (hs:σ.bu=s0++[⟨σ.F.length,σ.now,hd⟩]) (hb:∀ p∈σ.bV,P.az < p.1) (hl:∀ s∈s0,s.e < σ.F.length) (hk:σ.bV.length+1<=c):
  wSs (aM (n+5)) ag tP L H (tD P wa c) X:=by
 have mC:(dk (P.az+1) σ.now).length<=line:=by rw[dJ];exact aK (show σ.now.length<=400 from G.L.ok.n1) (by decide)
 refine iN (cX (eX (bp (ai g1) h D.now) mC) (dJ ..)) (ai g1) h D.lU ?_
 have D2:=D.JI (i:=σ.now.length)
 rw[<- Y9] at D2
 have:=Ju (n:=n) (L:=L) (X:=X) (r:=r) (c:=c) (σ:=σ) (fs:=cL fs .lA (nv σ.br)) (a:=a) (s0:=s0) (hd:=hd) hP ⟨aN,D2,G.keep (S:=[wa]) (dR (dZ _) (.head _)) (G.nea h)⟩ I g1 g2 hs hb hl hk
 rw[Y9] at this
 exact this
theorem NN {L:bZ}{c r:Nat}{X:fj}{s0:ah Sv}{hd:Hd} (hP:P.Ok) (T:jh P H wa fs a σ) (uw:σ.gK=σ.now) (I:Inv P {σ with br:=σ.now.length,bV:=tB P σ.now σ.bV} c) (g1:L .xw=aa (.ref wa)) (g2:L .xr=aa (nv r)) (g3:L .mR=aa (.bE (dY (P.az+1+σ.br) (σ.now.drop σ.br)))) (hs:σ.bu=s0++[⟨σ.F.length,σ.now,hd⟩]) (hb:∀ p∈σ.bV,P.az < p.1) (hl:∀ s∈s0,s.e < σ.F.length) (hk:σ.bV.length+1<=c):
  wSs (aM (n+5)) ag tQ L H (tD P wa c) X:=by
 have D:=T.D
 have h:=T.at_
 have L1:=T.G.L
 have k2:σ.br<=σ.now.length:=L1.ok.k2
 have Xg:(dY (P.az+1+σ.br) (σ.now.drop σ.br)).length=σ.now.length-σ.br:=(cQ ..).trans (fJ ..)
 by_cases hc:σ.br=σ.now.length
 ·have HU:dY (P.az+1+σ.br) (σ.now.drop σ.br)=[]:=qO.mp (by rw[Xg,hc,BE])
  have G2:wq P H a {σ with br:=σ.now.length}:=T.G.same rfl rfl rfl rfl (by unfold Wd.lg;rw[hc])
  exact bK (iH (ai g3) (cG aE (bX _)) (rh 5 _)) (mY HU) (C3 (σ:={σ with br:=σ.now.length}) (k0:=σ.br) hP h D G2 rfl I g1 g2 hs hb hl hk)
 ·have lW:σ.br < σ.now.length:=xv k2 hc
  have yG:σ.now.length-σ.br-1 < σ.now.length-σ.br:=FY (BO lW) Nat.one_pos
  have Dq:¬ dY (P.az+1+σ.br) (σ.now.drop σ.br)=[]:=fun q=>by rw[q] at Xg;exact absurd Xg (sy (BO lW))
  obtain⟨t,ht⟩:∃ t,(σ.now.drop σ.br)[σ.now.length-σ.br-1]? =aa t:=⟨_,lK (by rw[fJ];exact yG)⟩
  have ei:P.az+1+σ.br+(σ.now.length-σ.br-1)=P.az+σ.now.length:=by exact nk [] 0x1230010200203 [P.az,σ.br,σ.now.length] 0x110000001100800110110011000008003101100000011008001900190011000009002120110110000060011011001100000800110011001100000901202001021 0x20004501012004442 0x20100 0x201026 k2 hc aQ
  have Xe:(dY (P.az+1+σ.br) (σ.now.drop σ.br)).getLast?=aa (kF t (P.az+σ.now.length)).v:=by
   rw[DT,Xg,<- ei];exact pL ht
  have htm:t=(σ.lg P).tm (P.az+σ.now.length):=by
   rw[Dm,DT]
   rw[BS,Nat.sub_right_comm,gZ (Nat.le_sub_one_of_lt lW)] at ht
   rw[ht]
  obtain⟨n1,n2,n3,n4,n5,n6,n7,n8⟩:=T.ne
  refine c5 (iH (ai g3) (cG aE (bX _)) (rh 5 _)) (xO Dq) (bo (bH (bp (ai g1) h D.log) L1.lg rfl (aq (bI (z8 (ai g3) Xe) rfl) (aq (bI (z8 (ai g3) Xe) rfl) aE)) (OU (σ:=σ.lg P) (t:=t) L1 lW uw htm fun H2 L2 k=>⟨rfl,bG (bC ?_)⟩)))
  have e:(σ.lg P).B'=Wd.lg P {σ with br:=σ.now.length}:=by unfold Lg.B' Wd.lg;dsimp only;rw[uw]
  rw[e] at L2
  exact C3 (σ:={σ with br:=σ.now.length}) (k0:=σ.br) hP (k wa _ (Ao n7 n6 n8) h) D (T.G.log L2 k rfl rfl rfl rfl) rfl I g1 g2 hs hb hl hk
theorem NO {L:bZ}{c r:Nat}{X:fj}{s0:ah Sv}{hd:Hd} (hP:P.Ok) (T:jh P H wa fs a σ) (I:Inv P {σ with gK:=σ.now,br:=σ.now.length,bV:=tB P σ.now σ.bV} c) (g1:L .xw=aa (.ref wa)) (g2:L .xr=aa (nv r)) (g3:L .mR=aa (.bE (dY (P.az+1+σ.br) (σ.now.drop σ.br)))) (g4:L .cO=aa hd.o) (hs:σ.bu=s0++[⟨σ.F.length,σ.now,hd⟩]) (hb:∀ p∈σ.bV,P.az < p.1) (hl:∀ s∈s0,s.e < σ.F.length) (hk:σ.bV.length+1<=c):
  wSs (aM (n+5)) ag tR L H (tD P wa c) X:=by
 have D:=T.D
 have h:=T.at_
 have L1:=T.G.L
 have ok:=L1.ok
 obtain⟨x,y,z,uw⟩:=L1.st
 have k2:σ.br<=σ.now.length:=ok.k2
 have k3:σ.gK.take σ.br=σ.now.take σ.br:=ok.k3
 have n1:σ.now.length<=400:=ok.n1
 have n2:σ.gK.length<=400:=ok.n2
 obtain⟨n1',n2',n3',n4',n5',n6',n7',n8'⟩:=T.ne
 refine bo (bH (bp (ai g1) h D.fy) uw rfl (aq (ai g3) aE) (DC (σ:=σ.lg P) (k:=σ.br) (us:=σ.now.drop σ.br) uw rfl ok.k1 (fun q=>?_) (aK n2 (by decide)) (by rw[fJ];exact aK (jc ..) (aK n1 (by decide))) fun H2 s2 kk=>⟨rfl,?_⟩))
 ·have:=aW List.length q
  rw[fJ] at this
  exact(ok.k4 (BL k2 (XK this))).symm
 have aeg:σ.gK.take σ.br++σ.now.drop σ.br=σ.now:=by rw[k3];exact I6 _ _
 have s2:H2 a.st=aa (mZ (Wd.lg P {σ with gK:=σ.now}) x y z):=by
  rw[s2]
  unfold mZ Wd.lg
  dsimp only
  rw[aeg]
 have h2:H2 wa=aa (.i_ fs):=kk wa _ (gq n6') h
 refine bo (bH (bp (ai g1) h2 D.fy) s2 rfl (aq (ai g4) aE) (AY (σ:=Wd.lg P {σ with gK:=σ.now}) s2 ⟨rfl,?_⟩))
 obtain⟨⟨m1,m2,m3,m4,m5,m6,m7⟩,⟨a1,a2,a3⟩,⟨b1,b2,b3⟩,⟨c1,c2,c3⟩,⟨d1,d2,d3⟩⟩:=T.G.ne
 have ks:g_ [a.st] H (H2.set a.st (mZ (Wd.lg P {σ with gK:=σ.now}) hd.o y z)):=dR kk (.head _)
 have ok2:(Wd.lg P {σ with gK:=σ.now}).Ok:=⟨k2,k2,rfl,fun q=>q.symm,ok.b,n1,n1,ok.t1,ok.t1,ok.bt,ok.c,ok.a1,ok.a2⟩
 have G:=T.G
 exact NN (σ:={σ with gK:=σ.now}) (fs:=fs) (a:=a) (s0:=s0) (hd:=hd) hP ⟨ks _ _ (gq n6') h,D.same rfl rfl rfl rfl rfl rfl rfl rfl rfl rfl,⟨G.J.keep ks (gq m5) (gq a1),ks _ _ (gq b1) G.E,ks _ _ (gq c1) G.A,ks _ _ (gq d1) G.S,⟨ks _ _ (gq L1.ls) L1.lg,⟨_,_,_,aN⟩,ks _ _ (gq L1.su.symm) L1.un,ok2⟩,G.d1,G.d2,G.d3,G.d4,G.d5,G.d6⟩⟩ rfl I g1 g2 g3 hs hb hl hk
end
section
variable {n:Nat}{H:Hp}{Q:PV}{X:PX}{wa:ax}{fs:ah (Nm×V)}{P:iK}{a:Ad}{σ:Wd}
theorem jh.aaY {l:ah Sv} (T:jh P H wa fs a σ):jh P (H.set a.sv (.bE (l.map (Jd P)))) wa fs a {σ with bu:=l}:=by
 obtain⟨⟨m1,m2,m3,m4,m5,m6,m7⟩,_,_,_,⟨d1,d2,d3⟩⟩:=T.G.ne
 obtain⟨n1,n2,n3,n4,n5,n6,n7,n8⟩:=T.ne
 have G:=T.G
 obtain⟨x,y,z,uw⟩:=G.L.st
 have ks:g_ [a.sv] H (H.set a.sv (.bE (l.map (Jd P)))):=dR (dZ _) (.head _)
 exact⟨ks _ _ (gq n5) T.at_,T.D.same rfl rfl rfl rfl rfl rfl rfl rfl rfl rfl,⟨G.J.keep ks (gq m4) (gq G.d3),ks _ _ (gq G.d5) G.E,ks _ _ (gq G.d6) G.A,aN,⟨ks _ _ (gq d2.symm) G.L.lg,⟨x,y,z,ks _ _ (gq d1.symm) uw⟩,ks _ _ (gq d3.symm) G.L.un,G.L.ok⟩,G.d1,G.d2,G.d3,G.d4,G.d5,G.d6⟩⟩
theorem NP {L:bZ}{c r:Nat}{X:fj}{hd:Hd}{F:ah aA}{aX:ah Nat}{cg:ah Rc} (hP:P.Ok) (T:jh P H wa fs a {σ with F:=F,aX:=aX}) (I:Inv P σ c) (hc:c<=10)
  (J:Jn P cg F aX σ.bu σ.synced σ.gK (ents (P.az+1+σ.br) (σ.now.drop σ.br))) (hr:cg.length+1<=25*(c+2)) (hF:F.length+3000<=75000*(c+2)) (he:aX.length<=90000)
  (g1:L .xw=aa (.ref wa)) (g2:L .xr=aa (nv r)) (g3:L .mR=aa (.bE (dY (P.az+1+σ.br) (σ.now.drop σ.br)))) (g4:L .cO=aa hd.o) (hh:hd.Ok) (h1:hd.t=σ.b7) (h2:hd.v < 300) (h3:hd.c=σ.eM):
  wSs (aM (n+5)) ag tS L H (tD P wa (c+1)) X:=by
 have ok:=T.G.L.ok
 have Xi:=aK (zv hh) (show 16<=100 by decide)
 have k1:σ.br<=σ.gK.length:=ok.k1
 have k3:σ.gK.take σ.br=σ.now.take σ.br:=ok.k3
 have k4:σ.br=σ.now.length->σ.gK.length=σ.br:=ok.k4
 have k2:σ.br<=σ.now.length:=ok.k2
 have sal:=oQ P.az (σ.now.drop σ.br) σ.gK σ.br k1
 have aej:(if σ.now.drop σ.br=[] then σ.gK else σ.gK.take σ.br++σ.now.drop σ.br)=σ.now:=by
  by_cases q:σ.now.drop σ.br=[]
  ·rw[a8 q]
   have hl:σ.br=σ.now.length:=by
    have:=aW List.length q
    rw[fJ] at this
    exact BL k2 (XK this)
   have e1:=k4 hl
   rw[<- sE (l:=σ.gK),e1,k3,hl,sE]
  ·rw[bb q,k3];exact I6 _ _
 rw[aej] at sal
 have hF9:F.length<=900000:=by exact fu [F.length,c] 0x110124f83011030 0xdbba033000 nA 0x221040124f8350bb8230040 hc hF aQ
 refine bo (rA (q7 (ai g1) (D7 (bQ (aq (ai g4) aE) (o6 hh fun H1 l1=>?_)))))
 refine Ng hP (T.more l1) Xi hF9 (aK he (by decide)) fun H2 b f2 T2=>⟨rfl,?_⟩
 have nb:=f2.le hP.B1 Xi
 have J2:=J.Kt hP.B1 hh f2 sal
 have yH:(F++b).length<=75000*(c+2):=by rw[bN];exact aK (dW nb _) hF
 have IS:=I.saved hc J2 (by rw[bN];exact hr) yH h1 h2 h3
 have yE:(σ.bu.map (Jd P)).length < line:=by rw[cF];exact cE I.Mm (cE (eG hc) (by decide))
 refine bo (oW (bp (ai g1) T2.at_ T2.D.bu) T2.G.S (dw (aq (aP (bp (ai g1) T2.at_ T2.D.writer) T2.G.J.at_ rfl) (aq (bp (ai g1) T2.at_ T2.D.now) (aq (jX (ai g4) rfl aE fun _ _ q=>KV (h:=hd) q) aE))) (aT rfl)) yE ⟨rfl,?_⟩)
 have T3:=T2.aaY (l:=σ.bu++[⟨(F++b).length,σ.now,hd⟩])
 rw[f7] at T3
 refine NO (σ:={σ with F:=F++b,aX:=aX++[(F++b).length],bu:=σ.bu++[⟨(F++b).length,σ.now,hd⟩]}) (fs:=fs) (a:=a) (s0:=σ.bu) (hd:=hd) (c:=c+1) hP T3 IS g1 g2 g3 g4 rfl (fun p hp=>(I.Jk p hp).1) (fun s hs=>?_) (eG I.Uc)
 show s.e < (F++b).length
 rw[bN]
 exact cE (J.sl s hs) (NB (ma (by decide) (f2.len hP.B1).2.1))
structure SvJ (P:iK) (σ:Wd) (wa:ax) (fs:ah (Nm×V)) (a:Ad) (r c:Nat) (done:ah En) (L:bZ) (H1:Hp) (F:ah aA) (aX:ah Nat) (cg:ah Rc):Prop where
 g1:L .xw=aa (.ref wa)
 g2:L .xr=aa (nv r)
 g3:L .mR=aa (.bE (dY (P.az+1+σ.br) (σ.now.drop σ.br)))
 g4:L .cO=aa (⟨σ.b7,r / 2 % 300,σ.eM⟩:Hd).o
 T:jh P H1 wa fs a {σ with F:=F,aX:=aX}
 J:Jn P cg F aX σ.bu σ.synced σ.gK done
 R:cg.length<=25*(c+1)+done.length
 N:F.length<=75000*(c+1)+3000*done.length
theorem KR {c r:Nat} (hP:P.Ok) (T:jh P H wa fs a σ) (I:Inv P σ c) (hc:c<=10) (q:∀ H',(∃ fs' a' τ,Inv P τ (c+1)/\jh P H' wa fs' a' τ)->Q (.bool ag) H'):aM (n+6) .ru [.ref wa,nv r] H Q X:=by
 have D:=T.D
 have h:=T.at_
 have L1:=T.G.L
 have ok:=L1.ok
 have k2:σ.br<=σ.now.length:=ok.k2
 have nw:σ.now.length<=23:=aK I.nw (cw [c] 0x21011020 0x17130002153240 0xa2000 hc aQ)
 have AD:=hP.b2
 have mC:=aK T.nl (show 400<=line by decide)
 have adQ:=I.Uz hP (bD _)
 have lW:∀ t∈σ.now.drop σ.br,t < 2 ^ 32:=fun t ht=>I.Uz hP (I.safe.a.b t (I5 ht))
 have xZ:(ents (P.az+1+σ.br) (σ.now.drop σ.br)).length<=23:=by rw[fh,fJ];exact aK (jc ..) nw
 have er:∀ (i:Nat) (ts:ah Nat),tI 6 (.bE ((ents i ts).map En.row)) (.bE (dk i ts))=aa ag:=fun i ts=>Eo 3 i ts
 have hcm:σ.eM < 2 ^ 32:=cE (show σ.eM<=P.az+σ.now.length from ok.c) (cE (fS AD nw) (by decide))
 have hh:(⟨σ.b7,r / 2 % 300,σ.eM⟩:Hd).Ok:=⟨adQ,fq (dE _ (by decide)) (by decide),hcm⟩
 have B8:=zw (i:=P.az+1+σ.br) lW (cE (fS (fS (eG AD) (aK k2 nw)) (by rw[fh] at xZ;exact xZ)) (by decide))
 obtain⟨cg,J0,OC⟩:=I.jn
 refine bA rfl (aR (d_ (bp (ai rfl) h D.log) L1.lg rfl aE fun _ _ q=>KJ L1 q) ?_)
 refine bK (iH (eE (aq (ai rfl) aE) fun _ _ q=>kP (es:=ents (P.az+1+σ.br) (σ.now.drop σ.br)) rfl (aK xZ (by decide)) q) (iV (zh (bp (ai rfl) h D.now) (bp (ai rfl) h D.br) (by rw[dJ];exact k2) mC) (Du ..)) (er _ _)) rfl ?_
 refine aR (oy (aq (bp (ai rfl) h D.b7) (aq (ej (j:=300) (fg (j:=2) (ai rfl) aH (by decide) (by decide)) aH (by decide)) (aq (bp (ai rfl) h D.eM) aE)))) ?_
 refine tG (ai rfl) rfl (qo En.v (ents (P.az+1+σ.br) (σ.now.drop σ.br)) (fun done L H1=>∃ F aX cg,SvJ P σ wa fs a r c done L H1 F aX cg) ⟨σ.F,σ.aX,cg,rfl,rfl,rfl,rfl,T,J0,OC,I.fl⟩ (fun _ _ _ _=>rfl) ?_ ?_)
 ·rintro done x rest L H1 e1 ⟨F,aX,cg,S⟩
  have hx:=B8 x (by rw[e1];exact t4 _ (.head _))
  have MS:done.length<=23:=aK (by rw[e1,bN];exact ft ..) xZ
  have tL:=S.J.As
  have hR:=S.R
  have hN:=S.N
  have hxl:=aK (zy hx) (show 43<=100 by decide)
  refine bo (rA (q7 (ai S.g1) (D7 (bQ (aq (ai rfl) aE) (j8 hx fun H2 l2=>?_)))))
  refine Ng hP (S.T.more l2) hxl (show F.length<=900000 by exact GK [F.length,c,done.length] 0x110bb820124f83011040 0xdbba033000 nA 0x1713200 0x200bb825121040124f8354000 hc MS hN aQ) (show aX.length<=100000 by exact YO [aX.length,c,done.length,cg.length] 0x11019011191011050 0x186a033000 nA 0x1713200 770 0x201210419154300 hc MS tL hR aQ) fun H3 b3 f3 T3=>⟨rfl,bG ⟨F++b3,aX++[(F++b3).length],cg++[.e x],S.g1,S.g2,S.g3,S.g4,T3,S.J.entry hP.B1 hx f3,?_,?_⟩⟩
  ·rw[bN,bN];exact eG hR
  ·rw[bN,bN,Bz,uN 3000,<- dT];exact fS hN (f3.le hP.B1 hxl)
 ·rintro L H1 ⟨F,aX,cg,S⟩
  have tL:=S.J.As
  have hR:=aK S.R (dW xZ _)
  have hN:=aK S.N (dW (md 3000 xZ) _)
  refine bC (dH (dj _) _ ?_ (fun _ _ _ h=>h) (NP (σ:=σ) (F:=F) (aX:=aX) (cg:=cg) hP S.T I hc S.J (cw [cg.length,c] bJ 0x221041915120040 0x17131210419154000 hR aQ) (cw [F.length,c] bJ 0x221040124f8350bb8230040 0x10d8833121040124f8354000 hN aQ) (GK [aX.length,c,cg.length] 0x11019191011040 0x15f9033000 nA 514 0x17131210419154200 hc tL hR aQ) S.g1 S.g2 S.g3 S.g4 hh rfl (dE _ (by decide)) rfl))
  rintro o L2 H2 ⟨rfl,hT⟩
  exact q H2 hT
end
theorem JE {b:Nat}{es il:ah En}{x:En} (h:gT b es x=aa il):il.length<=es.length+1:=C8 h
theorem vf {b:Nat}:∀ {xs es il:ah En},fb b es xs=aa il->il.length<=es.length+xs.length
 |[],es,il,h=>by cases h;simp
 |x::xs,es,il,h=>by
  simp only[fb,Su] at h
  obtain⟨Rz,h1,h2⟩:=h
  have:=JE h1
  have:=vf h2
  simp;exact fu [il.length,es.length,xs.length,Rz.length] eI 0x12204104000 0x12104300 0x20304000 (by assumption) this aQ
theorem Hg {b:Nat}:∀ {rs:ah Rc}{es:ah En}{hd:Hd}{pe:ah En}{s:Rs},runs b (es,hd,pe) rs=aa s->s.1.length+s.2.2.length<=es.length+pe.length+rs.length
 |[],es,hd,pe,s,h=>by cases h;simp
 |r::rs,es,hd,pe,s,h=>by
  simp only[runs,Su] at h
  obtain⟨⟨e1,h1,p1⟩,g1,g2⟩:=h
  have i:=Hg g2
  cases r with
  |f=>contradiction
  |e x=>cases g1;simp at i ⊢;exact cw [s.fst.length,s.snd.snd.length,es.length,pe.length,rs.length] bJ 0x12404302044100040 0x40123042044100040 i aQ
  |h d=>
   simp only[yy,yl] at g1
   obtain⟨il,k1,k2⟩:=g1
   cases k2
   have:=vf k1
   simp at i ⊢;exact fu [s.fst.length,s.snd.snd.length,es.length,pe.length,rs.length,e1.length] eI 0x12404302044100040 0x40504100040 0x30204500 i this aQ
theorem m8 {f:V->V->aC aj}{x y:V}{xs ys:ah V} (h:f x y=aa ag) (k:oR f xs ys=aa ag):oR f (x::xs) (y::ys)=aa ag:=ic h k
theorem MB (n:Nat):∀ vs:ah Nat,oR (tI (n+1)) (vs.map nv) (vs.map nv)=aa ag
 |[]=>rfl
 |v::vs=>ic ib (MB n vs)
theorem Qw (n:Nat) (vs:ah Nat):tI (n+3) (cfr vs) (cfr vs)=aa ag:=
 kH rfl (m8 (kH rfl (MB n vs)) (m8 (kH (xs:=[]) rfl rfl) (m8 (kH (xs:=[]) rfl rfl) (m8 (kH (xs:=[]) rfl rfl) (m8 rfl rfl)))))
theorem MD (n:Nat) (hd:Hd):tI (n+2) hd.row hd.row=aa ag:=kH rfl (ic ib (ic ib (ic ib rfl)))
theorem Q5 {l:ah Sv} (hp:l.Pairwise (·.e < ·.e)){s x:Sv} (hl:l.getLast?=aa s) (hx:x∈l):x.e<=s.e:=by
 rw[List.getLast?_eq_some_iff] at hl
 obtain⟨l0,rfl⟩:=hl
 rcases iS.mp hx with h |h
 ·have:=(Nv.mp hp).2.2 x h s (by simp);exact cw [x.e,s.e] bJ dP rG this aQ
 ·have:=eR.mp h;subst this;exact bD _
section
variable {P:iK}{σ:Wd}{c:Nat}
noncomputable def Wd.vK (P:iK) (σ:Wd) (F:ah aA) (aX:ah Nat) (bu:ah Sv) (synced:Nat) (sv:Sv):Wd:=
 {σ with F:=F,aX:=aX,bu:=bu,synced:=synced,now:=sv.rows,eM:=sv.hd.c,app:=P.az,br:=sv.rows.length,b8:=P.az,gK:=sv.rows}
theorem Inv.mem (I:Inv P σ c){n:Nat}{sv:Sv} (hn:σ.synced<=n) (uW:(eZ σ.bu n).getLast?=aa sv):sv∈σ.bu/\σ.synced<=sv.e:=by
 obtain⟨cg,J,_⟩:=I.jn
 have hm:sv∈eZ σ.bu n:=Bw uW
 refine⟨(nR.mp hm).1,?_⟩
 obtain⟨s0,h1,h2⟩:=J.se
 rw[<- h2]
 refine Q5 (J.so.sublist T7) uW (nR.mpr ⟨h1,by simpa [h2] using hn⟩)
theorem Inv.vK (I:Inv P σ c) (hc:c<=10){sv:Sv}{F:ah aA}{aX:ah Nat}{bu:ah Sv}{synced:Nat} (hm:sv∈σ.bu) (hs:σ.synced<=sv.e) (J:∃ cg,Jn P cg F aX bu synced sv.rows []/\cg.length<=25*(c+2)) (hF:F.length<=75000*(c+2))
  (h1:∀ s∈bu,∃ s'∈σ.bu,s.rows=s'.rows/\s.hd=s'.hd/\(synced<=s.e->σ.synced<=s'.e)) (h2:bu.length<=c+2):Inv P (σ.vK P F aX bu synced sv) (c+1):=by
 obtain⟨g1,g2,g3,g4⟩:=I.sv sv hm
 refine⟨by exact cw [c] bJ 0xb2120040 0xa2000 hc aQ,J,hF,by have:=I.ld;show σ.bh.length<=_;exact cw [σ.bh.length,c] bJ rH lI this aQ,by show sv.rows.length<=_;exact cw [sv.rows.length,c] bJ rH lI g2 aQ,I.t1,by have:=I.t2;show σ.b7<=_;exact cw [σ.b7,P.bt,c] bJ 0x122040215121044000 0x200215121044000 this aQ,I.lt,I.s1,I.s2,g1,?_,?_,by have:=I.Uc;show σ.bV.length<=_;exact cw [σ.bV.length,c] bJ pR dP this aQ,h2,by show P.az<=_;exact lE [P.az,c] hM 0x121040215320044000 aQ⟩
 ·intro s hs
  obtain⟨s',k1,k2,k3,k4⟩:=h1 s hs
  obtain⟨j1,j2,j3,j4⟩:=I.sv s' k1
  rw[k2,k3]
  exact⟨j1,by exact cw [s'.rows.length,c] bJ rH lI j2 aQ,j3,j4⟩
 ·intro p hp
  obtain⟨k1,k2⟩:=I.Jk p hp
  refine⟨k1,fun s hs he=>?_⟩
  obtain⟨s',j1,j2,j3,j4⟩:=h1 s hs
  rw[j2]
  exact k2 s' j1 (j4 he)
theorem Inv.aem (I:Inv P σ c) (hc:c<=10) (hP:P.Ok){sv:Sv}{F:ah aA}{aX:ah Nat} (hm:sv∈σ.bu) (hs:σ.synced<=sv.e) (hj:Jr P.B 0 ((lY P sv.rows sv.hd).map P.bs) F aX) (hF:F.length<=3000*(lY P sv.rows sv.hd).length) (hh:sv.hd.Ok):
  Inv P (σ.vK P F aX [⟨F.length,sv.rows,sv.hd⟩] F.length sv) (c+1):=by
 obtain⟨g1,g2,g3,g4⟩:=I.sv sv hm
 have Xi:(lY P sv.rows sv.hd).length<=26:=by
  unfold lY
  have cc:=I.cc
  split<;>simp [fh]<;>exact fu [sv.rows.length,c] AP 0x1713000 nA lI hc g2 aQ
 have AD:=hP.b2
 have Y2:=hP.t2
 have tt:=I.t2
 have cc:=I.cc
 have B8:=zw (i:=P.az+1) (ts:=sv.rows) (fun t ht=>by have:=g1.a.b t ht;exact YO [t,c,P.bt,σ.b7] 0x11011011021011050 oa nA 0xc35023200 0x100215122044300 rI hc Y2 tt this aQ) (GK [P.az,sv.rows.length,c] 0x11011021011040 0x10000000053101200441 0xa2200 0x200215324100 vL hc g2 AD aQ)
 refine I.vK hc hm hs ⟨_,Jn.start hP.B1 hj hh B8,by exact cw [(lY P sv.rows sv.hd).length,c] bJ 0x221041915000 0x1a13000 Xi aQ⟩ (fu [F.length,c,(lY P sv.rows sv.hd).length] 0xbb82011011030 0x221040124f835000 0x200bb825000 0x1a13200 hF Xi aQ) ?_ (by simp)
 intro s h
 have h:=eR.mp h
 subst h
 exact⟨sv,hm,rfl,rfl,fun _=>hs⟩
theorem Inv.ael (I:Inv P σ c) (hc:c<=10) (hP:P.Ok){sv:Sv}{n:Nat} (hn:σ.synced<=n) (Jf:n<=σ.F.length) (uW:(eZ σ.bu n).getLast?=aa sv) (hg:(c8 σ.aX n).getLast?.getD 0=n) (hp:((c8 σ.aX n).filter (sv.e < ·))=[]):
  Inv P (σ.vK P (σ.F.take n) (c8 σ.aX n) (eZ σ.bu n) n sv) (c+1):=by
 obtain⟨hm,hs⟩:=I.mem hn uW
 obtain⟨cg,J,hr⟩:=I.jn
 obtain⟨J2,e2⟩:=J.cut hP.B1 hn Jf uW hg hp
 refine I.vK hc hm hs ⟨_,J2,?_⟩ ?_ ?_ ?_
 ·simp;exact gh [] 0x10001103 [(c8 σ.aX n).length,cg.length,c] 0x11001101104001101101101104002 0x222041915300 0x122041915100 hr aQ
 ·have:=I.fl;simp;exact nk [] 0x10001103 [n,σ.F.length,c] 0x1100110011050011001101101105002 0x222040124f835300 dP 0x122040124f835100 Jf this aQ
 ·intro s h
  exact⟨s,(nR.mp h).1,rfl,rfl,fun h=>by exact fu [σ.synced,s.e,n] eI dP pO lJ hn h aQ⟩
 ·have:(eZ σ.bu n).length<=σ.bu.length:=tZ _ _
  have:=I.Mm
  exact fu [(eZ σ.bu n).length,c,σ.bu.length] eI 0x22104000 pO 0x12104200 (by assumption) this aQ
end
theorem DI:∀ (l:ah (Nat×Nat)),boolsOf (l.map fun _=>(.bool ag:V))=aa (l.map fun _=>ag)
 |[]=>rfl
 |p::l=>by simp only[gv,boolsOf,DI l];rfl
structure HJ (P:iK) (H:Hp) (a:Ad) (σ:Wd):Prop where
 J:pq H a.wr a.f P.B σ.F
 E:H a.e=aa (.bE (σ.aX.map nv))
 A:H a.ak=aa (.bE (σ.bV.map y7))
 S:H a.sv=aa (.bE (σ.bu.map (Jd P)))
 d1:a.f≠a.e
 d2:a.f≠a.ak
 d3:a.f≠a.sv
 d4:a.e≠a.ak
 d5:a.e≠a.sv
 d6:a.ak≠a.sv
section
variable {n:Nat}{H:Hp}{Q:PV}{X:PX}{wa:ax}{fs:ah (Nm×V)}{P:iK}{a:Ad}{σ:Wd}
theorem HJ.ne (G:HJ P H a σ) (h:H wa=aa (.i_ fs)):wa≠a.f/\wa≠a.e/\wa≠a.wr/\wa≠a.ak/\wa≠a.sv:=by
 obtain⟨ps,w2,_⟩:=G.J.fl
 exact⟨aY h w2 nofun,aY h G.E nofun,aY h G.J.at_ nofun,aY h G.A nofun,aY h G.S nofun⟩
theorem HJ.keep {H':Hp} (G:HJ P H a σ) (h:H wa=aa (.i_ fs)) (k:g_ [wa] H H'):HJ P H' a σ:=by
 obtain⟨n1,n2,n3,n4,n5⟩:=G.ne h
 exact⟨G.J.keep k (gq n3.symm) (gq n1.symm),k _ _ (gq n2.symm) G.E,k _ _ (gq n4.symm) G.A,k _ _ (gq n5.symm) G.S,G.d1,G.d2,G.d3,G.d4,G.d5,G.d6⟩
theorem HJ.turn {o:Mo} (G:HJ P H a σ) (h:H wa=aa (.i_ fs)):HJ P (H.set wa o) a σ:=G.keep h (dR (dZ _) (.head _))
theorem YL {C:CC}{L:bZ}{e:E}{xs:ah V}{bs:ah aj} (p:PE C L H e (.bE xs)) (h:boolsOf xs=aa bs):PE C L H (.bc .all (.cons e .nil)) (.bool (bs.all id)):=fun Q X q=>p _ _ ⟨xs,rfl,bs,h,q⟩
theorem NY {L:bZ}{X:fj}{τ:Wd}{s e p:ax}{σs:Sg}{c:Nat} (hP:P.Ok) (h:H wa=aa (.i_ fs)) (D:jy P fs a τ) (G:HJ P H a τ)
  (yF:H s=aa (σs.o e p)) (Ko:H e=aa (.bE (σs.es.map En.v))) (HW:σs.es=ents (P.az+1) τ.now) (Zh:τ.eM=σs.hd.c) (adR:τ.gK=τ.now) (abO:τ.br=τ.now.length) (hc1:P.az<=τ.eM) (hc2:τ.eM<=P.az+τ.now.length) (aeb:τ.app=P.az) (lW:∀ t∈τ.now,t < 2 ^ 32) (hl:τ.now.length<=100)
  (Zl:∀ p∈τ.bV,P.az < p.1/\τ.now[p.1-P.az-1]? =aa p.2) (MU:τ.bV.length<=100) (I:Inv P τ c) (g1:L .xw=aa (.ref wa)) (g2:L .cq=aa (.ref s)):
  wSs (aM (n+8)) ag tW L H (tD P wa c) X:=by
 have l0:=D.len
 have hx:listOf H (.ref e)=aa (dY (P.az+1) τ.now):=by rw[fU Ko,HW];rfl
 have AD:=hP.b2
 refine bo (bQ (aq (ai g1) (aq (aP (ai g2) yF rfl) (aq (aP (ai g2) yF rfl) aE))) (DF (rows:=τ.now) (hd:=σs.hd) hP h (aK l0 (by decide)) ⟨D.B,D.az,D.bt,D.kO⟩ hx lW (aK hl (by decide)) (by rw[<- Zh];exact hc2) fun H3 lg st un L3 h3 n1 n2 n3 K3=>⟨rfl,?_⟩))
 have elg:Lg.Je P τ.now (max P.az σs.hd.c)=τ.lg P:=by
  unfold Lg.Je Wd.lg
  rw[adR,abO,aeb,Zh,BN (by rw[<- Zh];exact hc1)]
 rw[elg] at L3
 have G3:=G.keep h K3
 have T3:jh P H3 wa (cL (cL fs .cV (.ref st)) .xlog (.ref lg)) {a with st:=st,lg:=lg,un:=un} τ:=
  ⟨h3,(D.Oa (x:=st)).aa9 (x:=lg) |> fun D=>⟨D.len,D.B,D.az,D.bt,D.kO,D.cuts,D.b7,D.bh,D.sure,D.now,D.eM,D.app,D.br,D.b8,D.bV,D.file,D.aX,D.writer,D.synced,D.bu,D.fy,D.log⟩,⟨G3.J,G3.E,G3.A,G3.S,L3,G3.d1,G3.d2,G3.d3,G3.d4,G3.d5,G3.d6⟩⟩
 have D3:=T3.D
 refine cy (a9 (dK (eE (aq (ai g1) aE) fun _ _ q=>vS T3 q) rfl (cP (YL (Hn (fun q:Nat×Nat=>[nv q.1,nv q.2]) (fun _=>.bool ag) τ.bV (bp (ai g1) T3.at_ D3.bV) (fU T3.G.A) (aK MU (by decide)) (fun _ _=>rfl) fun q hq=>?_) (DI τ.bV))))) ?_
 ·obtain⟨hq1,hq2⟩:=Zl q hq
  have hqk:=lX hq2
  have:=(Eb (τ.lg P) (q.1-P.az-1) q.2).mpr hq2
  have e1:(τ.lg P).az+1+(q.1-P.az-1)=q.1:=by show P.az+1+_=_;exact gh [] 0x1220000100202 [P.az,q.fst] 0x1100110040011011000110060019001900110007012020110110004001101100110006001100110011000701202001 0x10401200442 rG hq1 aQ
  rw[e1] at this
  have g1':((L.only [.xw]).sets [.dA,.bO] [nv q.1,nv q.2]) .xw=aa (.ref wa):=g1
  exact d_ (bp (ai g1') T3.at_ D3.log) T3.G.L.lg rfl (aq (ai rfl) (aq (ai rfl) aE)) fun _ _ k=>vR (σ:=τ.lg P) (i:=q.1) (t:=q.2) T3.G.L (EN [] 0x1230020000203 [q.fst,τ.now.length,P.az] 0x1100110011050011011000110011070011001100110110110110801202 0x1000000000063001 0x6413100 0xc35023200 0x10501 hl AD hqk aQ) (fH hq1) (by rw[c9 this];exact k)
 ·have:((τ.bV.map fun _=>ag).all id)=ag:=by rw[LF];exact l_.mpr fun _ _=>rfl
  rw[this]
  exact⟨rfl,_,_,τ,I,T3⟩
end
section
variable {n:Nat}{H:Hp}{Q:PV}{X:PX}{wa:ax}{fs:ah (Nm×V)}{P:iK}{a:Ad}{σ:Wd}
theorem C5 {L:bZ}{X:fj}{sv:Sv}{F:ah aA}{aX:ah Nat}{bu:ah Sv}{synced:Nat}{s e p:ax}{σs:Sg}{c:Nat} (hP:P.Ok) (h:H wa=aa (.i_ fs)) (D:jy P fs a {σ with synced:=synced}) (G:HJ P H a (σ.vK P F aX bu synced sv))
  (yF:H s=aa (σs.o e p)) (Ko:H e=aa (.bE (σs.es.map En.v))) (HW:σs.es=ents (P.az+1) sv.rows) (EZ:σs.hd=sv.hd) (I:Inv P (σ.vK P F aX bu synced sv) c)
  (Zl:∀ p∈σ.bV,P.az < p.1/\sv.rows[p.1-P.az-1]? =aa p.2) (g1:L .xw=aa (.ref wa)) (g2:L .cq=aa (.ref s)) (g3:L .f9=aa (.bE (dk (P.az+1) sv.rows))) (g4:L .cO=aa sv.hd.row):
  wSs (aM (n+8)) ag lx L H (tD P wa c) X:=by
 have AD:=hP.b2
 have nw:sv.rows.length<=25:=aK I.nw (by have:=I.cc;exact cw [c] 0x21011020 0x19130002153240 0xb2000 this aQ)
 have sf:=I.safe
 have MS:(dk (P.az+1) sv.rows).length<=line:=by rw[dJ];exact aK nw (by decide)
 have D1:=D.WV (ts:=sv.rows)
 have D2:=D1.Hf (i:=sv.hd.c)
 have D3:=D2.WX (i:=P.az)
 have D4:=D3.JI (i:=sv.rows.length)
 have nsw:s≠wa:=aY yF h nofun
 have new:e≠wa:=aY Ko h nofun
 refine iN (ai g3) (ai g1) h D.lU (gg (sU (k:=2) (u:=nv sv.hd.c) (ai g4) aH rfl (aT rfl)) (ai g1) D1.lU (gg (bp (ai g1) aN D2.az) (ai g1) D2.lU (gg (cX (eX (ai g3) MS) (dJ ..)) (ai g1) D3.lU (gg (bp (ai g1) aN D4.az) (ai g1) D4.lU ?_))))
 exact NY (τ:=σ.vK P F aX bu synced sv) hP aN (D4.zT.same rfl rfl rfl rfl rfl rfl rfl rfl rfl rfl) (G.turn h) (bY nsw yF) (bY new Ko) HW (show sv.hd.c=σs.hd.c by rw[EZ]) rfl rfl sf.c1 sf.c3 rfl (fun t ht=>I.Uz hP (sf.a.b t ht)) (aK nw (by decide)) Zl (aK I.Uc (aK I.cc (by decide))) I g1 g2
end
section
variable {n:Nat}{H:Hp}{Q:PV}{X:PX}{wa:ax}{fs:ah (Nm×V)}{P:iK}{a:Ad}{σ:Wd}
theorem jy.Zm {f e wr sv:ax}{s:Nat} (D:jy P fs a σ):jy P (Zm fs f e wr sv s) {a with f:=f,e:=e,wr:=wr,sv:=sv} {σ with synced:=s}:=
 (((((D.Qb (x:=f)).Ej (x:=e)).Ha (x:=wr)).zS (i:=s)).Ms (x:=sv))
theorem UJ {L:bZ}{X:fj}{sv:Sv}{s e p:ax}{σs:Sg}{c:Nat} (hP:P.Ok) (T:jh P H wa fs a σ) (I:Inv P σ c) (hc:c<=10) (hm:sv∈σ.bu) (Y4:σ.synced<=sv.e)
  (yF:H s=aa (σs.o e p)) (Ko:H e=aa (.bE (σs.es.map En.v))) (HW:σs.es=ents (P.az+1) sv.rows) (EZ:σs.hd=sv.hd)
  (g1:L .xw=aa (.ref wa)) (g2:L .cq=aa (.ref s)) (g3:L .f9=aa (.bE (dk (P.az+1) sv.rows))) (g4:L .cO=aa sv.hd.row):
  wSs (aM (n+8)) ag (.cons (.expr (.bL .sZ (.cons (.aB .xw) (.cons (.aB .f9) (.cons (.aB .cO) .nil))))) .nil) L H (i9 (aM (n+8)) ag lx (tD P wa (c+1)) X) X:=by
 have D:=T.D
 have h:=T.at_
 obtain⟨j1,j2,j3,j4⟩:=I.sv sv hm
 have AD:=hP.b2
 have cc:=I.cc
 have hc3:=j1.c3
 have hh:sv.hd.Ok:=⟨I.Uz hP j3,fq j4 (by decide),by exact YO [sv.hd.c,c,sv.rows.length,P.az] 0x11011011021011050 oa nA 0x100215324200 0xc35023300 0x20304000 hc j2 AD hc3 aQ⟩
 refine bo (bQ (aq (ai g1) (aq (ai g3) (aq (ai g4) aE))) (ye (rows:=sv.rows) (hd:=sv.hd) hP h D.len ⟨D.B,D.az,D.bt,D.kO⟩ hh (fun t ht=>I.Uz hP (j1.a.b t ht)) (fu [sv.rows.length,c] AP 0x6413000 nA lI hc j2 aQ) fun H' f e' wr sva F aX J8 hs8 q1 q2 K nf ne_ nwr nsv hj hF=>⟨rfl,?_⟩))
 have hA:=T.G.A
 obtain⟨n1,n2,n3,n4,n5,n6,n7,n8⟩:=T.ne
 exact bG (bC (C5 (σ:=σ) (sv:=sv) (F:=F) (aX:=aX) (bu:=[⟨F.length,sv.rows,sv.hd⟩]) (synced:=F.length) (σs:=σs) hP J8.at_ D.Zm ⟨J8.W,J8.E,K _ _ (gq n4.symm) hA,hs8,J8.fe,(a_ hA nf).symm,q2,(a_ hA ne_).symm,q1,a_ hA nsv⟩
  (K _ _ (gq (aY yF h nofun)) yF) (K _ _ (gq (aY Ko h nofun)) Ko) HW EZ (I.aem hc hP hm Y4 hj hF hh) (fun p hp=>⟨(I.Jk p hp).1,(I.Jk p hp).2 sv hm Y4⟩) g1 g2 g3 g4))
theorem UI {L:bZ}{X:fj}{sv:Sv}{nn:Nat}{s e p we ws:ax}{σs:Sg}{c:Nat} (hP:P.Ok) (T:jh P H wa fs a σ) (I:Inv P σ c) (hc:c<=10)
  (hn:σ.synced<=nn) (Jf:nn<=σ.F.length) (uW:(eZ σ.bu nn).getLast?=aa sv) (hg:(c8 σ.aX nn).getLast?.getD 0=nn) (hp:((c8 σ.aX nn).filter (sv.e < ·))=[])
  (yF:H s=aa (σs.o e p)) (Ko:H e=aa (.bE (σs.es.map En.v))) (HW:σs.es=ents (P.az+1) sv.rows) (EZ:σs.hd=sv.hd)
  (OB:H we=aa (.bE ((c8 σ.aX nn).map nv))) (Rg:H ws=aa (.bE ((eZ σ.bu nn).map (Jd P)))) (Vo:we≠a.ak) (Vn:ws≠a.ak) (Vm:we≠ws)
  (g1:L .xw=aa (.ref wa)) (g2:L .cq=aa (.ref s)) (g3:L .f9=aa (.bE (dk (P.az+1) sv.rows))) (g4:L .cO=aa sv.hd.row) (g5:L .dX=aa (nv nn)) (g6:L .bq=aa (.bytes (σ.F.take nn))) (g7:L .kA=aa (.ref we)) (g8:L .iA=aa (.ref ws)):
  wSs (aM (n+8)) ag (.cons (.c4 (.aB .xw) .gC (.list ao (.cons (.aB .bq) .nil)))
(.cons (.c4 (.aB .xw) .fw (.new ao .jP (.cons (.key (.aB .xw) .gC) (.cons (.key (.aB .xw) .dC) (.cons (.glob .iM) (.cons (.aB .dX) .nil))))))
(.cons (.c4 (.aB .xw) .km (.aB .kA))
(.cons (.c4 (.aB .xw) .iA (.aB .iA))
(.cons (.c4 (.aB .xw) .iG (.aB .dX))
.nil))))) L H (i9 (aM (n+8)) ag lx (tD P wa (c+1)) X) X:=by
 have D:=T.D
 have h:=T.at_
 obtain⟨hm,Y4⟩:=I.mem hn uW
 have hA:=T.G.A
 obtain⟨n1,n2,n3,n4,n5,n6,n7,n8⟩:=T.ne
 obtain⟨cg,J,hr⟩:=I.jn
 have yG:0 < nn:=by
  have h2:=J.two nn hn
  obtain⟨z,hz⟩:∃ z,(c8 σ.aX nn).getLast?=aa z:=⟨_,Wf (fun q=>by rw[q] at h2;exact absurd h2 (by decide))⟩
  rw[hz] at hg
  have hg:z=nn:=hg
  subst hg
  exact J.jr.gt hP.B1 _ (nR.mp (Bw hz)).1
 have hFl:(σ.F.take nn).length=nn:=by rw[eW];exact dM Jf
 have D1:=fun b:ax=>D.Qb (x:=b)
 refine mL (iI (aq (ai g6) aE) (aT rfl) fun b hb=>Dn (ai g1) (bY (a_ h hb) h) D.lU ?_)
 have nb:=a_ h hb
 refine mL (lV (aq (bp (ai g1) aN ir) (aq (bp (ai g1) aN (D1 b).B) (aq (bw rfl) (aq (cX (i:=(σ.F.take nn).length) (ai g5) hFl.symm) aE)))) rfl fun w hw=>?_)
 have nww:=eY hw aN
 have OA:=lh (.set (.refl _)) nww.symm hw
 have nwb:=eY OA aN
 have hw0:=lh (.set (.refl _)) nwb.symm OA
 refine Iv (w:=w) (f:=b) (B:=P.B) (F:=σ.F.take nn) aN ⟨[σ.F.take nn],bY nwb (bY nb.symm aN),fT _,by rw[hFl];exact yG⟩ ⟨hP.B1,hP.B2⟩ fun Wd=>⟨rfl,?_⟩
 rw[Hp.set_set] at Wd ⊢
 have D2:=(D1 b).Ha (x:=w)
 have D3:=D2.Ej (x:=we)
 have D4:=D3.Ms (x:=ws)
 refine Dn (ai g1) (bY nww aN) (D1 b).lU (gg (ai g7) (ai g1) D2.lU (gg (ai g8) (ai g1) D3.lU (gg (ai g5) (ai g1) D4.lU (bG (bC ?_)))))
 have lk:∀ {o1 o2 o3 o4:Mo} {c o},H c=aa o->c≠wa->((((H.set b o1).set wa o2).set w o3).set wa o4) c=aa o:=fun hc h1=>bY h1 (bY (a_ hc hw0) (bY h1 (bY (a_ hc hb) hc)))
 exact C5 (a:={a with f:=b,e:=we,wr:=w,sv:=ws}) (σ:=σ) (sv:=sv) (F:=σ.F.take nn) (aX:=c8 σ.aX nn) (bu:=eZ σ.bu nn) (synced:=nn) (σs:=σs) hP aN (D4.zS (i:=nn))
  ⟨Wd.keep (S:=[wa]) (dR (dZ _) (.head _)) (gq nww.symm) (gq nb.symm),lk OB (aY OB h nofun),lk hA n4.symm,lk Rg (aY Rg h nofun),(a_ OB hb).symm,(a_ hA hb).symm,(a_ Rg hb).symm,Vo,Vm,Vn.symm⟩
  (lk yF (aY yF h nofun)) (lk Ko (aY Ko h nofun)) HW EZ (I.ael hc hP hn Jf uW hg hp) (fun p hp=>⟨(I.Jk p hp).1,(I.Jk p hp).2 sv hm Y4⟩) g1 g2 g3 g4
end
section
variable {n:Nat}{H:Hp}{Q:PV}{X:PX}{wa:ax}{fs:ah (Nm×V)}{P:iK}{a:Ad}{σ:Wd}
theorem NZ {L:bZ}{X:fj}{sv:Sv}{nn g:Nat}{s e p we ws:ax}{σs:Sg}{c:Nat} (hP:P.Ok) (T:jh P H wa fs a σ) (I:Inv P σ c) (hc:c<=10)
  (hn:σ.synced<=nn) (Jf:nn<=σ.F.length) (uW:(eZ σ.bu nn).getLast?=aa sv) (hg:(c8 σ.aX nn).getLast?.getD 0=g) (Zb:g<=nn) (hpe:σs.pend.length=((c8 σ.aX nn).filter (sv.e < ·)).length)
  (yF:H s=aa (σs.o e p)) (Ko:H e=aa (.bE (σs.es.map En.v))) (hs3:H p=aa (.bE (σs.pend.map En.v))) (HW:σs.es=ents (P.az+1) sv.rows) (EZ:σs.hd=sv.hd)
  (OB:H we=aa (.bE ((c8 σ.aX nn).map nv))) (Rg:H ws=aa (.bE ((eZ σ.bu nn).map (Jd P)))) (Vo:we≠a.ak) (Vn:ws≠a.ak) (Vm:we≠ws)
  (g1:L .xw=aa (.ref wa)) (g2:L .cq=aa (.ref s)) (g3:L .f9=aa (.bE (dk (P.az+1) sv.rows))) (g4:L .cO=aa sv.hd.row) (g5:L .dX=aa (nv nn)) (g6:L .bq=aa (.bytes (σ.F.take nn))) (g7:L .kA=aa (.ref we)) (g8:L .iA=aa (.ref ws)) (g9:L .lB=aa (nv g)):
  wSs (aM (n+8)) ag tX L H (tD P wa (c+1)) X:=by
 obtain⟨hm,Y4⟩:=I.mem hn uW
 have abR:∃ v,PE (aM (n+8)) L H (.b6 ao (.cons (.cB (.aB .lB) .lt (.aB .dX)) (.cons (.cB (.aV (.aB .cq) .ip) .ne (.list ag .nil)) .nil))) v/\truth H v=aa (decide (g < nn∨σs.pend≠[])):=by
  by_cases h:g < nn
  ·exact⟨_,a9 (m_ (gu (ai g9) (ai g5)) (dD h)),(dD h).trans (aW aa (c9 (.inl h)).symm)⟩
  ·refine⟨_,a9 (dK (gu (ai g9) (ai g5)) (cb h) (cP (iH (aP (ai g2) yF rfl) (cG aE (bX _)) (t:=decide (σs.pend.map En.v=[])) (by rw[QO hs3];exact rh 5 _)))),aW aa ?_⟩
   rcases ZS (σs.pend=[]) with q |q
   ·rw[c9 (by rw[q];rfl),dU (fun x=>x.elim h fun y=>y q)];rfl
   ·rw[dU (fun x=>q (T6.mp x)),c9 (.inr q)];rfl
 obtain⟨v,hv,ht⟩:=abR
 refine He hv ht (fun _=>UJ hP T I hc hm Y4 yF Ko HW EZ g1 g2 g3 g4) (fun hF=>?_)
 have h:=Gw hF
 have h1:g=nn:=BL Zb (iD fun q=>h (.inl q))
 have h2:σs.pend=[]:=Yd fun q=>h (.inr q)
 rw[h2] at hpe
 exact UI hP T I hc hn Jf uW (by rw[hg,h1]) (qO.mp hpe.symm) yF Ko HW EZ OB Rg Vo Vn Vm g1 g2 g3 g4 g5 g6 g7 g8
end
theorem AK {α:Type} (f:α->V) (p:α->Prop) [DecidablePred p] (l:ah α):l.filterMap (fun e=>if p e then aa (f e) else au)=(l.filter fun e=>decide (p e)).map f:=by
 induction l with
 |nil=>rfl
 |cons x l ih=>
  by_cases h:p x
  ·rw[X0 (p:=fun e=>decide (p e)) (c9 h)]
   exact(NC (f:=fun e=>if p e then aa (f e) else au) (a8 h)).trans (aW (_:: ·) ih)
  ·rw[XZ (p:=fun e=>decide (p e)) (show ¬ decide (p x)=ag by rw[dU h];nofun)]
   exact(Ta (f:=fun e=>if p e then aa (f e) else au) (bb h)).trans ih
section
variable {n:Nat}{H:Hp}{Q:PV}{X:PX}{wa:ax}{fs:ah (Nm×V)}{P:iK}{a:Ad}{σ:Wd}
theorem N0 {L:bZ}{X:fj}{H0:Hp}{sv:Sv}{nn g:Nat}{s we ws:ax}{σs:Sg}{c:Nat} (hP:P.Ok) (T:jh P H wa fs a σ) (I:Inv P σ c) (hc:c<=10)
  (hn:σ.synced<=nn) (Jf:nn<=σ.F.length) (uW:(eZ σ.bu nn).getLast?=aa sv) (hg:(c8 σ.aX nn).getLast?.getD 0=g) (Zb:g<=nn) (hpe:σs.pend.length=((c8 σ.aX nn).filter (sv.e < ·)).length)
  (hS:gp H0 H s σs) (HW:σs.es=ents (P.az+1) sv.rows) (EZ:σs.hd=sv.hd) (hbi:σs.bi=P.az) (hbt:σs.bt=P.bt) (Zi:σs.cf=aa P.vs) (ad':σs.cnt=(c8 σ.aX nn).length) (h2:2<=σs.cnt) (Pl:σs.pend.length<=1000) (Km:(c8 σ.aX nn).length<=1000)
  (OB:H we=aa (.bE ((c8 σ.aX nn).map nv))) (Rg:H ws=aa (.bE ((eZ σ.bu nn).map (Jd P)))) (Vo:we≠a.ak) (Vn:ws≠a.ak) (Vm:we≠ws)
  (g1:L .xw=aa (.ref wa)) (g2:L .cq=aa (.ref s)) (g3:L .f9=aa (.bE (dk (P.az+1) sv.rows))) (g4:L .cO=aa sv.hd.row) (g5:L .dX=aa (nv nn)) (g6:L .bq=aa (.bytes (σ.F.take nn))) (g7:L .kA=aa (.ref we)) (g8:L .iA=aa (.ref ws)) (g9:L .lB=aa (nv g)) (g10:L .oq=aa (nv sv.e)):
  wSs (aM (n+8)) ag tY L H (tD P wa (c+1)) X:=by
 have hS':=hS
 obtain⟨e,p,hSS⟩:=hS'
 have h:=T.at_
 have D:=T.D
 have yF:=hSS.at_
 obtain⟨hm,Y4⟩:=I.mem hn uW
 obtain⟨j1,j2,j3,j4⟩:=I.sv sv hm
 have j2:sv.rows.length<=25:=aK j2 (by have:=I.cc;exact cw [c] 0x21011020 0x19130002153240 0xa2000 hc aQ)
 refine bo (bH (ai g2) yF rfl aE (Cq hS h2 ⟨rfl,?_⟩))
 refine aR (v:=.tup [nv (c8 σ.aX nn).length,nv P.az,nv P.bt,cfr P.vs,sv.hd.row]) (gF (dw (aq (aP (ai g2) yF rfl) (aq (aP (ai g2) yF rfl) (aq (aP (ai g2) yF rfl) (aq (jX (D:=.hJ) (fs:=cfo P.vs) (gF (v:=cfO σs.cf) (aP (ai g2) yF rfl) (by rw[Zi];rfl)) rfl aE fun _ _ q=>KX hP.v q) (aq (jX (aP (ai g2) yF rfl) rfl aE fun _ _ q=>KV (h:=σs.hd) q) aE))))) (aT rfl)) (by rw[ad',hbi,hbt,EZ])) ?_
 have hwl:((c8 σ.aX nn).map nv).length<=line:=by rw[cF];exact aK Km (by decide)
 have er:∀ (i:Nat) (ts:ah Nat),tI 6 (.bE ((ents i ts).map En.row)) (.bE (dk i ts))=aa ag:=fun i ts=>Eo 3 i ts
 refine bK (a9 (dK (iH (ai rfl) (dw (aq (cX (ox (ai g7) OB hwl) (cF ..)) (aq (bp (ai g1) h D.az) (aq (bp (ai g1) h D.bt) (aq (jX (D:=.hJ) (fs:=cfo P.vs) (bp (ai g1) h D.kO) rfl aE fun _ _ q=>KX hP.v q) (aq (ai g4) aE))))) (aT rfl)) (t:=true) (kH rfl (m8 ib (m8 ib (m8 ib (m8 (Qw 2 P.vs) (m8 (MD 3 sv.hd) rfl))))))) rfl (cP (iH (eE (aq (aP (ai g2) yF rfl) aE) fun _ _ q=>kP (es:=ents (P.az+1) sv.rows) ((fU hSS.es).trans (by rw[HW])) (by rw[fh];exact aK j2 (by decide)) q) (ai g3) (t:=true) (er _ _))))) rfl ?_
 have ha:PE (aM (n+8)) (L.set .Pw (.tup [nv (c8 σ.aX nn).length,nv P.az,nv P.bt,cfr P.vs,sv.hd.row])) H (.comp ag (.aB .mz) ao [.mz] (.aB .kA) (.cB (.aB .mz) .gt (.aB .oq)) [.oq]) (.bE (((c8 σ.aX nn).filter (sv.e < ·)).map nv)):=by
  refine iV (Ho nv (fun e=>if sv.e < e then aa (nv e) else au) (c8 σ.aX nn) (ai g7) (fU OB) (aK Km (by decide)) fun x hx k hk=>RJ rfl (fk (ai rfl) (ai g10)) rfl (ai rfl) ?_) (AK nv (fun e=>sv.e < e) _)
  by_cases q:sv.e < x
  ·rw[a8 q] at hk;rw[c9 q];exact hk
  ·rw[bb q] at hk;rw[dU q];exact hk
 have Jh:(((c8 σ.aX nn).filter (sv.e < ·)).map nv).length=σs.pend.length:=by rw[cF,<- hpe]
 refine bK (ri (cX (ox (aP (ai g2) yF rfl) hSS.pd (by rw[cF];exact aK Pl (by decide))) (cF ..)) (cX (eX ha (by rw[Jh];exact aK Pl (by decide))) Jh)) (mY rfl) ?_
 exact NZ hP T I hc hn Jf uW hg Zb hpe yF hSS.es hSS.pd HW EZ OB Rg Vo Vn Vm g1 g2 g3 g4 g5 g6 g7 g8 g9
end
def Z5 (P:iK) (done:ah Rc) (σs:Sg):Prop:=
 σs.cnt=done.length/\(done=[]->σs=⟨0,0,0,au,⟨0,0,0⟩,[],[]⟩)/\(done≠[]->σs.bi=P.az/\σs.bt=P.bt/\σs.cf=aa P.vs/\runs P.az UW (done.drop 1)=aa (σs.es,σs.hd,σs.pend))
section
variable {n:Nat}{H H0:Hp}{Q:PV}{X:PX}{wa s:ax}{fs:ah (Nm×V)}{P:iK}{a:Ad}{σ:Wd}{σs:Sg}
theorem OR {done rest:ah Rc}{r:Rc} (hP:P.Ok) (S:gp H0 H s σs) (G:Z5 P done σs) (shape:∃ B9 tl,done++r::rest=.f::.h B9::tl) (Kp:(runs P.az UW ((done++r::rest).drop 1)).isSome) (B8:r.Ok) (hl:done.length<=1000)
  (q:∀ H' σ',gp H0 H' s σ'->Z5 P (done++[r]) σ'->Q .none H'):aM (n+9) .eS [.ref s,.bytes (P.bs r)] H Q X:=by
 obtain⟨B9,tl,sh⟩:=shape
 obtain⟨G1,G2,G3⟩:=G
 have hb:=hP.b2
 have ht:=hP.t2
 cases done with
 |nil=>
  have e0:=G2 rfl
  have hr:r=.f:=(SV sh).1
  subst hr e0
  refine Iz (n:=n+1) S rfl (cw [P.az] bJ oa vL hb aQ) (cw [P.bt] bJ oa vL ht aQ) hP.v fun H' S'=>q H' _ S' ?_
  exact⟨rfl,fun h=>by simp at h,fun _=>⟨rfl,rfl,rfl,rfl⟩⟩
 |cons d0 Po=>
  obtain⟨k1,k2,k3,k4⟩:=G3 (by simp)
  have e1:(d0::Po++r::rest).drop 1=Po++r::rest:=rfl
  have k4:runs P.az UW Po=aa (σs.es,σs.hd,σs.pend):=k4
  rw[e1,lC,k4] at Kp
  simp only[pk,runs] at Kp
  have hlen:=Hg (rs:=Po) (es:=[]) (hd:=⟨0,0,0⟩) (pe:=[]) k4
  simp only[jf,xj] at hlen hl G1
  have hdr:∀ r:Rc,(d0::Po++[r]).drop 1=Po++[r]:=fun r=>rfl
  cases r with
  |f=>simp [yy] at Kp
  |e x=>
   have hc:2<=σs.cnt:=by
    cases Po with
    |nil=>simp at sh
    |cons d1 Po=>simp at G1;exact cw [σs.cnt,Po.length] 0x19011020 544 0x12121044002 G1 aQ
   refine AX (n:=n+2) S B8 hc (fu [σs.pend.length,Po.length,σs.es.length] eI 0x1f4023001 0x3e823121040 0x10024002040 hl hlen aQ) fun H' S'=>q H' _ S' ?_
   refine⟨by simp [G1],fun h=>by simp at h,fun _=>⟨k1,k2,k3,?_⟩⟩
   rw[hdr,lC,k4]
   simp only[pk,runs,yy]
  |h d=>
   obtain⟨il,he⟩:∃ il,fb P.az σs.es σs.pend=aa il:=by
    cases h:fb P.az σs.es σs.pend with
    |none=>rw[yy,h] at Kp;simp at Kp
    |some il=>exact⟨il,rfl⟩
   refine vP (h:=d) B8 S (cw [σs.cnt,Po.length] 0x19011020 288 0x12104002 G1 aQ) (fu [σs.es.length,σs.pend.length,Po.length] eI 0x1f4023100041 0x3e823122040 0x20024100040 hl hlen aQ) (.inl ⟨il,by rw[k1];exact he,fun H' S'=>q H' _ S' ?_⟩)
   refine⟨by simp [G1],fun h=>by simp at h,fun _=>⟨k1,k2,k3,?_⟩⟩
   rw[hdr,lC,k4]
   simp only[pk,runs,yy,he,Gg]
end
section
variable {n:Nat}{H:Hp}{Q:PV}{X:PX}{wa:ax}{fs:ah (Nm×V)}{P:iK}{a:Ad}{σ:Wd}
theorem PH {L:bZ}{X:fj}{sv:Sv}{nn g:Nat}{we ws:ax}{c:Nat}{cg:ah Rc} (hP:P.Ok) (T:jh P H wa fs a σ) (I:Inv P σ c) (hc:c<=10)
  (hn:σ.synced<=nn) (Jf:nn<=σ.F.length) (uW:(eZ σ.bu nn).getLast?=aa sv) (hg:(c8 σ.aX nn).getLast?.getD 0=g) (Zb:g<=nn) (J:Jn P cg σ.F σ.aX σ.bu σ.synced σ.gK []) (mC:cg.length<=25*(c+1))
  (OB:H we=aa (.bE ((c8 σ.aX nn).map nv))) (Rg:H ws=aa (.bE ((eZ σ.bu nn).map (Jd P)))) (Vo:we≠a.ak) (Vn:ws≠a.ak) (Vm:we≠ws)
  (g1:L .xw=aa (.ref wa)) (g2:L .iL=aa (.bE (((cg.take (c8 σ.aX nn).length).map P.bs).map .bytes))) (g3:L .f9=aa (.bE (dk (P.az+1) sv.rows))) (g4:L .cO=aa sv.hd.row) (g5:L .dX=aa (nv nn)) (g6:L .bq=aa (.bytes (σ.F.take nn))) (g7:L .kA=aa (.ref we)) (g8:L .iA=aa (.ref ws)) (g9:L .lB=aa (nv g)) (g10:L .oq=aa (nv sv.e)):
  wSs (aM (n+9)) ag vZ L H (tD P wa (c+1)) X:=by
 have h2:=J.two nn hn
 have hlen:=J.As
 have cc:=I.cc
 obtain⟨sv2,pe,f1,f2,f3⟩:=J.Kz nn hn
 rw[uW] at f1
 cases f1
 have Km:(c8 σ.aX nn).length<=σ.aX.length:=tZ _ _
 have hlk:(cg.take (c8 σ.aX nn).length).length=(c8 σ.aX nn).length:=by rw[eW];exact nk [] 0x10001103 [(c8 σ.aX nn).length,cg.length,σ.aX.length] 0x1101101100006001100110000600201900110110190060019001100006002001 770 0x20102 pO hlen Km aQ
 have hsh:∃ B9 tl,cg.take (c8 σ.aX nn).length=.f::.h B9::tl:=by
  obtain⟨B9,rest,e⟩:=J.shape
  obtain⟨k,hk⟩:∃ k,(c8 σ.aX nn).length=k+2:=⟨(c8 σ.aX nn).length-2,by exact gh [] 0x22000101 [(c8 σ.aX nn).length] RN 0x22104002 544 h2 aQ⟩
  refine⟨B9,rest.take k,?_⟩
  rw[e,hk];rfl
 rw[LB] at g2
 refine bM (lV aE rfl fun s hs=>XC hs fun H1 S1=>⟨rfl,?_⟩)
 refine tG (ai g2) rfl (qo (fun r=>.bytes (P.bs r)) (cg.take (c8 σ.aX nn).length) (fun done L1 H1=>∃ σs,(∀ y,y≠.eg->L1 y=(L.set .cq (.ref s)) y)/\gp H H1 s σs/\Z5 P done σs) ⟨_,fun _ _=>rfl,S1,⟨rfl,fun _=>rfl,fun h=>(h rfl).elim⟩⟩ (fun _ _ _ _=>rfl) ?_ ?_)
 ·rintro done r rest L1 H2 e1 ⟨σs,e3,S2,G2⟩
  have S2':=S2
  obtain⟨e,p,SA⟩:=S2'
  have xZ:done.length<=1000:=by
   have:=aW List.length e1
   rw[hlk,bN,jf] at this
   exact nm5 [done.length,c,cg.length,σ.aX.length,(c8 σ.aX nn).length,rest.length] 0x19011019011191011060 ya nA 0x121041915200 0x30202 0x30400 0x12504004402 hc mC hlen Km this aQ
  refine bo (bH (ai (show(L1.set .eg (.bytes (P.bs r))) .cq=aa (.ref s) from e3 _ (by decide))) SA.at_ rfl (aq (ai rfl) aE) (OR (σs:=σs) (done:=done) (rest:=rest) (r:=r) hP S2 G2 (by rw[<- e1];exact hsh) (by rw[<- e1,f2];rfl) (J.ok r (yk (by rw[e1];exact t4 _ (.head _)))) xZ fun H3 σ' S3 G3=>⟨rfl,bG ⟨σ',fun y hy=>(bb hy).trans (e3 y hy),S3,G3⟩⟩))
 ·rintro L1 H2 ⟨σs,e3,S2,G2⟩
  obtain⟨G1,_,G3⟩:=G2
  obtain⟨k1,k2,k3,k4⟩:=G3 (by obtain⟨B9,tl,e⟩:=hsh;rw[e];nofun)
  rw[f2] at k4
  obtain⟨k4,k56⟩:=BB (eH k4)
  obtain⟨k5,k6⟩:=BB k56
  have S2':=S2
  obtain⟨e,p,SA⟩:=S2'
  have l:=SA.le
  have Pl:σs.pend.length<=(c8 σ.aX nn).length:=by rw[<- k6,f3];exact tZ _ _
  have hu1:(c8 σ.aX nn).length<=1000:=by exact YO [(c8 σ.aX nn).length,c,cg.length,σ.aX.length] 0x11019011191011050 ya nA 0x121041915200 0x30202 rI hc mC hlen Km aQ
  exact bC (N0 (n:=n+1) (σs:=σs) hP (T.more l) I hc hn Jf uW hg Zb (by rw[<- k6];exact f3) S2 k4.symm k5.symm k1 k2 k3 (by rw[G1,hlk]) (by rw[G1,hlk];exact h2) (aK Pl hu1) hu1 (l _ _ OB) (l _ _ Rg) Vo Vn Vm
   ((e3 _ (by decide)).trans g1) (e3 _ (by decide)) ((e3 _ (by decide)).trans g3) ((e3 _ (by decide)).trans g4) ((e3 _ (by decide)).trans g5) ((e3 _ (by decide)).trans g6) ((e3 _ (by decide)).trans g7) ((e3 _ (by decide)).trans g8) ((e3 _ (by decide)).trans g9) ((e3 _ (by decide)).trans g10))
end
theorem UX {P:iK} (hP:P.Ok){r:Rc} (h:r.Ok):(P.bs r).length<=100:=by
 have hb:=hP.b2
 have ht:=hP.t2
 cases r with
 |f=>exact AJ (cw [P.az] bJ oa vL hb aQ) (cw [P.bt] bJ oa vL ht aQ) hP.v
 |h d=>exact aK (zv h) (lE [] hM 0x641310130 aQ)
 |e x=>exact aK (zy h) (lE [] hM 0x64132b130 aQ)
section
variable {n:Nat}{H:Hp}{Q:PV}{X:PX}{wa:ax}{fs:ah (Nm×V)}{P:iK}{a:Ad}{σ:Wd}
theorem PI {L:bZ}{X:fj}{sv:Sv}{nn:Nat}{we ws:ax}{c:Nat} (hP:P.Ok) (T:jh P H wa fs a σ) (I:Inv P σ c) (hc:c<=10)
  (hn:σ.synced<=nn) (Jf:nn<=σ.F.length) (uW:(eZ σ.bu nn).getLast?=aa sv)
  (OB:H we=aa (.bE ((c8 σ.aX nn).map nv))) (Rg:H ws=aa (.bE ((eZ σ.bu nn).map (Jd P)))) (Vo:we≠a.ak) (Vn:ws≠a.ak) (Vm:we≠ws)
  (g1:L .xw=aa (.ref wa)) (g3:L .f9=aa (.bE (dk (P.az+1) sv.rows))) (g4:L .cO=aa sv.hd.row) (g5:L .dX=aa (nv nn)) (g6:L .bq=aa (.bytes (σ.F.take nn))) (g7:L .kA=aa (.ref we)) (g8:L .iA=aa (.ref ws)) (g10:L .oq=aa (nv sv.e)):
  wSs (aM (n+9)) ag v5 L H (tD P wa (c+1)) X:=by
 have h:=T.at_
 have D:=T.D
 obtain⟨cg,J,mC⟩:=I.jn
 have cc:=I.cc
 have fl:=I.fl
 have h2:=J.two nn hn
 have hlen:=J.As
 have Km:(c8 σ.aX nn).length<=σ.aX.length:=tZ _ _
 obtain⟨g,hgl⟩:∃ g,(c8 σ.aX nn).getLast?=aa g:=⟨_,Wf (by intro q;rw[q] at h2;simp at h2)⟩
 have hg:(c8 σ.aX nn).getLast?.getD 0=g:=by rw[hgl];rfl
 have Zb:g<=nn:=by have:=(nR.mp (Bw hgl)).2;simpa using this
 have eu:σ.aX.filter (· <=nn)=c8 σ.aX nn:=rfl
 refine kG (bQ (aq (ai g6) (aq (bp (ai g1) h D.B) (aq (bw rfl) aE))) (Ci (cg:=cg.map P.bs) (D:=σ.F) (aX:=σ.aX) (c:=nn) ⟨hP.B1,hP.B2⟩ J.jr Jf (fu [σ.F.length,c] 0x110124f83011030 qJ nA 0x121040124f835000 hc fl aQ) (fun x hx=>?_) (by rw[cF];exact fu [cg.length,c] 0x11191011030 0x186a033000 nA 0x121041915000 hc mC aQ) fun H1 l1=>⟨rfl,?_⟩))
 ·obtain⟨r,hr,rfl⟩:=l9.mp hx
  exact UX hP (J.ok r hr)
 have OA:=l1 _ _ OB
 have lP:((c8 σ.aX nn).map nv).getLast?=aa (nv g):=by rw[TJ,hgl];rfl
 rw[eu,hg,<- sC]
 have hlk:(((cg.take (c8 σ.aX nn).length).map P.bs).map (Vx.bytes:ah aA->V)).length=(c8 σ.aX nn).length:=by rw[cF,cF,eW];exact dM (by rw[hlen];exact Km)
 have hl3:(c8 σ.aX nn).length<=line:=aK Km (by rw[<- hlen];exact aK mC (aK (md 25 (eG hc)) (by decide)))
 refine bK (a9 (dK (kI (ai rfl) (vr (ai g7) OA lP)) (mY rfl) (cP (ri (cX (eX (ai rfl) (by rw[hlk];exact hl3)) hlk) (cX (ox (ai g7) OA (by rw[cF];exact hl3)) (cF ..)))))) (mY rfl) ?_
 exact PH (cg:=cg) (n:=n) (nn:=nn) hP (T.more l1) I hc hn Jf uW hg Zb J mC OA (l1 _ _ Rg) Vo Vn Vm g1 rfl g3 g4 g5 g6 g7 g8 rfl g10
end
section
variable {n:Nat}{H:Hp}{Q:PV}{X:PX}{wa:ax}{fs:ah (Nm×V)}{P:iK}{a:Ad}{σ:Wd}
theorem PK {L:bZ}{X:fj}{nn:Nat}{c:Nat} (hP:P.Ok) (T:jh P H wa fs a σ) (I:Inv P σ c) (hc:c<=10)
  (hn:σ.synced<=nn) (Jf:nn<=σ.F.length)
  (g1:L .xw=aa (.ref wa)) (g5:L .dX=aa (nv nn)) (g6:L .bq=aa (.bytes (σ.F.take nn))):
  wSs (aM (n+9)) ag v7 L H (tD P wa (c+1)) X:=by
 have h:=T.at_
 have D:=T.D
 obtain⟨cg,J,mC⟩:=I.jn
 have cc:=I.cc
 have Mm:=I.Mm
 have hlen:=J.As
 have hE:=T.G.E
 have hS:=T.G.S
 have hA:=T.G.A
 have Km:(c8 σ.aX nn).length<=σ.aX.length:=tZ _ _
 have yE:(eZ σ.bu nn).length<=σ.bu.length:=tZ _ _
 obtain⟨sv,pe,f1,_⟩:=J.Kz nn hn
 have hE5:σ.aX.length<=275:=by rw[<- hlen];exact aK mC (md 25 (eG hc))
 have hV:σ.bu.length<=11:=aK Mm (eG hc)
 have Vy:275<=line:=by decide
 refine bM (wR nv (fun e=>if e<=nn then aa (nv e) else au) σ.aX (bp (ai g1) h D.aX) (fU hE) (aK hE5 Vy) (fun x hx k hk=>RJ rfl (kJ (ai rfl) (ai g5)) rfl (ai rfl) ?_) ?_)
 ·by_cases q:x<=nn
  ·rw[a8 q] at hk;rw[c9 q];exact hk
  ·rw[bb q] at hk;rw[dU q];exact hk
 rw[AK nv (fun e=>e<=nn)]
 refine⟨by rw[cF];exact aK Km (aK hE5 Vy),fun we hwe=>?_⟩
 have nae:=a_ hA hwe
 have l1:H.le (H.set we (.bE ((c8 σ.aX nn).map nv))):=iC hwe
 have T1:=T.more l1
 have hS1:=l1 _ _ hS
 refine bM (wR (Jd P) (fun e:Sv=>if e.e<=nn then aa (Jd P e) else au) σ.bu (bp (ai g1) T1.at_ D.bu) (fU hS1) (aK hV (aK (by decide) Vy)) (fun x hx k hk=>RJ rfl (kJ (sU (k:=0) (u:=nv x.e) (ai rfl) aH rfl (aT rfl)) (ai g5)) rfl (ai rfl) ?_) ?_)
 ·by_cases q:x.e<=nn
  ·rw[a8 q] at hk;rw[c9 q];exact hk
  ·rw[bb q] at hk;rw[dU q];exact hk
 rw[AK (Jd P) (fun e=>e.e<=nn)]
 refine⟨by rw[cF];exact aK yE (aK hV (aK (by decide) Vy)),fun ws Rf=>?_⟩
 have l2:=iC (o:=.bE ((eZ σ.bu nn).map (Jd P))) Rf
 have lP:((eZ σ.bu nn).map (Jd P)).getLast?=aa (Jd P sv):=by rw[TJ,f1];rfl
 have adP:H ws=au:=none_le l1 Rf
 have nww:=eY Rf aN
 refine Od (vr (ai rfl) aN lP) rfl ?_
 exact PI (sv:=sv) hP (T1.more l2) I hc hn Jf f1 (l2 _ _ aN) aN nae.symm (a_ hA adP).symm nww g1 rfl rfl g5 g6 rfl rfl rfl
end
section
variable {n:Nat}{H:Hp}{Q:PV}{X:PX}{wa:ax}{fs:ah (Nm×V)}{P:iK}{a:Ad}{σ:Wd}
theorem PM {L:bZ}{X:fj}{r:Nat}{c:Nat} (hP:P.Ok) (T:jh P H wa fs a σ) (I:Inv P σ c) (hc:c<=10)
  (g1:L .xw=aa (.ref wa)) (g5:L .xr=aa (nv r)) (g6:L .bq=aa (.bytes σ.F)):
  wSs (aM (n+9)) ag v8 L H (tD P wa (c+1)) X:=by
 have h:=T.at_
 have D:=T.D
 obtain⟨cg,J,mC⟩:=I.jn
 have cc:=I.cc
 have fl:=I.fl
 have sf:=J.sf
 have hm:=dE r (show 0 < σ.F.length-σ.synced+1 by exact lT [] vM [σ.F.length,σ.synced] hM 0x12204021 aQ)
 have hl:σ.F.length<=line:=aK fl (aK (md 75000 (eG hc)) (by decide))
 have hle:r % (σ.F.length-σ.synced+1)<=σ.F.length-σ.synced:=xq hm
 have abN:r % (σ.F.length-σ.synced+1)<=σ.F.length:=aK hle (jc ..)
 refine aR (c6 (eA (ai g6) hl) (ej (ai g5) (dO (c6 (eA (ai g6) hl) (bp (ai g1) h D.synced) sf)) (sx _)) abN) ?_
 refine aR (U6 (ai g6) (ai rfl) (jc ..) hl) ?_
 exact PK (nn:=σ.F.length-r % (σ.F.length-σ.synced+1)) hP T I hc (EN [] 0x10020100203 [σ.synced,σ.F.length,r % (σ.F.length-σ.synced+1)] 0x110110000500110000011007001900110001100110801202 rI dP 0x12504201 lJ sf hm abN aQ) (jc ..) g1 rfl rfl
theorem OV {r c:Nat} (hP:P.Ok) (T:jh P H wa fs a σ) (I:Inv P σ c) (hc:c<=10) (q:∀ H',(∃ fs' a' τ,Inv P τ (c+1)/\jh P H' wa fs' a' τ)->Q (.bool ag) H'):aM (n+10) .zt [.ref wa,nv r] H Q X:=by
 have h:=T.at_
 have D:=T.D
 have hF:σ.F.length<=line:=aK I.fl (aK (md 75000 (eG hc)) (by decide))
 obtain⟨ps,w2,w3,w4⟩:=T.G.J.fl
 refine bA rfl (aR gU (tG (bp (ai rfl) h D.file) (fU w2) (qo .bytes ps (fun done L H1=>L .xw=aa (.ref wa)/\L .xr=aa (nv r)/\L .bq=aa (.bytes done.flatten)/\H1=H) ⟨rfl,rfl,rfl,rfl⟩ ?_ ?_ ?_)))
 ·rintro _ _ _ ⟨_,_,_,rfl⟩;exact fU w2
 ·rintro done x rest L H1 e1 ⟨k1,k2,k3,rfl⟩
  have hl:=aW List.length w3
  rw[e1,xA,qA,bN,bN] at hl
  exact aR (zl (ai k3) (ai rfl) (fu [done.flatten.length,x.length,σ.F.length,rest.flatten.length] eI 0x100000043100040 0x100000043200 0x20301040042 hF hl aQ)) (bG ⟨k1,k2,by rw[xA,qA,xo,fT];rfl,rfl⟩)
 ·rintro L H1 ⟨k1,k2,k3,rfl⟩
  rw[w3] at k3
  refine bC (dH (dj _) _ ?_ (fun _ _ _ h=>h) (PM hP T I hc k1 k2 k3))
  rintro o L2 H2 ⟨rfl,hT⟩
  exact q H2 hT
end
noncomputable def cfS:aC (ah Nat)->V
 |none=>.none
 |some vs=>cfr vs
noncomputable def Sg.says (σ:Sg):V:=.tup [nv σ.cnt,.tup [nv σ.bi,nv σ.bt,cfS σ.cf],σ.hd.row,.bE (σ.es.map En.row),.bE (σ.pend.map En.row)]
theorem Vc (n:Nat) (e:En):tI (n+2) e.row e.row=aa ag:=kH rfl (m8 ib (m8 ib (m8 ib (m8 (aW aa (c9 rfl)) rfl))))
theorem z9 (n:Nat):∀ es:ah En,oR (tI (n+2)) (es.map En.row) (es.map En.row)=aa ag
 |[]=>rfl
 |e::es=>m8 (Vc n e) (z9 n es)
theorem YK (n:Nat) (c:aC (ah Nat)):tI (n+3) (cfS c) (cfS c)=aa ag:=by
 cases c with
 |none=>rfl
 |some vs=>exact Qw n vs
theorem U7 (σ:Sg):tI 6 σ.says σ.says=aa ag:=
 kH rfl (m8 ib (m8 (kH rfl (m8 ib (m8 ib (m8 (YK 1 σ.cf) rfl)))) (m8 (MD 3 σ.hd) (m8 (JR rfl (z9 2 σ.es)) (m8 (JR rfl (z9 2 σ.pend)) rfl)))))
section
variable {n:Nat}{H H0:Hp}{Q:PV}{X:PX}{s:ax}{σ:Sg}
theorem A5 (S:gp H0 H s σ) (hv:∀ vs,σ.cf=aa vs->me vs) (h1:σ.es.length<=1000) (h2:σ.pend.length<=1000) (q:Q σ.says H):aM (n+3) .Au [.ref s] H Q X:=by
 obtain⟨e,p,S⟩:=S
 have s1:=S.at_
 have key:∀ {L:bZ},L .cq=aa (.ref s)->L .dq=aa (cfS σ.cf)->wSs (aM (n+2)) ag (.cons (.bz .cx (.tuple (.cons (.aV (.aB .cq) .cD) (.cons (.aV (.aB .cq) .bU) (.cons (.aB .dq) .nil)))))
   (.cons (.ret (.tuple (.cons (.aV (.aB .cq) .eK) (.cons (.aB .cx) (.cons (.bk (.aV (.aB .cq) .cO) .mV .nil) (.cons (.bL .j6 (.cons (.aV (.aB .cq) .aS) .nil)) (.cons (.bL .j6 (.cons (.aV (.aB .cq) .ip) .nil)) .nil))))))) .nil)) L H (Cc Q) (wJ X):=fun g1 g2=>
  aR (dw (aq (aP (ai g1) s1 rfl) (aq (aP (ai g1) s1 rfl) (aq (ai g2) aE))) (aT rfl)) (cy (dw (aq (aP (ai g1) s1 rfl) (aq (ai rfl) (aq (jX (aP (ai g1) s1 rfl) rfl aE fun _ _ q=>KV (h:=σ.hd) q) (aq (eE (aq (aP (ai g1) s1 rfl) aE) fun _ _ q=>kP (fU S.es) h1 q) (aq (eE (aq (aP (ai g1) s1 rfl) aE) fun _ _ q=>kP (fU S.pd) h2 q) aE))))) (aT rfl)) q)
 refine bA rfl (aR iP ?_)
 have Zi:∀ {L:bZ},L .cq=aa (.ref s)->PE (aM (n+2)) L H (.aV (.aB .cq) .dq) (cfO σ.cf):=fun g=>aP (ai g) s1 rfl
 cases hc:σ.cf with
 |none=>
  rw[hc] at Zi key
  exact bK (qg (Zi rfl)) rfl (key rfl rfl)
 |some vs=>
  rw[hc] at Zi key
  exact c5 (YI (D:=.hJ) (fs:=cfo vs) (Zi rfl)) rfl (aR (jX (D:=.hJ) (fs:=cfo vs) (Zi rfl) rfl aE fun _ _ q=>KX (hv vs hc) q) (bG (bC (key rfl rfl))))
def GD (n:Nat) (H0:Hp) (s:ax) (σ:Sg) (r:ah aA):Prop:=∀ (H:Hp) (Q:PV) (X:PX),gp H0 H s σ->(∀ H',gp H0 H' s σ->X .eT H')->aM n .eS [.ref s,.bytes r] H Q X
theorem lq {rs:ah (ah aA)} (S:gp H0 H s σ) (hv:∀ vs,σ.cf=aa vs->me vs) (h1:σ.es.length<=1000) (h2:σ.pend.length<=1000) (hr:∀ r∈rs,GD (n+3) H0 s σ r) (hl:rs.length<=1000)
  (q:∀ H',gp H0 H' s σ->Q (.bool ag) H'):aM (n+4) .lG [.ref s,.bE (rs.map .bytes)] H Q X:=by
 refine bA rfl (aR (eE (aq (ai rfl) aE) fun _ _ q=>A5 S hv h1 h2 q) (tG (ai rfl) rfl (qo .bytes rs (fun done L H1=>L .cq=aa (.ref s)/\L .Ym=aa σ.says/\gp H0 H1 s σ) ⟨rfl,rfl,S⟩ (fun _ _ _ _=>rfl) ?_ ?_)))
 ·rintro done x rest L H1 e1 ⟨k1,k2,S1⟩
  have S1':=S1
  obtain⟨e,p,SA⟩:=S1'
  refine aR fF (Mr (bo (bH (ai k1) SA.at_ rfl (aq (ai rfl) aE) (hr x (by rw[e1];exact t4 _ (.head _)) H1 _ _ S1 fun H2 S2=>⟨rfl,?_⟩))))
  exact bC (bK (lS (ai rfl) rfl) rfl (bG ⟨k1,k2,S2⟩))
 ·rintro L H1 ⟨k1,k2,S1⟩
  exact bC (cy (Qt (eE (aq (ai k1) aE) fun _ _ q=>A5 S1 hv h1 h2 q) (ai k2) (U7 σ)) (q _ S1))
end
section
variable {n:Nat}{H H0:Hp}{Q:PV}{X:PX}{s wa:ax}{σ:Sg}{fs:ah (Nm×V)}
theorem Ref.bad {r:ah aA} (hb:Bad σ.cnt r) (hl:r.length<=1000):GD (n+2) H0 s σ r:=fun H Q X S x=>KN S hb hl (x H S)
theorem Ref.Kt {h:Hd}{x:En} (hh:h.Ok) (hc:1<=σ.cnt) (Y3:σ.es.length+σ.pend.length < 8000) (e:σ.pend=[x]) (hx:gT σ.bi σ.es x=au) (ho:x.Ok):GD (n+9) H0 s σ h.bs:=
 fun H Q X S k=>vP hh S hc Y3 (.inr ⟨x,e,hx,ho,k⟩)
theorem Jv {L:bZ}{X:fj}{t b r:Nat}{hd:Hd}{x0:En}{vs:ah Nat} (S:gp H0 H s ⟨4,b,t,aa vs,hd,[x0],[]⟩){t1:Nat} (hv:me vs) (hh:hd.Ok) (ht:t1 < 2 ^ 32) (hb:b < 2 ^ 31) (h:H wa=aa (.i_ fs)) (kt:eF fs .bO=aa (nv t1))
  (g1:L .xw=aa (.ref wa)) (g2:L .cq=aa (.ref s)) (g3:L .cO=aa (.bytes hd.bs)) (g4:L .cx=aa (nv b)) (g5:L .xr=aa (nv r)):
  wSs (aM (n+10)) ag rV L H (fun o _ _=>o=.ret (.bool ag)) X:=by
 have S':=S
 obtain⟨e,p,SA⟩:=S'
 have wV:([.int 0,.int 3]:ah V)[r % 2]? =aa (nv (3*(r % 2))):=by
  rcases Nat.mod_two_eq_zero_or_one r with h |h<;>rw[h]<;>rfl
 have hr2:r % 2 < 2:=dE _ (by decide)
 have B8:(⟨t1,b+3*(r % 2),0,[]⟩:En).Ok:=⟨ht,show b+3*(r % 2) < 2 ^ 32 by exact gh [] 0x21103102 [b,r] 0x31001101104002 0x100000000533003150041 0x8000000043001 hb aQ,.inl rfl,bX _⟩
 have hn:gT b [x0] ⟨t1,b+3*(r % 2),0,[]⟩=au:=bb fun h=>by
  have h1:b+1<=b+3*(r % 2):=h.1
  have h2:b+3*(r % 2)<=b+1+1:=h.2
  lia
 refine bo (Ay (ai g2) SA.at_ rfl (D7 (bQ (aq (vt (aq (bp (ai g1) h kt) (aq (cS (ai g4) (gG (cG (aq aH (aq aH aE)) (aT rfl)) (ej (j:=2) (ai g5) aH (by decide)) wV (aT rfl))) (aq (bw rfl) (aq gU aE))))) aE) (j8 (e:=⟨t1,b+3*(r % 2),0,[]⟩) B8 fun H1 l1=>?_))))
 refine AX (n:=n+3) (x:=⟨t1,b+3*(r % 2),0,[]⟩) ⟨e,p,SA.more l1⟩ B8 (show 2<=4 by decide) (aT rfl) fun H2 S2=>⟨rfl,gN (bQ (aq (ai g2) (aq (cG (aq (ai g3) aE) (aT rfl)) aE)) (lq (n:=n+6) (rs:=[hd.bs]) S2 (fun v h=>by(injection h with h;subst h);exact hv) (aT rfl) (aT rfl) (fun x hx=>?_) (aT rfl) fun H3 S3=>rfl))⟩
 rw[eR.mp hx]
 exact Ref.Kt (n:=n) hh (show 1<=5 by decide) (aT rfl) rfl hn B8
end
section
variable {n:Nat}{H H0:Hp}{Q:PV}{X:PX}{s wa:ax}{σ:Sg}{fs:ah (Nm×V)}{P:iK}{a:Ad}{w:Wd}
structure EL (P:iK) (t1 r:Nat) (wa s:ax) (L:bZ) (odd:ah aA) (hd:Hd) (x0:En):Prop where
 w:L .xw=aa (.ref wa)
 r:L .xr=aa (nv r)
 az:L .cx=aa (nv P.az)
 odd:L .Jq=aa (.bytes odd)
 fold:L .Mf=aa (.bytes (Mine.fold P.az P.bt P.vs))
 other:L .zI=aa (.bytes (Mine.fold (P.az+1) (P.bt+1) [3]))
 Kt:L .cO=aa (.bytes hd.bs)
 first:L .iB=aa (.bytes x0.bs)
 st:L .cq=aa (.ref s)
structure EO (P:iK) (t1:Nat) (odd:ah aA) (hd:Hd) (x0:En):Prop where
 o:∃ u rs,odd=u::rs/\u≠1/\u≠2/\u≠4/\rs.length<=4
 h:hd.Ok
 x:x0.Ok
 i:x0.i=P.az+1
 t:t1 < 2 ^ 32
theorem EO.bad {t1 c:Nat}{odd:ah aA}{hd:Hd}{x0:En} (E:EO P t1 odd hd x0):Bad c odd/\odd.length<=1000:=by
 obtain⟨u,rs,rfl,h1,h2,h4,hl⟩:=E.o
 exact⟨.inr ⟨u,rs,rfl,.inr (.inr (.inr ⟨h1,h2,h4⟩))⟩,eG (aK hl (by decide))⟩
theorem Bad.nil {c:Nat}:Bad c []:=.inl rfl
theorem v3:me [3]:=⟨XY ..,by decide,fun v h=>by rw[eR.mp h];decide⟩
theorem W5 (hP:P.Ok):(Mine.fold (P.az+1) (P.bt+1) [3]).length<=1000:=
 aK (AJ (cE (eG hP.b2) (by decide)) (cE (eG hP.t2) (by decide)) v3) (by decide)
theorem WN {x0:En} (h:x0.Ok):x0.bs.length<=1000:=aK (zy h) (by decide)
theorem abX {hd:Hd} (h:hd.Ok):hd.bs.length<=1000:=aK (zv h) (by decide)
theorem abl {α:Type}{p:α->Prop}{a b c:α} (h1:p a) (h2:p b) (h3:p c):∀ x∈[a,b,c],p x:=fun x h=>by
 rcases dS.mp h with rfl |h
 ·exact h1
 ·rcases dS.mp h with rfl |h
  ·exact h2
  ·rw[eR.mp h];exact h3
theorem abk {α:Type}{p:α->Prop}{a b c d:α} (h0:p a) (h1:p b) (h2:p c) (h3:p d):∀ x∈[a,b,c,d],p x:=fun x h=>by
 rcases dS.mp h with rfl |h
 ·exact h0
 ·exact abl h1 h2 h3 x h
theorem vB {C:CC}{L:bZ}{H:Hp}{a:E}{Q:PV}{X:PX} (k:wE C a L H (fun x H1=>Got (truth H1 x) fun t=>Q (.bool !t) H1) X):wE C (.kL a) L H Q X:=k
theorem zu {C:CC}{L:bZ}{H:Hp}{a c:E}{kk:aj}{Q:PV}{X:PX} (k:wE C a L H (fun x H1=>Got (truth H1 x) fun t=>cond (t==kk) (wE C c L H1 Q X) (Q x H1)) X):wE C (.b6 kk (.cons a (.cons c .nil))) L H Q X:=k
theorem VR {A B:Prop} (k:A):cond (ao==ao) A B:=k
theorem OH {A B:Prop} (k:B):cond ao A B:=k
theorem Jw {L:bZ}{X:fj}{t1 r:Nat}{odd:ah aA}{hd:Hd}{x0:En} (hP:P.Ok) (S:gp H0 H s ⟨4,P.az,P.bt,aa P.vs,hd,[x0],[]⟩) (E:EO P t1 odd hd x0) (A:EL P t1 r wa s L odd hd x0) (h:H0 wa=aa (.i_ fs)) (kt:eF fs .bO=aa (nv t1)):
  wSs (aM (n+10)) ag rW L H (fun o _ _=>o=.ret (.bool ag)) X:=by
 have hb:=hP.b2
 refine zU (zu (vB (bQ (aq (ai A.st) (aq (cG (aq gU (aq (ai A.odd) (aq (ai A.other) aE))) (aT rfl)) aE)) (lq (n:=n+6) (rs:=[[],odd,_]) S (fun v h=>by(injection h with h;subst h);exact hP.v) (aT rfl) (aT rfl) (abl (Ref.bad .nil (bX _)) (Ref.bad E.bad.1 (E.bad (c:=0)).2) (Ref.bad (.inr ⟨4,_,rfl,.inr (.inr (.inl ⟨sx _,rfl⟩))⟩) (W5 hP))) (aT rfl) fun H3 S3=>⟨ag,rfl,ao,rfl,VR ?_⟩))))
 obtain⟨e,p,SA⟩:=S3
 refine(ri (ox (aP (ai A.st) SA.at_ rfl) SA.es (aT rfl)) (aH (i:=((1:Nat):Int)))) _ _ ⟨_,mY rfl,OH (bG (bC ?_))⟩
 exact Jv ⟨e,p,SA⟩ hP.v E.h E.t (cE hb (by decide)) (SA.le _ _ h) kt A.w A.st A.Kt A.az A.r
theorem Jx {L:bZ}{X:fj}{t1 r:Nat}{odd:ah aA}{hd:Hd}{x0:En} (hP:P.Ok) (S:gp H0 H s ⟨1,P.az,P.bt,aa P.vs,⟨0,0,0⟩,[],[]⟩) (E:EO P t1 odd hd x0) (A:EL P t1 r wa s L odd hd x0) (h:H0 wa=aa (.i_ fs)) (kt:eF fs .bO=aa (nv t1)):
  wSs (aM (n+10)) ag rX L H (fun o _ _=>o=.ret (.bool ag)) X:=by
 obtain⟨e,p,SA⟩:=S
 refine bo (bH (ai A.st) SA.at_ rfl (aq (ai A.Kt) aE) (vP (n:=n+1) E.h ⟨e,p,SA⟩ (bD 1) (aT rfl) (.inl ⟨[],rfl,fun H1 S1=>⟨rfl,?_⟩⟩)))
 obtain⟨e,p,SA⟩:=S1
 refine bo (bH (ai A.st) SA.at_ rfl (aq (ai A.first) aE) (AX (n:=n+3) (x:=x0) ⟨e,p,SA⟩ E.x (bD 2) (aT rfl) fun H2 S2=>⟨rfl,?_⟩))
 obtain⟨e,p,SA⟩:=S2
 have hsa:fb P.az [] [x0]=aa [x0]:=by
  have hi:=E.i
  have:gT P.az [] x0=aa ([].take (x0.i-P.az-1)++[x0]):=a8 ⟨gY hi.symm,gY hi⟩
  rw[xg] at this
  show(gT P.az [] x0).bind _=_
  rw[this];rfl
 exact bo (bH (ai A.st) SA.at_ rfl (aq (ai A.Kt) aE) (vP (n:=n+1) E.h ⟨e,p,SA⟩ (show 1<=3 by decide) (aT rfl) (.inl ⟨[x0],hsa,fun H3 S3=>⟨rfl,Jw hP S3 E A h kt⟩⟩)))
theorem NV {L:bZ}{X:fj}{t1 r:Nat}{odd:ah aA}{hd:Hd}{x0:En} (hP:P.Ok) (S:gp H0 H s ⟨0,0,0,au,⟨0,0,0⟩,[],[]⟩) (E:EO P t1 odd hd x0) (A:EL P t1 r wa s L odd hd x0) (h:H0 wa=aa (.i_ fs)) (kt:eF fs .bO=aa (nv t1)):
  wSs (aM (n+10)) ag tT L H (fun o _ _=>o=.ret (.bool ag)) X:=by
 have hb:=hP.b2
 have ht:=hP.t2
 obtain⟨e,p,SA⟩:=S
 refine bo (bH (ai A.st) SA.at_ rfl (aq (ai A.fold) aE) (Iz (n:=n+2) ⟨e,p,SA⟩ rfl (cE hb (by decide)) (cE ht (by decide)) hP.v fun H1 S1=>⟨rfl,?_⟩))
 have S1:gp H0 H1 s ⟨1,P.az,P.bt,aa P.vs,⟨0,0,0⟩,[],[]⟩:=S1
 refine zU (vB (bQ (aq (ai A.st) (aq (cG (aq gU (aq (ai A.odd) (aq (ai A.other) (aq (ai A.first) aE)))) (aT rfl)) aE)) (lq (n:=n+6) (rs:=[[],odd,_,_]) S1 (fun v h=>by(injection h with h;subst h);exact hP.v) (aT rfl) (aT rfl) (abk (Ref.bad .nil (bX _)) (Ref.bad E.bad.1 (E.bad (c:=0)).2) (Ref.bad (.inr ⟨4,_,rfl,.inr (.inl ⟨rfl,by decide⟩)⟩) (W5 hP)) (Ref.bad (.inr ⟨2,_,rfl,.inr (.inl ⟨rfl,by decide⟩)⟩) (WN E.x))) (aT rfl) fun H3 S3=>⟨ag,rfl,ao,rfl,OH (bG (bC (Jx hP S3 E A h kt)))⟩)))
end
section
variable {n:Nat}{H H0:Hp}{Q:PV}{X:PX}{s wa:ax}{σ:Sg}{fs:ah (Nm×V)}{P:iK}{a:Ad}{w:Wd}
theorem NW {L:bZ}{X:fj}{t1 r:Nat}{odd:ah aA}{hd:Hd}{x0:En} (hP:P.Ok) (E:EO P t1 odd hd x0) (h:H wa=aa (.i_ fs)) (kt:eF fs .bO=aa (nv t1))
  (g1:L .xw=aa (.ref wa)) (g2:L .xr=aa (nv r)) (g3:L .cx=aa (nv P.az)) (g4:L .Jq=aa (.bytes odd)) (g5:L .Mf=aa (.bytes (fold P.az P.bt P.vs))) (g6:L .zI=aa (.bytes (fold (P.az+1) (P.bt+1) [3]))) (g7:L .cO=aa (.bytes hd.bs)) (g8:L .iB=aa (.bytes x0.bs)):
  wSs (aM (n+10)) ag tU L H (fun o _ _=>o=.ret (.bool ag)) X:=by
 refine bM (lV aE rfl fun s hs=>XC hs fun H1 S1=>⟨rfl,zU (vB (bQ (aq (ai rfl) (aq (cG (aq gU (aq (ai g4) (aq (ai g7) (aq (ai g8) aE)))) (aT rfl)) aE)) (lq (n:=n+6) (rs:=[[],odd,_,_]) S1 nofun (aT rfl) (aT rfl) (abk (Ref.bad .nil (bX _)) (Ref.bad E.bad.1 (E.bad (c:=0)).2) (Ref.bad (.inr ⟨1,_,rfl,.inl ⟨rfl,by decide⟩⟩) (abX E.h)) (Ref.bad (.inr ⟨2,_,rfl,.inl ⟨rfl,by decide⟩⟩) (WN E.x))) (aT rfl) fun H3 S3=>⟨ag,rfl,ao,rfl,OH (bG (bC (NV hP S3 E ⟨g1,g2,g3,g4,g5,g6,g7,g8,rfl⟩ h kt)))⟩)))⟩)
theorem NX {L:bZ}{X:fj}{r c:Nat}{odd:ah aA} (hP:P.Ok) (T:jh P H wa fs a w) (I:Inv P w c) (ho:∃ u rs,odd=u::rs/\u≠1/\u≠2/\u≠4/\rs.length<=4)
  (g1:L .xw=aa (.ref wa)) (g2:L .xr=aa (nv r)) (g3:L .cx=aa (nv P.az)) (g4:L .Jq=aa (.bytes odd)):
  wSs (aM (n+10)) ag tV L H (fun o _ _=>o=.ret (.bool ag)) X:=by
 have h:=T.at_
 have D:=T.D
 have hb:=cE hP.b2 (show 50000 < 2 ^ 32 by decide)
 have Zk:=cE (eG hP.b2) (show 50001 < 2 ^ 32 by decide)
 have ht:=cE hP.t2 (show 50000 < 2 ^ 32 by decide)
 have ht1:=cE (eG hP.t2) (show 50001 < 2 ^ 32 by decide)
 have t2:=I.Uz hP (bD _)
 have hh:(⟨w.b7,0,P.az⟩:Hd).Ok:=⟨t2,show 0 < 2 ^ 32 by decide,hb⟩
 have hx:(⟨w.b7,P.az+1,0,[]⟩:En).Ok:=⟨t2,Zk,.inl rfl,bX _⟩
 refine bM (bQ (aq (ai g3) (aq (bp (ai g1) h D.bt) (aq (bp (ai g1) h D.kO) aE))) (o7 (n:=n+4) hb ht hP.v fun H1 l1=>?_))
 have h1:=l1 _ _ h
 refine bM (bQ (aq (dO (ai g3)) (aq (dO (bp (ai g1) h1 D.bt)) (aq (Eu (n:=n+8) (x:=.bE [.int 3]) v3 rfl (aq (cG (aq aH aE) (aT rfl)) (aq (cG aE (bX _)) (aq (cG aE (bX _)) (aq (cG aE (bX _)) (aq fF aE)))))) aE))) (o7 (n:=n+4) Zk ht1 v3 fun H2 l2=>?_))
 have h2:=l2 _ _ h1
 refine bM (bQ (aq (oy (aq (bp (ai g1) h2 D.b7) (aq aH (aq (ai g3) aE)))) aE) (o6 (n:=n+6) (h:=⟨w.b7,0,P.az⟩) hh fun H3 l3=>?_))
 have h3:=l3 _ _ h2
 refine bM (bQ (aq (vt (aq (bp (ai g1) h3 D.b7) (aq (dO (ai g3)) (aq (bw rfl) (aq gU aE))))) aE) (j8 (n:=n+5) (e:=⟨w.b7,P.az+1,0,[]⟩) hx fun H4 l4=>?_))
 exact NW (n:=n) (t1:=w.b7) (x0:=⟨w.b7,P.az+1,0,[]⟩) (hd:=⟨w.b7,0,P.az⟩) hP ⟨ho,hh,hx,rfl,t2⟩ (l4 _ _ h3) D.b7 g1 g2 g3 g4 rfl rfl rfl rfl
theorem KU {r c:Nat} (hP:P.Ok) (T:jh P H wa fs a w) (I:Inv P w c) (q:∀ H',Q (.bool ag) H'):aM (n+11) .Av [.ref wa,nv r] H Q X:=by
 have h:=T.at_
 have D:=T.D
 have hm:=dE r (show 0 < 251 by decide)
 obtain⟨v,hv,VH⟩:∃ v:Nat,([.int 0,.int 3,nv (5+r % 251)]:ah V)[r / 251 % 3]? =aa (nv v)/\v<=255/\v≠1/\v≠2/\v≠4:=by
  have:r / 251 % 3 < 3:=dE _ (by decide)
  match r / 251 % 3,this with
  | 0,_=>exact⟨0,rfl,by decide⟩
  | 1,_=>exact⟨3,rfl,by decide⟩
  | 2,_=>exact⟨5+r % 251,rfl,by exact gh [] 0xfb1003101 [r] 0x11000000600410000110000006004103100001100000500310210110110030001 0x42205242622205242671220524267ff132052407 0xfb13201 hm aQ⟩
 have adZ:octets [((v:Nat):Int),0,0,0,0]=aa [UInt8.ofNat v,0,0,0,0]:=by
  unfold octets
  rw[a8 ⟨gw _,by exact cw [v] oZ AV 0x42002622002671200267ff130007 VH aQ⟩];rfl
 have ne:∀ k:Nat,k<=255->v≠k->UInt8.ofNat v≠UInt8.ofNat k:=fun k hk hvk q=>by
  have:=aW UInt8.toNat q
  rw[ofNat_toNat (uQ VH.1),ofNat_toNat (uQ hk)] at this
  exact hvk this
 refine bA rfl (aR (bp (ai rfl) h D.az) (aR (oz (is:=[(v:Int),0,0,0,0]) (cG (aq (gG (cG (aq aH (aq aH (aq (cS (k:=5) aH (ej (j:=251) (ai rfl) aH (by decide))) aE))) (aT rfl)) (ej (j:=3) (fg (j:=251) (ai rfl) aH (by decide) (by decide)) aH (by decide)) hv (aT rfl)) (aq aH (aq aH (aq aH (aq aH aE))))) (aT rfl)) rfl adZ (aT rfl)) ?_))
 refine dH (dj _) _ ?_ (fun _ _ _ h=>h) (NX (n:=n) (r:=r) hP T I ⟨UInt8.ofNat v,[0,0,0,0],rfl,ne 1 (by decide) VH.2.1,ne 2 (by decide) VH.2.2.1,ne 4 (by decide) VH.2.2.2,bD 4⟩ rfl rfl rfl rfl)
 rintro o L2 H2 rfl
 exact q H2
end
section
variable {n:Nat}{H:Hp}{Q:PV}{X:PX}{wa:ax}{fs:ah (Nm×V)}{P:iK}{a:Ad}{σ:Wd}{c:Nat}
theorem Ep {C:CC}{L:bZ}{H:Hp}{e c:E}{k j:Nat} (p:PE C L H e (.int k)) (q:PE C L H c (.int j)) (h1:small k) (h2:small j):PE C L H (.bR .mul e c) (.int (k*j:Nat)):=eV (Er p q h1 h2) rfl
theorem nC {ns:ah Nat}{i:Nat} (hn:ns≠[]) (hl:ns.length<=12) (hb:∀ x∈ns,x < 1000000) (hi:i<=20) (q:∀ v:Nat,v < 2 ^ 30->Q (nv v) H):aM (n+1) .pG [.bE (ns.map nv),.int i] H Q X:=by
 have hp:0 < ns.length:=qB.mpr hn
 have hm:=dE i hp
 have hd:i / ns.length<=20:=aK (To _ _) hi
 obtain⟨v,hv⟩:∃ v,ns[i % ns.length]? =aa v:=⟨_,lK hm⟩
 have VH:=hb v (Bx hv)
 have hg:(ns.map nv)[i % ns.length]? =aa (nv v):=by rw[BP,hv];rfl
 have lP:(ns.map nv).length<=line:=by rw[cF];exact aK hl (by decide)
 have hlen:∀ {L},L .i8=aa (.bE (ns.map nv))->PE (aM n) L H (.bc .len (.cons (.aB .i8) .nil)) (nv ns.length):=fun h=>cX (eX (ai h) lP) (cF ..)
 refine bA rfl (cy (cS (gG (ai rfl) (ej (ai rfl) (hlen rfl) hp) hg lP) (Ep (k:=7919) aH (fg (ai rfl) (hlen rfl) hp (cE hl (by decide))) (G7 (by decide)) (G7 (cE hd (by decide))))) (q _ ?_))
 exact ma (Nat.add_lt_add_of_lt_of_le VH (md 7919 hd)) (by decide)
def WI (P:iK) (wa:ax) (c:Nat) (H:Hp):Prop:=∃ fs a σ,Inv P σ c/\jh P H wa fs a σ
theorem zV {r:Nat} (hP:P.Ok) (T:WI P wa c H) (hc:c<=10) (q:∀ H',WI P wa (c+1) H'->Q (.bool ag) H'):aM (n+7) .nt [.ref wa,nv r] H Q X:=by
 obtain⟨fs,a,σ,I,T⟩:=T
 exact Fq hP T I hc fun H' fs' T'=>q H' ⟨_,_,_,I.append hc r,T'⟩
theorem JH {r:Nat} (hP:P.Ok) (T:WI P wa c H) (hc:c<=10) (q:∀ H',WI P wa (c+1) H'->Q (.bool ag) H'):aM (n+6) .ru [.ref wa,nv r] H Q X:=by
 obtain⟨fs,a,σ,I,T⟩:=T
 exact KR hP T I hc fun H' h=>q H' (by obtain⟨fs',a',τ,I',T'⟩:=h;exact⟨_,_,_,I',T'⟩)
theorem WW {r:Nat} (hP:P.Ok) (T:WI P wa c H) (hc:c<=10) (q:∀ H',WI P wa (c+1) H'->Q (.bool ag) H'):aM (n+10) .zt [.ref wa,nv r] H Q X:=by
 obtain⟨fs,a,σ,I,T⟩:=T
 exact OV hP T I hc fun H' h=>q H' (by obtain⟨fs',a',τ,I',T'⟩:=h;exact⟨_,_,_,I',T'⟩)
theorem UT {r:Nat} (hP:P.Ok) (T:WI P wa c H) (q:∀ H',WI P wa c H'->Q .none H'):aM (n+4) .wQ [.ref wa,.int r] H Q X:=by
 obtain⟨fs,a,σ,I,T⟩:=T
 have:=hP.b1
 exact IF T (cw [P.az] bJ 288 544 this aQ) fun H' fs' i T' _ _=>q H' ⟨_,_,{σ with app:=i},⟨I.cc,I.jn,I.fl,I.ld,I.nw,I.t1,I.t2,I.lt,I.s1,I.s2,I.safe,I.sv,I.Jk,I.Uc,I.Mm,I.new⟩,T'⟩
theorem Qc (T:WI P wa c H) (q:Q (.bool ag) H):aM (n+8) .ql [.ref wa] H Q X:=by
 obtain⟨fs,a,σ,I,T⟩:=T
 exact vS T q
theorem Ej {r:Nat} (hP:P.Ok) (T:WI P wa c H) (q:∀ H',Q (.bool ag) H'):aM (n+11) .Av [.ref wa,nv r] H Q X:=by
 obtain⟨fs,a,σ,I,T⟩:=T
 exact KU hP T I q
theorem WI.up (T:WI P wa c H){d:Nat} (h:c<=d) (hd:d<=11):WI P wa d H:=by
 obtain⟨fs,a,σ,I,T⟩:=T
 obtain⟨cc,⟨cg,J,hr⟩,fl,ld,nw,t1,t2,lt,s1,s2,safe,sv,Jk,Uc,Mm,new⟩:=I
 exact⟨fs,a,σ,⟨hd,⟨cg,J,by exact fu [cg.length,d,c] 0x11191011030 0x121041915000 lJ 0x122041915000 h hr aQ⟩,by exact fu [σ.F.length,d,c] 0x110124f83011030 0x121040124f835000 lJ 0x122040124f835000 h fl aQ,by exact fu [σ.bh.length,d,c] AP lI lJ Il h ld aQ,by exact fu [σ.now.length,d,c] AP lI lJ Il h nw aQ,t1,by exact fu [σ.b7,P.bt,d,c] AP 0x200215121044000 tM 0x300215121044000 h t2 aQ,lt,s1,s2,safe,fun s hs=>by obtain⟨k1,k2,k3⟩:=sv s hs;exact⟨k1,by exact fu [s.rows.length,d,c] AP lI lJ Il h k2 aQ,k3⟩,Jk,by exact fu [σ.bV.length,d,c] eI dP lJ pO h Uc aQ,by exact fu [σ.bu.length,d,c] eI pR lJ 0x12204000 h Mm aQ,by exact fu [σ.b8,P.az,d,c] AP 0x200215321044000 tM 0x300215321044000 h new aQ⟩,T⟩
end
section
variable {C:CC}{L:bZ}{H:Hp}{e c:E}{A B:Prop} [cN A] [cN B]
theorem Qn (p:PE C L H e (.bool (decide A))) (q:PE C L H c (.bool (decide B))):PE C L H (.b6 ao (.cons e (.cons c .nil))) (.bool (decide (A∨B))):=by
 by_cases h:A
 ·exact gF (a9 (m_ p (dD h))) (by rw[c9 h,c9 (Or.inl h)])
 ·exact gF (a9 (dK p (cb h) (cP q))) (aW Vx.bool (kW.mpr ⟨.inr,fun x=>x.resolve_left h⟩))
theorem Ve (p:PE C L H e (.bool (decide A))) (q:PE C L H c (.bool (decide B))):PE C L H (.b6 ag (.cons e (.cons c .nil))) (.bool (decide (A/\B))):=by
 by_cases h:A
 ·exact gF (a9 (dK p (dD h) (cP q))) (aW Vx.bool (kW.mpr ⟨fun x=>⟨h,x⟩,fun x=>x.2⟩))
 ·exact gF (a9 (jl p (cb h))) (by rw[dU h,dU fun x=>h x.1])
end
section
variable {n:Nat}{H:Hp}{Q:PV}{X:PX}{wa:ax}{fs:ah (Nm×V)}{P:iK}{a:Ad}{σ:Wd}{c:Nat}
def AL (ns:ah Nat) (P:iK) (wa:ax) (z c:Nat) (L:bZ) (H:Hp):Prop:=L .xw=aa (.ref wa)/\L .i8=aa (.bE (ns.map nv))/\L .xz=aa (nv z)/\WI P wa c H
theorem WI.cuts (T:jh P H wa fs a σ) (I:Inv P σ c) (k:Nat):WI P wa c (H.set wa (.i_ (cL fs .qF (nv k)))):=
 ⟨_,a,{σ with cuts:=k},⟨I.cc,I.jn,I.fl,I.ld,I.nw,I.t1,I.t2,I.lt,I.s1,I.s2,I.safe,I.sv,I.Jk,I.Uc,I.Mm,I.new⟩,aN,T.D.Yx,wq.same (σ:=σ) (T.G.ZQ T) rfl rfl rfl rfl rfl⟩
theorem PG {L:bZ}{X:fj}{ns:ah Nat}{i z:Nat} (hi:i < 6) (hn:ns≠[]) (hl:ns.length<=12) (hb:∀ x∈ns,x < 1000000) (hP:P.Ok) (A:AL ns P wa z c L H) (hc:c<=10) (g3:L .xi=aa (.int i)):
  wSs (aM (n+11)) ao IU L H (fun o L1 H1=>o=.next/\AL ns P wa z (c+1) L1 H1) X:=by
 obtain⟨g1,g2,g4,T⟩:=A
 refine bM (bQ (aq (ai g2) (aq (cS (k:=3) aH (ai g3)) aE)) (nC (n:=n+10) hn hl hb (cw [i] bJ 0x1413003240 0x62001 hi aQ) fun v hv=>?_))
 refine aR (fg (j:=8) (ai rfl) aH (by decide) (by decide)) (aR (ej (j:=8) (ai rfl) aH (by decide)) (aR fF ?_))
 have T':=T
 obtain⟨fs,a,σ,I,Wd⟩:=T'
 have h:=Wd.at_
 have D:=Wd.D
 generalize v % 8=m
 generalize v / 8=r
 have fin:∀ {L':bZ}{H':Hp},L' .xw=aa (.ref wa)->L' .i8=aa (.bE (ns.map nv))->L' .xz=aa (nv z)->L' .lB=aa (.bool ag)->WI P wa (c+1) H'->wSs (aM (n+11)) ao yj L' H' (fun o L1 H1=>o=.next/\AL ns P wa z (c+1) L1 H1) X:=
  fun k1 k2 k3 k4 k5=>bK (lS (ai k4) rfl) rfl (bG ⟨rfl,k1,k2,k3,k5⟩)
 refine q_ (Ve (Qn (fE (j:=1) (ai rfl) aH) (fE (j:=7) (ai rfl) aH)) (fk (j:=0) (bp (ai g1) h D.cuts) aH)) (fun hA=>?_) fun _=>q_ (Qn (fE (j:=2) (ai rfl) aH) (fE (j:=4) (ai rfl) aH)) (fun _=>?_) fun _=>q_ (fE (j:=6) (ai rfl) aH) (fun _=>?_) fun _=>?_
 ·refine Ob (ai g1) h D.cuts aH D.lU ?_
  have ec:((σ.cuts:Nat):Int)-1=((σ.cuts-1:Nat):Int):=(LI (show 1<=σ.cuts from hA.2)).symm
  rw[ec]
  exact bM (bQ (aq (ai g1) (aq (ai rfl) aE)) (WW (n:=n+1) (r:=r) hP (WI.cuts Wd I _) hc fun H' T'=>bG (bC (fin g1 g2 g4 rfl T'))))
 ·exact bM (bQ (aq (ai g1) (aq (ai rfl) aE)) (JH (n:=n+5) (r:=r) hP T hc fun H' T'=>bG (bC (bG (bC (fin g1 g2 g4 rfl T'))))))
 ·exact bo (bQ (aq (ai g1) (aq (ai rfl) aE)) (UT (n:=n+7) (r:=r) hP T fun H' T'=>⟨rfl,bG (bC (bG (bC (bG (bC (fin g1 g2 g4 rfl (T'.up (F5 c) (eG hc))))))))⟩))
 ·exact bM (bQ (aq (ai g1) (aq (ai rfl) aE)) (zV (n:=n+4) (r:=r) hP T hc fun H' T'=>bG (bC (bG (bC (bG (bC (fin g1 g2 g4 rfl T'))))))))
end
section
variable {n:Nat}{H:Hp}{Q:PV}{X:PX}{wa:ax}{fs:ah (Nm×V)}{P:iK}{a:Ad}{σ:Wd}{c:Nat}
theorem NQ {L:bZ}{X:fj}{ns:ah Nat}{z:Nat} (hn:ns≠[]) (hl:ns.length<=12) (hb:∀ x∈ns,x < 1000000) (hP:P.Ok) (A:AL ns P wa z 8 L H):
  wSs (aM (n+11)) ag DM L H (fun o L1 H1=>o=.ret (.bool ag)) X:=by
 obtain⟨g1,g2,g4,T⟩:=A
 refine bM (bQ (aq (ai g2) (aq (aH (i:=((9:Nat):Int))) aE)) (nC (n:=n+10) (i:=9) hn hl hb (by decide) fun v hv=>?_))
 refine zU (zu (vB (bQ (aq (ai g1) (aq (ai rfl) aE)) (JH (n:=n+5) (r:=v) hP T (by decide) fun H1 T1=>⟨ag,rfl,ao,rfl,VR (vB (bQ (aq (ai g1) (aq (fg (j:=2) (ai rfl) aH (by decide) (by decide)) aE)) (WW (n:=n+1) (r:=v / 2) hP T1 (by decide) fun H2 T2=>⟨ag,rfl,ao,rfl,OH (bG (bC ?_))⟩)))⟩))))
 refine zU (zu (vB (bQ (aq (ai g1) (aq (fg (j:=7) (ai rfl) aH (by decide) (by decide)) aE)) (zV (n:=n+4) (r:=v / 7) hP T2 (by decide) fun H3 T3=>⟨ag,rfl,ao,rfl,VR (vB (bQ (aq (ai g1) aE) (Qc (n:=n+3) T3 ⟨ag,rfl,ao,rfl,OH (bG (bC ?_))⟩)))⟩))))
 exact gN (bQ (aq (ai g1) (aq (ai g4) aE)) (Ej hP T3 fun H'=>rfl))
theorem NR {L:bZ}{X:fj}{ns:ah Nat}{z:Nat} (hn:ns≠[]) (hl:ns.length<=12) (hb:∀ x∈ns,x < 1000000) (hP:P.Ok) (A:AL ns P wa z 2 L H):
  wSs (aM (n+11)) ag DN L H (fun o L1 H1=>o=.ret (.bool ag)) X:=by
 refine ze (aH (i:=((6:Nat):Int))) (by decide) (by decide) (E9 6 rfl (fun k L H=>AL ns P wa z (2+k) L H) A ?_ ?_)
 ·rintro m L H hm ⟨g1,g2,g4,T⟩
  refine dH (dj _) _ ?_ (fun _ _ _ h=>h) (PG (n:=n) (i:=m) (c:=2+m) (wa:=wa) (z:=z) (L:=L.set .xi (.int m)) hm hn hl hb hP ⟨g1,g2,g4,T⟩ (cw [m] bJ 0xa2002240 0x62001 hm aQ) rfl)
  rintro o L1 H1 ⟨rfl,A1⟩
  exact A1
 ·rintro L H A
  exact bC (NQ hn hl hb hP A)
end
section
variable {n:Nat}{H:Hp}{Q:PV}{X:PX}{wa:ax}{fs:ah (Nm×V)}{P:iK}{a:Ad}{σ:Wd}{c:Nat}
theorem NS {L:bZ}{X:fj}{ns:ah Nat}{z:Nat} (hz:z < 2 ^ 30) (hn:ns≠[]) (hl:ns.length<=12) (hb:∀ x∈ns,x < 1000000) (hP:P.Ok) (T:jh P H wa fs a σ) (I:Inv P {σ with bh:=List.replicate 3 σ.b7} 0)
  (g1:L .xw=aa (.ref wa)) (g2:L .i8=aa (.bE (ns.map nv))) (g3:L .xz=aa (nv z)) (g4:L .cx=aa (nv P.az)):
  wSs (aM (n+11)) ag DO L H (fun o L1 H1=>o=.ret (.bool ag)) X:=by
 have h:=T.at_
 have D:=T.D
 have ht:σ.b7 < 2 ^ 32:=I.Uz hP (bD _)
 refine iN (y:=.bE (dk (P.az+1) (List.replicate 3 σ.b7))) (eE (aq (bp (ai g1) h D.b7) (aq (dO (ai g4)) (aq (aH (i:=((3:Nat):Int))) aE))) fun _ _ q=>uF (n:=n+10) (c:=3) ht (cE (eG hP.b2) (by decide)) (by decide) q) (ai g1) h D.lU ?_
 have W0:WI P wa 0 (H.set wa (.i_ (cL fs .ji (.bE (dk (P.az+1) (List.replicate 3 σ.b7)))))):=⟨_,a,{σ with bh:=List.replicate 3 σ.b7},I,aN,D.P_,wq.same (σ:=σ) (T.G.ZQ T) rfl rfl rfl rfl rfl⟩
 have z1:z % 997 < 2 ^ 40:=ma (dE z (by decide)) (by decide)
 have z2:z / 997 < 2 ^ 40:=cE (To ..) (fq hz (by decide))
 refine zU (zu (vB (bQ (aq (ai g1) (aq (cS (k:=1) aH (Ep (k:=12) aH (ej (j:=997) (ai g3) aH (by decide)) (G7 (by decide)) (G7 z1))) aE)) (zV (n:=n+4) (r:=1+12*(z % 997)) hP W0 (by decide) fun H1 T1=>⟨ag,rfl,ao,rfl,VR (vB (bQ (aq (ai g1) (aq (Ep (k:=2) aH (fg (j:=997) (ai g3) aH (by decide) (by decide)) (G7 (by decide)) (G7 z2)) aE)) (JH (n:=n+5) (r:=2*(z / 997)) hP T1 (by decide) fun H2 T2=>⟨ag,rfl,ao,rfl,OH (bG (bC ?_))⟩)))⟩))))
 exact NR hn hl hb hP ⟨g1,g2,g3,T2⟩
noncomputable def fs0 (P:iK) (cuts:Nat) (ak:ax):ah (Nm×V):=[(.cx,nv P.az),(.bU,nv P.bt),(.dC,nv P.B),(.qF,nv cuts),(.dq,Nc P.vs),(.bO,nv (P.bt+1)),(.ji,.bE []),(.tE,nv P.az),(.iq,.bE []),(.b5,nv P.az),(.d9,nv P.az),(.lA,nv 0),(.fY,nv P.az),(.mX,.ref ak)]
noncomputable def Wd.zero (P:iK) (cuts:Nat) (F:ah aA) (aX:ah Nat) (bh:ah Nat):Wd:=⟨cuts,P.bt+1,P.az,P.az,bh,[],[],0,P.az,P.az,[],F,aX,[⟨F.length,[],⟨P.bt,0,P.az⟩⟩],F.length⟩
theorem Inv.zero (hP:P.Ok){cuts:Nat}{F:ah aA}{aX:ah Nat} (hj:Jr P.B 0 ((lY P [] ⟨P.bt,0,P.az⟩).map P.bs) F aX) (hF:F.length<=3000*(lY P [] ⟨P.bt,0,P.az⟩).length):Inv P (Wd.zero P cuts F aX (List.replicate 3 (P.bt+1))) 0:=by
 have AD:=hP.b2
 have Y2:=hP.t2
 have Xi:(lY P [] ⟨P.bt,0,P.az⟩).length=2:=rfl
 have hS:tC P.az P.az (List.replicate 3 (P.bt+1)) [] (P.bt+1) P.az:=⟨⟨fun k t h _=>by simp at h,fun k h=>by simp at h,fun t h=>by simp at h⟩,bD _,bD _,by simp,by simp⟩
 refine⟨by exact lE [] hM 0xb2020 aQ,⟨_,Jn.start hP.B1 hj ⟨by show P.bt < _;exact cw [P.bt] bJ oa vL Y2 aQ,by show 0 < _;exact lE [] hM 0x10000000053021 aQ,by show P.az < _;exact cw [P.az] bJ oa vL AD aQ⟩ (fun x hx=>by cases hx),by exact cw [(lY P [] {t:=P.bt,v:=0,c:=P.az}).length] bJ 0x1913000 0x22002 Xi aQ⟩,by show F.length<=_;exact fu [F.length,(lY P [] {t:=P.bt,v:=0,c:=P.az}).length] 0xbb82011011030 0x124f833000 0x100bb825000 0x22102 hF Xi aQ,by simp [Wd.zero],by simp [Wd.zero],by simp [Wd.zero],by simp [Wd.zero],?_,bD _,by simp [Wd.zero],hS,?_,by simp [Wd.zero],by simp [Wd.zero],by simp [Wd.zero],by show P.az<=_;exact lE [P.az] hM 0x2320044000 aQ⟩
 ·intro t ht
  rw[(BR.mp ht).2];exact bD _
 ·intro s hs
  have hs:=eR.mp hs
  subst hs
  exact⟨hS,by simp,by show P.bt<=P.bt+1;exact lE [P.bt] hM 0x12004000 aQ,by show 0 < 300;exact lE [] hM 0x12c23021 aQ⟩
theorem NU {L:bZ}{X:fj}{ns:ah Nat}{z cuts:Nat}{ak:ax} (hz:z < 2 ^ 30) (hn:ns≠[]) (hl:ns.length<=12) (hb:∀ x∈ns,x < 1000000) (hP:P.Ok) (h:H wa=aa (.i_ (fs0 P cuts ak))) (MU:H ak=aa (.bE []))
  (g1:L .xw=aa (.ref wa)) (g2:L .i8=aa (.bE (ns.map nv))) (g3:L .xz=aa (nv z)) (g4:L .cx=aa (nv P.az)) (g5:L .bU=aa (nv P.bt)):
  wSs (aM (n+11)) ag DP L H (fun o L1 H1=>o=.ret (.bool ag)) X:=by
 have AD:=cE hP.b2 (show 50000 < 2 ^ 32 by decide)
 have Y2:=cE hP.t2 (show 50000 < 2 ^ 32 by decide)
 have nwk:ak≠wa:=aY MU h nofun
 refine bo (bQ (aq (ai g1) (aq (cG aE (bX _)) (aq (dw (aq (ai g5) (aq aH (aq (ai g4) aE))) (aT rfl)) aE))) (ye (n:=n+3) (P:=P) (rows:=[]) (hd:=⟨P.bt,0,P.az⟩) hP h (aT rfl) ⟨rfl,rfl,rfl,rfl⟩ ⟨Y2,show 0 < 2 ^ 32 by decide,AD⟩ nofun (bX _) fun H1 f e wr sv F aX J8 hs8 q1 q2 K nf ne_ nwr nsv hj hF=>⟨rfl,?_⟩))
 refine bo (bQ (aq (ai g1) (aq (cG aE (bX _)) (aq (oy (aq (ai g5) (aq aH (aq (ai g4) aE)))) aE))) (DF (n:=n+7) (P:=P) (rows:=[]) (hd:=⟨P.bt,0,P.az⟩) hP J8.at_ (aT rfl) ⟨rfl,rfl,rfl,rfl⟩ rfl nofun (bX _) (ft P.az 0) fun H2 lg st un L2 h2 n1 n2 n3 K2=>⟨rfl,?_⟩))
 have e0:Lg.Je P [] (max P.az P.az)=(Wd.zero P cuts F aX []).lg P:=by rw[Nat.max_self];rfl
 have T2:jh P H2 wa (cL (cL (Zm (fs0 P cuts ak) f e wr sv F.length) .cV (.ref st)) .xlog (.ref lg)) ⟨f,e,wr,ak,sv,st,lg,un⟩ (Wd.zero P cuts F aX []):=
  ⟨h2,⟨by exact aT rfl,rfl,rfl,rfl,rfl,rfl,rfl,rfl,rfl,rfl,rfl,rfl,rfl,rfl,rfl,rfl,rfl,rfl,rfl,rfl,rfl,rfl⟩,J8.W.keep K2 (gq (a_ h nwr).symm) (gq (a_ h nf).symm),K2 _ _ (gq (a_ h ne_).symm) J8.E,K2 _ _ (gq nwk) (K _ _ (gq nwk) MU),K2 _ _ (gq (a_ h nsv).symm) hs8,by rw[<- e0];exact L2,J8.fe,(a_ MU nf).symm,q2,(a_ MU ne_).symm,q1,a_ MU nsv⟩
 exact NS hz hn hl hb hP T2 (Inv.zero hP hj hF) g1 g2 g3 g4
end
section
variable {C:CC}{L:bZ}{H:Hp}{e c:E}{xs:ah V}{j:Nat}
theorem Qk (p:PE C L H e (.bE xs)) (h:PE C L H c (.int j)) (hq:j<=2 ^ 62) (hl:xs.length<=line):PE C L H (.slice ag e .none c) (.bE (xs.take j)):=fun Q X z=>p _ _ (h _ _
 ⟨0,min j xs.length,hl,rfl,DH hq hl,aK (gm _ _ _) hl,by rw[Ii,Ie];exact z⟩)
theorem YY {ks:ah Nm}{es:Es}{Q:PV}{X:PX} (k:wEs C es L H (fun vs H1=>ks.length=vs.length/\∀ a,H1 a=au->Q (.ref a) (H1.set a (.i_ (ks.zip vs)))) X):wE C (.dict ks es) L H Q X:=k
end
section
variable {n:Nat}{H:Hp}{Q:PV}{X:PX}{wa:ax}{fs:ah (Nm×V)}{P:iK}{a:Ad}{σ:Wd}{c:Nat}
theorem C4 {L:bZ}{X:fj}{ns:ah Nat}{y z cuts B b t:Nat} (hz:z < 2 ^ 30) (hn:ns≠[]) (hl:ns.length<=12) (hb:∀ x∈ns,x < 1000000) (hP:(⟨B,b,t,[1,2+y % 300]⟩:iK).Ok)
  (g2:L .i8=aa (.bE (ns.map nv))) (g3:L .xz=aa (nv z)) (g4:L .cx=aa (nv b)) (g5:L .bU=aa (nv t)) (g6:L .dC=aa (nv B)) (g7:L .qF=aa (nv cuts)) (g8:L .xy=aa (nv y)):
  wSs (aM (n+11)) ag DQ L H (fun o L1 H1=>o=.ret (.bool ag)) X:=by
 have hc:=Eu (n:=n+9) (H:=H) (L:=L) (x:=.bE [.int 1,nv (2+y % 300)]) hP.v rfl (aq (cG (aq aH (aq (cS (k:=2) aH (ej (j:=300) (ai g8) aH (by decide))) aE)) (aT rfl)) (aq (cG aE (bX _)) (aq (cG aE (bX _)) (aq (cG aE (bX _)) (aq fF aE)))))
 have hn0:=cG (C:=aM (n+11)) (L:=L) (H:=H) aE (bX _)
 refine bM (YY (q7 (ai g4) (q7 (ai g5) (q7 (ai g6) (q7 (ai g7) (q7 hc (q7 (dO (ai g5)) (q7 hn0 (q7 (ai g4) (q7 hn0 (q7 (ai g4) (q7 (ai g4) (q7 aH (q7 (ai g4) (D7 (iI aE (bX _) fun ak MU=>Yp ⟨rfl,fun wa hwa=>?_⟩))))))))))))))))
 have nwk:=eY hwa aN
 exact NU (P:=⟨B,b,t,[1,2+y % 300]⟩) (cuts:=cuts) (ak:=ak) hz hn hl hb hP aN (bY nwk aN) rfl g2 g3 g4 g5
theorem PD {L:bZ}{X:fj}{ns:ah Nat}{x y z:Nat} (hz:z < 2 ^ 30) (hn:ns≠[]) (hl:ns.length<=12) (hb:∀ x∈ns,x < 1000000)
  (g2:L .i8=aa (.bE (ns.map nv))) (g3:L .xz=aa (nv z)) (g4:L .xx=aa (nv x)) (g8:L .xy=aa (nv y)):
  wSs (aM (n+11)) ag IQ L H (fun o L1 H1=>o=.ret (.bool ag)) X:=by
 obtain⟨v,hv,VH⟩:∃ v:Nat,([.int 0,.int 126,.int 16382]:ah V)[y % 3]? =aa (nv v)/\v<=16382:=by
  have:y % 3 < 3:=dE _ (by decide)
  match y % 3,this with
  | 0,_=>exact⟨0,rfl,by decide⟩
  | 1,_=>exact⟨126,rfl,by decide⟩
  | 2,_=>exact⟨16382,rfl,by decide⟩
 have m1:(x+22) % 53<=52:=xq (dE _ (by decide))
 have m2:(x / 53+198) % 19999<=19998:=xq (dE _ (by decide))
 have m3:y / 3 % 2<=1:=xq (dE _ (by decide))
 have m4:y % 300 < 300:=dE _ (by decide)
 have hv:me [1,2+y % 300]:=⟨List.pairwise_cons.mpr ⟨fun u hu=>by rw[eR.mp hu];exact lT [] 0x12c2003101 [y] hM 0x20224121 aQ,XY ..⟩,bD 2,fun u hu=>by
  rcases dS.mp hu with rfl |hu
  ·decide
  ·rw[eR.mp hu];exact gh [] 0x12c2003101 [y] bJ 0x10000000053202241 0x12c23201 m4 aQ⟩
 have hP:(⟨8+(x+22) % 53,2+(x / 53+198) % 19999,1+v+y / 3 % 2,[1,2+y % 300]⟩:iK).Ok:=
  ⟨ft ..,aK (dW m1 8) (by decide),ft ..,aK (dW m2 2) (by decide),aK (ft ..) (ft ..),aK (fS (dW VH 1) m3) (by decide),hv,nofun⟩
 refine aR (cS (k:=2) aH (ej (j:=19999) (cS (q:=198) (fg (j:=53) (ai g4) aH (by decide) (by decide)) aH) aH (by decide))) ?_
 refine aR (cS (cS (k:=1) aH (gG (cG (aq aH (aq aH (aq aH aE))) (aT rfl)) (ej (j:=3) (ai g8) aH (by decide)) ‹_› (aT rfl))) (ej (j:=2) (fg (j:=3) (ai g8) aH (by decide) (by decide)) aH (by decide))) ?_
 refine aR (cS (k:=8) aH (ej (j:=53) (cS (q:=22) (ai g4) aH) aH (by decide))) (aR (v:=nv 2) aH ?_)
 refine q_ (gu (j:=16) (ai rfl) aH) (fun _=>aR (v:=nv 1) aH (bG (bC ?_))) fun _=>bG (bC ?_)
 ·exact C4 (cuts:=1) hz hn hl hb hP g2 g3 rfl rfl rfl rfl g8
 ·exact C4 (cuts:=2) hz hn hl hb hP g2 g3 rfl rfl rfl rfl g8
theorem PF {L:bZ}{X:fj}{ns:ah Nat} (hn:ns≠[]) (hl:ns.length<=12) (hb:∀ x∈ns,x < 1000000) (g2:L .i8=aa (.bE (ns.map nv))):
  wSs (aM (n+11)) ag Bl L H (fun o L1 H1=>o=.ret (.bool ag)) X:=by
 refine bM (bQ (aq (ai g2) (aq (aH (i:=((0:Nat):Int))) aE)) (nC (n:=n+10) (i:=0) hn hl hb (by decide) fun x hx=>?_))
 refine bM (bQ (aq (ai g2) (aq (aH (i:=((1:Nat):Int))) aE)) (nC (n:=n+10) (i:=1) hn hl hb (by decide) fun y hy=>?_))
 refine bM (bQ (aq (ai g2) (aq (aH (i:=((2:Nat):Int))) aE)) (nC (n:=n+10) (i:=2) hn hl hb (by decide) fun z hz=>?_))
 exact PD hz hn hl hb g2 rfl rfl rfl
theorem acf {is:ah Int} (hl:is.length<=1000) (q:∀ H',Q (.bool ag) H'):aM (n+12) .law [.bE (is.map .int)] H Q X:=by
 have hm:∀ i:Int,i % 999983=(((i % 999983).toNat:Nat):Int):=fun i=>by lia
 have key:∀ {ns:ah Nat}{L:bZ},ns≠[]->ns.length<=12->(∀ x∈ns,x < 1000000)->L .i8=aa (.bE (ns.map nv))->wSs (aM (n+11)) ag Bl L H (Cc Q) (wJ X):=by
  intro ns L h1 h2 h3 h4
  refine dH (dj _) _ ?_ (fun _ _ _ h=>h) (PF h1 h2 h3 h4)
  rintro o L2 H2 rfl
  exact q H2
 have lP:(is.map (Vx.int:Int->V)).length<=line:=by rw[cF];exact aK hl (by decide)
 have Y8:(is.take 12).length<=12:=by rw[eW];exact Gf ..
 have hc:PE (aM (n+11)) (bZ.none.sets Fn.law.ps [.bE (is.map .int)]) H (.comp ag (.bR .mod (.aB .xx) (.int 999983)) ao [.xx] (.slice ag (.aB .D5) .none (.int 12)) .none []) (.bE (((is.take 12).map fun i=>(i % 999983).toNat).map nv)):=by
  refine iV (Hq .int (fun i=>nv (i % 999983).toNat) (is.take 12) (iV (Qk (j:=12) (ai rfl) aH (by decide) lP) sC.symm) rfl (aK Y8 (by decide)) fun i _=>eV (rj (ai rfl) aH (by decide)) (hm i)) (by rw[LB];rfl)
 have hlen:(((is.take 12).map fun i=>(i % 999983).toNat).map nv).length<=12:=by rw[cF,cF];exact Y8
 refine bA rfl (aR hc (q_ (fE (j:=0) (eX (ai rfl) (aK hlen (by decide))) aH) (fun _=>?_) fun h=>?_))
 ·exact aR (cG (aq aH aE) (aT rfl)) (bG (bC (key (ns:=[0]) nofun (by decide) (fun x hx=>by rw[eR.mp hx];decide) rfl)))
 ·refine bG (bC (key (ns:=(is.take 12).map fun i=>(i % 999983).toNat) (fun q=>h (by rw[q];rfl)) (by rw[cF];exact Y8) (fun x hx=>?_) rfl))
  obtain⟨i,_,rfl⟩:=l9.mp hx
  lia
end
theorem lay_ints {R:WRecords}{cl:Str->aC ax}{P:Params}{ord:ah cI->ah cI}{g:Gh}:∀ (xs:ah WData) (s s':aF) (vs:ah av),WShape.hasItems R xs .int=ag->layAllW R cl P ord xs s=aa (vs,s')->
  s'.heap=s.heap/\∃ is:ah Int,is.length=xs.length/\dG (er g) vs (is.map .int)
 |[],s,s',vs,h,e=>by
  cases e
  exact⟨rfl,[],rfl,.nil⟩
 |x::xs,s,s',vs,h,e=>by
  have h:=eU.mp h
  obtain⟨i,rfl⟩:=hasW_int h.1
  obtain⟨a,q,e1,e2,e3⟩:=layAllW_cons e
  cases e1
  cases e3
  have⟨h1,is,h2,h3⟩:=lay_ints (g:=g) xs _ _ _ h.2 e2
  exact⟨h1,i::is,aW (· +1) h2,.cons ⟨_,rfl⟩ h3⟩
theorem walk {q:dx}{loose:ah Str}{XP:(Str->aC av)->bB->Prop}{d:DefRec}{kwd:ah (Str×ay)} (hn:d.name=Str.ofString "law"):
  Ye q loose XP (fun _ h=>∃ K:cW,K.In h/\good K=ag) PySem.Challenge.rw_xm0842_01.row.toRowW d kwd (fun f vs=>_root_.PySem.call f vs):=by
 intro w s₀ s₁ mg mb G Y a hmg xY args vals as EY Rk L
 obtain⟨K,hK,GF⟩:=Y
 have D:Gd ⟨PySem.Challenge.rw_xm0842_01.row.toRowW.prog,w,s₁.heap,ed⟩ K:=abZ hK rfl GF
 have F:NI ⟨PySem.Challenge.rw_xm0842_01.row.toRowW.prog,w,s₁.heap,ed⟩:=Zn hK rfl GF G.T.nolimit
 cases eH (hmg.symm.trans (hn▸mg_of hK G.T.g (D.gf .law rfl)))
 obtain⟨hsh,hpr⟩:=pre_splitW EY
 obtain⟨d0,r0,rfl,B9,OC⟩:=hasAllW_cons hsh
 cases hasAllW_nil OC
 obtain⟨xs,rfl,hit⟩:=hasW_list B9
 have hlen:xs.length<=63:=by
  have h:((WTm.not (.lt (.lit (.int ((63:Nat):Int))) (.len (.arg 0)))).and (.lit (.bool ag))).holds [] {args:=[.list xs]}=ag:=hpr
  by_cases hc:(63:Int) < (xs.length:Int)
  ·simp [WTm.holds,WTm.value,less?,Num.less?,hc] at h
  ·lia
 obtain⟨l,its,is,rfl,hl,hil,hits⟩:∃ (l:ax) (its:bS av) (is:ah Int),vals=[.ref l]/\s₁.heap.get? l=aa ⟨.type "list",au,.seq its 0,#[]⟩/\is.length<=63/\∀ g,dG (er g) its.toList (is.map .int):=by
  obtain⟨ord,Ri,hl⟩:=L.laid
  obtain⟨a1,q1,e1,e2,e3⟩:=layAllW_cons hl
  obtain⟨q2,e4,e5⟩:=layW_list e1
  cases e5
  cases e2
  cases e3
  obtain⟨h1,is,h2,h3⟩:=lay_ints (g:=⟨fun _=>au,fun _=>au⟩) xs _ _ _ hit e4
  exact⟨_,_,is,rfl,jg _ rfl,h2▸hlen,fun g=>by rw[List.toList_toArray];exact h3.bT fun v x e=>e.le ⟨fun _ _ h=>(nomatch h),fun _ _ h=>(nomatch h)⟩⟩
 have R:Rep ⟨PySem.Challenge.rw_xm0842_01.row.toRowW.prog,w,s₁.heap,ed⟩ ⟨s₁,⟨fun b=>if b=l then aa (.bE (is.map .int)) else au,fun _=>au⟩,fun _=>au⟩:=
  {yr:=fun b x e=>c7 e (fun hb e=>by cases e;cases hb;exact .mk its 0 hl (hits _)) fun _ e=>nomatch e
   yB:=fun _ _ e=>nomatch e
   zm:=fun _ _ _=>rfl
   dz:=fun _ _ e=>nomatch e
   Jj:=fun _ _ e=>nomatch e
   stays:=fun _ _ e=>e
   EP:=fun _ _ e=>nomatch e
   newD:=fun _ _ e=>nomatch e}
 have hlw:aM 12 .law [.bE (is.map .int)] (fun _=>au) (fun v _=>v=.bool ag) Vq:=acf (n:=0) (aK hil (by decide)) fun _=>rfl
 have hc:=Ir (A:=callerA) (fr:=[]) (us:=[.ref l]) D F (Nf D F 11) hlw ⟨by decide,by decide⟩ rfl rfl rfl R ⟨trivial,fun b hb=>absurd hb uP⟩ (.cons (show er _ (.ref l) (.bE (is.map .int)) from Jb.mk l rfl (a8 rfl)) .nil)
 refine I.call (I.pN hc fun r s' hr=>?_)
 cases r with
 |error e=>obtain⟨ea,a0,D,τ,he,t,f,x⟩:=hr;exact x.elim
 |ok f=>
  cases f with
  |ret v=>
   obtain⟨g',H',x,e,rel,q⟩:=hr
   subst q
   cases(show v=.bool ag from e)
   have Dp:PySem.Challenge.rw_xm0842_01.row.toRowW.claim.post [.list xs] (.bool ag) [.list xs]=ag:=by kernel_rfl
   refine⟨.inl ⟨_,.bool ag,[],rfl,fun _=>rfl,(.bool ag),Dp,fun _=>⟨.nil,fun a h=>(nomatch h)⟩⟩,.of_keep rel.rep.stays,rel.os,?_⟩
   rw[rel.gens,xY]
   exact fun y hy=>by simp at hy
  |_=>exact hr.elim
theorem Ic (t:Thread):(endAt 0 t).isSome=through t:=by
 obtain⟨cur,code,pos,stack⟩:=t
 cases stack with
 |cons=>rfl
 |nil=>cases cur with
  |pure f=>cases f<;>rfl
  |_=>rfl
section
variable {tb:b_->aC si}{p:dx}{w:dy}{n₀:Nat}{ann:aC av}{n:Nat}{s s':aF}{t:Thread}{r:iR×aF×fi×Pos}
theorem UN (ih:∀ {s t},segRun tb p w n₀ ann 0 n s t=aa r->topRun tb p w n₀ ann n s t=aa r.2.1){x:aC iR}{b k:aj} (hb:x.isSome=b) (y:Step)
  (h:(match (generalizing:=false) x with |some f=>aa (f,s,t.code,t.pos) |none=>match (generalizing:=false) k with |false=>au |true=>match (generalizing:=false) y with |.go s' t'=>segRun tb p w n₀ ann 0 n s' t' |.halt _ _=>au)=aa r):
  (match (generalizing:=false) b with |true=>aa s |false=>match (generalizing:=false) k with |false=>au |true=>match (generalizing:=false) y with |.go s' t'=>topRun tb p w n₀ ann n s' t' |.halt _ _=>au)=aa r.2.1:=by
 subst hb
 cases x with
 |some f=>exact aW (fun x=>x.map (·.2.1)) h
 |none=>cases k with
  |false=>exact nomatch h
  |true=>cases y with
   |go=>exact ih h
   |halt=>exact nomatch h
theorem C6:∀ {n:Nat}{s:aF}{t:Thread},segRun tb p w n₀ ann 0 n s t=aa r->topRun tb p w n₀ ann n s t=aa r.2.1
 | 0,_,_,h=>nomatch h
 |n+1,s,t,h=>UN C6 (Ic t) (step (denote tb) p w s t) h
end
theorem boot_abs (w:dy) (os:gH):(R3 w os).abs=⟨boot_heap w.params,#[],boot_drawn,boot_toks,os⟩:=by kernel_rfl
theorem O0 (P:Params):(boot_heap P).objs.size=11:=by kernel_rfl
theorem RZ (P:Params):(boot_heap P).nsMap mainGlobals "__annotations__"=aa (.ref 6):=by kernel_rfl
theorem V' (P:Params):((boot_heap P).isNs mainGlobals&&(#[]:bS GenState).size==0)=ag:=by kernel_rfl
theorem Vu {p q:dx}{loose:ah Str}{Xt Y:aF->aj}{N:Nat} (e:opening p=plainProg p.main.scope.names) (hN:Nat.ble 600 N=ag) (f:∀ s,fenceModules? p s=aa s)
  (K:∀ (w:dy) (os:gH),(segRunT treeTable p w 11 (aa (.ref 6)) 0 N (R3 w os) (topStub p)).map (Vt p q loose Xt Y w.params)=aa (ag,openGood q loose,ag)):LeftO p q loose Xt Y (fun _=>ag) N:=fun w=>by
 obtain⟨s0,hs,hv⟩:=yl.mp (boot_open e hN f w)
 obtain⟨heap,gens,drawn,toks,os⟩:=s0
 cases hv
 obtain⟨⟨fl,s',c,q'⟩,hr,hl⟩:=yl.mp (K w os)
 have ht:=C6 (segRun_of hr)
 rw[boot_abs] at ht
 obtain⟨h1,h2⟩:=BB hl
 obtain⟨h2,h3⟩:=BB h2
 have hT:topFrom treeTable p w N ⟨boot_heap w.params,#[],boot_drawn,boot_toks,os⟩=aa s'.abs:=by
  unfold topFrom
  rw[V']
  show(topRun treeTable p w (boot_heap w.params).objs.size ((boot_heap w.params).nsMap mainGlobals "__annotations__") N _ _).bind _=_
  rw[O0,RZ,ht]
  show(match staticsOk (importedModules p.main.body) (boot_heap w.params) s'.abs.heap&&namesBound p s'.abs.heap&&gensDone s'.abs&&laidKept (boot_heap w.params) s'.abs.heap with |true=>aa s'.abs |false=>au)=_
  rw[show(staticsOk (importedModules p.main.body) (boot_heap w.params) s'.abs.heap&&namesBound p s'.abs.heap&&gensDone s'.abs&&laidKept (boot_heap w.params) s'.abs.heap)=ag from h1]
 have hO:openEnds treeTable p w N=aa s'.abs:=by
  unfold openEnds
  rw[hs]
  exact hT
 rw[hO]
 exact aW aa (Prod.ext h2 h3)
theorem Ou {α β γ:Type}{o:aC α}{a:α->β}{b:α->γ}{g1 g2 g3:α->aj}{x:β}{y:γ} (h:o.map (fun r=>(a r,b r))=aa (x,y)) (h1:o.map g1=aa ag) (h2:o.map g2=aa ag) (h3:o.map g3=aa ag):o.map (fun r=>(a r,b r,(g1 r&&g2 r)&&g3 r))=aa (x,y,ag):=by
 cases o with
 |none=>exact no h
 |some r=>
  have e:=BB (eH h)
  show aa (a r,b r,(g1 r&&g2 r)&&g3 r)=_
  rw[e.1,e.2,eH h1,eH h2,eH h3];rfl
theorem left:LeftO xP sO vc PU (fun s=>good (PW s)) (fun _=>ag) 10200:=Vu rfl rfl (fun _=>rfl) fun w os=>by
 rw[aer,aeq]
 exact Ou (adA w os) (adz w os) (runC w os) (ady w os)
set_option maxRecDepth 100000 in
set_option maxHeartbeats 8000000 in
theorem main:_root_.PySem.Challenge.rw_xm0842_01.Holds:=by
 w_on
 refine holds_law adx fun _=>?_
 refine Mine.PySem.W.holds_open (q:=sO) (loose:=vc) (Xt:=PU) (XP:=XL sO []) (Yf:=fun s=>good (PW s)) (Ya:=fun _=>ag) (YP:=fun _ h=>∃ K:cW,K.In h/\good K=ag) (N:=10200) left (fun w s e=>Kr e) (fun _ _ _ ⟨K,a,b⟩ k=>⟨K,a.keeps k,b⟩)
  (fun s e=>xl_of s (eU.mp e).1) XL.keeps (by rfl) (by rfl) (by rfl) (fun s e=>recFacts_of (eU.mp e).2) (by rfl) (by first |assumption |decide+kernel) (by decide+kernel) ⟨rfl,rfl,rfl,rfl,rfl,by decide+kernel⟩ ?hw ?hc
 case hw=>w_witness2
 exact walk rfl
end Mine
theorem PySem.Challenge.cw_xm0842_01_holds : PySem.Challenge.rw_xm0842_01.Holds :=
  Mine.main
