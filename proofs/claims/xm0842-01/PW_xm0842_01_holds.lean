import PyProof.Rows.All
import OpenK.KLine
import PyProof.SliceMore
import PyProof.DictRoads
import PyProof.DictKinds
import KE.IntBitsLaws
import KE.KxBytes
import KE.BytesMulAny
import KE.BytesMake
import KE.KBytesCut
import KE.KBytesMore
import KE.BitLaws
import OpenK.KOwn
import OpenK.KCall
import KE.KTryMore
import PyProof.ExcBaseAll.Exception
import PyProof.PureCalls
import PyProof.ListOps
import PyProof.TupleOfSeq
import PyProof.CallStr
import PyProof.WalkInts
import PyProof.Rows.SortShell
import PyProof.Rows.SortWalk
import PyProof.ConsumeWalk
import PyProof.FString
import PyProof.DictTable
import PyProof.TupleIter
import PyProof.Ends
import PyProof.CompMap
import PyProof.RangeFor
import PyProof.RulesTry
import PyProof.Rows.Catch
import PyProof.Cells
import Wide.All
import OpenK.AllK
import Wide.FinOn
import Lean
import PySem.Challenge.RW_xm0842_01
set_option autoImplicit false
set_option linter.all false
set_option genSizeOf false
set_option genInjectivity false
set_option genCtorIdx false
set_option bootstrap.genMatcherCode false
set_option Elab.async false
set_option maxRecDepth 100000
set_option maxHeartbeats 8000000
namespace Mine
open PySem.W.Fast renaming te10110043849684766642->aeP,te14364793385576792824->aeO
open Nat renaming and_two_pow_sub_one_eq_mod->Z9,shiftRight_eq_div_pow->D5,le_of_add_le_add_left->DZ,lt_of_add_lt_add_left->Ym,add_sub_cancel_left->pX,lt_add_of_pos_right->NK,lt_of_succ_lt_succ->X5,le_of_ble_eq_true->aT,eq_of_beq_eq_true->Jd,sub_eq_zero_of_le->NJ,le_of_sub_eq_zero->X0,sub_le_sub_right->wu,add_sub_add_left->ND,add_le_add_right->SG,add_min_add_left->Up,sub_le_of_le_add->Uo,add_le_add_left->dX,add_sub_cancel'->gY,mul_le_mul_left->me,add_left_cancel->GH,add_lt_add_left->GG,lt_of_le_of_lt->cE,add_right_comm->iD,lt_of_lt_of_le->ma,lt_of_le_of_ne->xI,pos_of_ne_zero->GA,add_sub_cancel->Mc,lt_succ_of_le->sI,le_of_lt_succ->xG,sub_pos_of_lt->BW,lt_succ_of_lt->Gz,le_of_succ_le->L9,le_succ_of_le->TY,succ_le_succ->eH,le_add_right->fu,not_lt_of_le->gv,le_of_not_lt->iC,min_le_right->je,lt_succ_self->nU,min_eq_right->qz,le_of_not_le->xE,max_eq_right->BV,not_le_of_lt->BS,lt_of_not_le->Gw,succ_ne_self->TU,shiftLeft_eq->TS,succ_lt_succ->TJ,min_eq_left->dK,le_add_left->j_,max_eq_left->xD,le_antisymm->BR,div_add_mod->Gu,min_le_left->Gn,not_lt_zero->Gm,le_max_left->TB,div_le_self->TA,add_le_add->fS,add_assoc->dU,lt_irrefl->sG,le_trans->aK,lt_trans->ft,le_of_lt->fH,le_of_eq->gX,zero_add->jF,add_comm->nR,ne_of_lt->sD,succ_pos->sC,add_zero->sA,le_total->BN,ne_of_gt->BL,sub_self->BK,lt_or_ge->Gg,beq_refl->S9,mul_succ->S5,mul_comm->SW,le_refl->bD,zero_le->bX,mul_add->uS,min_def->BI,le_succ->Ge,sub_sub->SR,mod_lt->dD,sub_le->jc,not_lt->Ga,sub_lt->F_,le_min->SO
open List renaming take_append_of_le_length->Tc,getLast?_eq_some_getLast->Wv,getD_eq_getElem?_getD->Ph,getElem?_append_right->Z7,getLast?_eq_getElem?->D0,getElem?_append_left->Jg,getElem?_eq_some_iff->Yp,rel_of_pairwise_cons->Yo,getElem?_eq_getElem->lK,getElem?_take_of_lt->pY,filterMap_cons_some->NL,filterMap_cons_none->Tp,length_eq_zero_iff->qO,getElem?_cons_succ->SM,filter_cons_of_pos->Ye,filter_cons_of_neg->Yd,pairwise_singleton->Yc,take_of_length_le->mv,filter_eq_nil_iff->Je,range_succ_eq_map->X_,length_replicate->nP,mem_append_right->t9,length_filter_le->t8,length_singleton->BG,getElem?_eq_none->BF,concat_eq_append->Jc,take_append_drop->Jb,lookup_cons_self->SK,contains_iff_mem->X4,eq_nil_or_concat->X1,mem_of_mem_take->yt,mem_of_getElem?->BE,mem_of_getLast?->BD,mem_of_mem_drop->Ja,pairwise_append->NG,mem_append_left->NF,getLast?_concat->SH,drop_eq_nil_iff->XX,getElem?_of_mem->XW,length_pos_iff->qB,flatten_append->xJ,filterMap_cons->GI,filter_eq_self->Mf,append_toArray->Ul,filter_sublist->Ui,map_eq_nil_iff->Uh,length_append->bN,mem_singleton->eT,mem_cons_self->uX,getElem?_drop->B0,mem_replicate->BZ,filter_append->GB,findIdx?_cons->Ud,zip_cons_cons->T_,getLast?_cons->T9,filter_filter->T8,append_assoc->dE,flatten_cons->qA,size_toArray->uW,getElem?_map->BX,pairwise_map->Gx,any_eq_false->T7,ext_getElem?->TX,getLast?_map->TV,length_take->eX,length_drop->fJ,length_cons->jf,all_eq_true->l_,take_length->sH,not_mem_nil->uV,isEmpty_iff->uU,flatten_nil->xF,take_append->Gv,lookup_cons->L7,mem_reverse->TL,drop_length->TK,length_map->cF,append_nil->fT,map_append->f6,mem_append->iS,mem_filter->nT,nodup_cons->qy,length_nil->xC,forIn_cons->Gr,find?_cons->L6,nil_append->L5,take_take->qx,drop_drop->xB,take_zero->LY,forIn_nil->Tu,drop_left->Tt,take_left->Ts,drop_take->Tq,mem_cons->dT,map_cons->gu,map_take->sF,take_nil->xA,drop_nil->BP,map_drop->Gj,all_cons->LX,any_cons->LW,sum_cons->LS,mem_map->l9,map_nil->BM,all_map->LO,map_map->LK
open PySem renaming leftWithCleanup_false_of_bare->acM,markedBehindIn_of_false->Yg,wpAny_pyNext_list_item->X7,wpAny_noteFrame_againW->X6,builtinLookup_eq_fast->nQ,ofString_length->X3,wpAny_pyNext_list_end->X2,wpAny_letTemporaryGo->XZ,builtinType_eq_fast->Uj,wpAny_Constant_str->GD,int_text_length_le->Uc,wpAny_truthy_bool->xH,wpAny_pyIter_list->L_,slot_list_getitem->T6,list_append->T5,getMethod_builtin->TZ,wpAny_isInstance->BU,entryFor_of_tree->L8,wpAny_getItem_of->TP,wpAny_askSetting->TO,wpAny_lookBehind->TN,arm_eval_UnaryOp->TM,typeLookup_type->jG,wpAny_specialOf->kU,arm_exec_Assign->TF,pushCells_keeps->TC,isSubtype_type->BQ,wpAny_bindName->Tz,wpAny_loadPart->Tx,arm_eval_Tuple->Tw,wpAny_newTuple->Tv,wpAny_standAt->BO,wpAny_holding->Gk,wpAny_newList->Tj,plainId_quiet->Ti,wpAny_mkBytes->Tg,callType_new->LN,sizeLine_eq->l8,wpAny_alloc->LI,wpAny_of_eq->LH,wpAny_field->LD,wpAny_bind->bf,wpAny_pure->bW,wpAny_mono->pj,wpAny_rule->sx,wpAny_load->xq,wpAny_Name->Lz,Addr->ax,Value->av,Data->gW,FuncData->eR,Operator->ie,Const->d9,Expr->ay,Scope->bY,Stmt->aY,NameKind->d8,World->dQ,OsState->iQ,Program->dx,Shared->aF,Flow->iR,Code->fj,Heap->bB,DictEntry->cI,Model->eE,Around->bF,Result->fq,wpAny->aO,Builtin->sr
open Int renaming fdiv_eq_ediv_of_nonneg->acK,eq_ofNat_of_zero_le->Yi,neg_mul_eq_neg_mul->Yb,negSucc_lt_zero->Um,natCast_nonneg->gw,sub_eq_add_neg->Me,add_left_comm->BY,natCast_pos->Gq,natCast_add->TH,max_eq_left->TG,add_assoc->nS,mul_assoc->Gl,ofNat_inj->LR,ofNat_sub->LQ,ofNat_lt->sE,ofNat_le->uT,le_of_lt->xv,add_comm->Gi,zero_mul->LP,zero_add->Tb,mul_comm->Ta,add_zero->S_,ne_of_gt->SX,le_refl->Gf,mul_sub->LJ,mul_add->SV,neg_mul->SU,not_lt->Gb,not_le->SQ
open PySem.F renaming args_list_append_2->acI,entry_list_append->Yr,excBase_Exception->Yq,slot_list_append->Yk,args_object_init_2->SI,bm_typeCall->LU,bm_newCall->LM,bm_called->LF,bm_entry->LA,bm_bind->Ly,bm_sub->Lw
open Classical renaming byContradiction->Ys,byCases->Z',em->Z8
open Decidable renaming byContradiction->Yn
open PyProof.Rows renaming floordiv_int->acW,irshift_int->acT,lshift_int->acR,rshift_int->acQ,truthy_int->acO,mod_int'->acJ,and_int->aae,neg_int->aad,ior_int->aac,markedEach_of_false->Uk,or_int->aab
open PySem.SeqAt.RcNeAt renaming tuples->acV,lists->acU
open Lean.Omega.Int renaming ofNat_min->Tr,ofNat_max->Yj
open Option renaming isSome_iff_exists->Yl,bind_eq_some_iff->SN,map_eq_some_iff->yu,bind_some->pk,map_some->Gp,none->au,some->aa
open List.Perm renaming eq_of_pairwise->acS
open PySem.W.FB renaming args_bytes_getitem_2->Yh,entry_bytes_getitem->X9,slot_bytes_getitem->NI
open PySem.SeqAt.RcAt renaming tuples->acP,lists->acL
open PySem.Heap.UpToSlots renaming of_keeps->acN
open PySem.Heap renaming get?_push_of_some->jN,get?_update_other->Jf,get?_update_self->NH,get?_push_size->jg,size_push->LZ,lt_size->qw
open Array renaming getElem?_eq_none->X8,getElem?_toList->BH,mem_toList_iff->XY,toList_push->T4,any_toList->TQ
open Bool renaming and_eq_true_iff->ed,or_eq_true_iff->md,false_ne_true->cj,false_eq_true->Ue,not_eq_true'->Gy,eq_iff_iff->Gs,and_false->L4,or_false->LV,not_true->To,and_true->Tn,and_comm->Td,false->ao,true->ag
open _root_ renaming ne_true_of_eq_false->uY,of_decide_eq_false->GC,decide_eq_true_iff->Md,of_decide_eq_true->ig,decide_eq_true_eq->Ma,decide_eq_decide->kW,beq_self_eq_true->TR,decide_eq_false->dW,decide_eq_true->c9,bne_iff_ne->l7,beq_iff_eq->uR,congrArg->aW,dif_neg->da,if_pos->a8,if_neg->bb,List->ah,Bool->aj,Option->aB,UInt8->aA,String->b_,Array->bS,Decidable->cN,Unit->cR
open PySem.Code renaming quiet_builtin->Ug
open PySem.Obj renaming data_mapFields->Ub
open PySem.Calls renaming spliced_cons->Ua
open PySem.Heap.IsSliceOf renaming new->aaa
open PySem.Str renaming length_append->Mb
open Option.some renaming injEq->Z_,inj->eS
open PySem.W.KBmo renaming pre_take->Tf
open List.cons renaming inj->Te
open PySem.W renaming typeIs_bytes->kT,hideAll_get->LC,looks_nsIn->LB,Frag->cW
open Nat.succ renaming inj->xu
open PySem.Sem renaming wp_bind'->SY,wp_mono->BJ
open Prod.mk renaming inj->sy
open PySem.W.Looks renaming ld->Lx
open Ne renaming symm->l6
noncomputable def bJ:Nat:=0x11011020
noncomputable def dO:Nat:=0x10000
noncomputable def eI:Nat:=0x11011011030
noncomputable def hJ:Nat:=0x11010
noncomputable def mF:Nat:=0x110110030001
noncomputable def og:Nat:=0x10000000053001
noncomputable def oZ:Nat:=0x110011030011
noncomputable def pO:Nat:=0x20000
noncomputable def rI:Nat:=0x10001
noncomputable def rH:Nat:=0x8013001
noncomputable def lJ:Nat:=0x10200
noncomputable def lI:Nat:=0x100215324000
noncomputable def mq:Nat:=0x110020001
noncomputable def mn:Nat:=0x20104001
noncomputable def nE:Nat:=0x10023001
noncomputable def nC:Nat:=0xa2100
noncomputable def oJ:Nat:=0x801003101
noncomputable def oI:Nat:=0x20104000
noncomputable def pT:Nat:=0x100000043000
noncomputable def pS:Nat:=0x10002
noncomputable def pR:Nat:=0x12104000
noncomputable def pQ:Nat:=0x1023
noncomputable def pP:Nat:=0x1000000000000000093001
noncomputable def qJ:Nat:=0xf424033000
noncomputable def qI:Nat:=0x20720
noncomputable def rN:Nat:=0x1100200110020001
noncomputable def rM:Nat:=0x100000043001
noncomputable def rL:Nat:=0x22000
noncomputable def rK:Nat:=0x30000
noncomputable def rJ:Nat:=0x121040215324000
noncomputable def tQ:Nat:=0x20300
noncomputable def vW:Nat:=0x80130016
noncomputable def vV:Nat:=0x1101100040011001
noncomputable def vU:Nat:=0x10000102
noncomputable def vT:Nat:=0xc35023000
noncomputable def yi:Nat:=0x3e823000
noncomputable def yh:Nat:=0x11001103002
noncomputable def yg:Nat:=0x20100040
noncomputable def yf:Nat:=0x10200040
noncomputable def ye:Nat:=0x11011011011040
noncomputable def A5:Nat:=0xff130013
noncomputable def A0:Nat:=0x80130014
noncomputable def AZ:Nat:=0x11001100050011001900050031011001
noncomputable def AY:Nat:=0x110110030
noncomputable def AX:Nat:=0x10000103
noncomputable def AW:Nat:=0x11021011030
noncomputable def DI:Nat:=0x1101100300110190030001
noncomputable def DH:Nat:=0x11001103012
noncomputable def Iy:Nat:=0x40000000000000008300300400000000000000083837
noncomputable def Iw:Nat:=0x40000000000000000093001
noncomputable def Iv:Nat:=0x140000000000000008383
noncomputable def Iu:Nat:=0x4000000000000000830014
noncomputable def Ir:Nat:=0x200215324000
noncomputable def Nl:Nat:=0x11000300110011004002011000300190011004002001
noncomputable def Nk:Nat:=0x11011011030011001101104002
noncomputable def Nj:Nat:=0x1101101100050011001100050020190011011005001900110005002001
noncomputable def Ni:Nat:=0x1101101100110500110011001105002011
noncomputable def R0:Nat:=0x4000000000000000830013001400000000000000083837
noncomputable def RZ:Nat:=0x1101100040011001100050020110011004001900110005002001
theorem no {α:Type}{b:α}{P:Prop} (h:au=aa b):P:=nomatch h
theorem no' {α:Type}{b:α}{P:Prop} (h:aa b=au):P:=nomatch h
theorem nb {P:Prop} (h:ao=ag):P:=nomatch h
theorem nb' {P:Prop} (h:ag=ao):P:=nomatch h
noncomputable def ux {α:Type}:ah α->Nat->α->α
 |[],_,d=>d
 |x::_,0,_=>x
 |_::r,n+1,d=>ux r n d
inductive NT |v (i:Nat) |k (c:Nat) |add (a b:NT) |ml (c:Nat) (a:NT) |mr (a:NT) (c:Nat)
inductive ZT |v (i:Nat) |k (c:Nat) |add (a b:ZT) |sub (a b:ZT) |ml (c:Nat) (a:ZT) |mr (a:ZT) (c:Nat) |neg (a:ZT) |cast (a:NT)
inductive Pr |le (a b:NT) |lt (a b:NT) |eq (a b:NT) |Xj (a b:ZT) |UN (a b:ZT) |XG (a b:ZT) |no (p:Pr) |an (p q:Pr) |or (p q:Pr) |im (p q:Pr) |iff (p q:Pr) |ff
inductive Df |sub (a b:NT) |dm (a:NT) (c:Nat) |min (a b:NT) |max (a b:NT) |nat (a:ZT)
inductive Ct |leaf (ms:ah Int) |cs (i:Nat) (l r:Ct) |df (j:Nat) (l r:Ct)
noncomputable def NT.den (n:Nat->Nat):NT->Nat
 |.v i=>n i |.k c=>c |.add a b=>a.den n+b.den n |.ml c a=>c*a.den n |.mr a c=>a.den n*c
noncomputable def ZT.den (n:Nat->Nat) (z:Nat->Int):ZT->Int
 |.v i=>z i |.k c=>Int.ofNat c |.add a b=>a.den n z+b.den n z |.sub a b=>a.den n z-b.den n z |.ml c a=>Int.ofNat c*a.den n z |.mr a c=>a.den n z*Int.ofNat c |.neg a=>-a.den n z |.cast a=>((a.den n:Nat):Int)
noncomputable def Pr.den (n:Nat->Nat) (z:Nat->Int):Pr->Prop
 |.le a b=>a.den n<=b.den n |.lt a b=>a.den n < b.den n |.eq a b=>a.den n=b.den n
 |.Xj a b=>a.den n z<=b.den n z |.UN a b=>a.den n z < b.den n z |.XG a b=>a.den n z=b.den n z
 |.no p=>¬ p.den n z |.an p q=>p.den n z/\q.den n z |.or p q=>p.den n z∨q.den n z |.im p q=>p.den n z->q.den n z |.iff p q=>(p.den n z↔q.den n z) |.ff=>False
noncomputable def Df.d1 (n:Nat->Nat) (z:Nat->Int):Df->Nat
 |.sub a b=>a.den n-b.den n |.dm a c=>a.den n / c |.min a b=>Min.min (a.den n) (b.den n) |.max a b=>Max.max (a.den n) (b.den n) |.nat a=>(a.den n z).toNat
noncomputable def Df.d2 (n:Nat->Nat):Df->Nat
 |.dm a c=>a.den n % c |_=>0
noncomputable def upd (n:Nat->Nat) (b x y:Nat) (i:Nat):Nat:=cond (Nat.beq i b) x (cond (Nat.beq i (b+1)) y (n i))
noncomputable def ext (z:Nat->Int):ah Df->(Nat->Nat)->Nat->Nat->Nat
 |[],n,_=>n
 |d::r,n,b=>ext z r (upd n b (d.d1 n z) (d.d2 n)) (b+2)
noncomputable def NT.lt (b:Nat):NT->aj
 |.v i=>Nat.blt i b |.k _=>ag |.add x y=>x.lt b&&y.lt b |.ml _ a=>a.lt b |.mr a _=>a.lt b
noncomputable def ZT.lt (b:Nat):ZT->aj
 |.v _=>ag |.k _=>ag |.add x y=>x.lt b&&y.lt b |.sub x y=>x.lt b&&y.lt b |.ml _ a=>a.lt b |.mr a _=>a.lt b |.neg a=>a.lt b |.cast a=>a.lt b
noncomputable def Df.ok (b:Nat):Df->aj
 |.sub x y=>x.lt b&&y.lt b |.dm a c=>a.lt b&&Nat.blt 0 c |.min x y=>x.lt b&&y.lt b |.max x y=>x.lt b&&y.lt b |.nat a=>a.lt b
noncomputable def RO:ah Df->Nat->aj
 |[],_=>ag
 |d::r,b=>d.ok b&&RO r (b+2)
structure PL where
 c:Int
 n:ah Int
 z:ah Int
noncomputable def wx:ah Int->Nat->Int->ah Int
 |[],0,m=>[m] |[],i+1,m=>0::wx [] i m |x::r,0,m=>(x+m)::r |x::r,i+1,m=>x::wx r i m
noncomputable def NT.acc:NT->Int->PL->PL
 |.v i,m,p=>⟨p.c,wx p.n i m,p.z⟩ |.k c,m,p=>⟨p.c+m*Int.ofNat c,p.n,p.z⟩ |.add a b,m,p=>a.acc m (b.acc m p) |.ml c a,m,p=>a.acc (m*Int.ofNat c) p |.mr a c,m,p=>a.acc (m*Int.ofNat c) p
noncomputable def ZT.acc:ZT->Int->PL->PL
 |.v i,m,p=>⟨p.c,p.n,wx p.z i m⟩ |.k c,m,p=>⟨p.c+m*Int.ofNat c,p.n,p.z⟩ |.add a b,m,p=>a.acc m (b.acc m p) |.sub a b,m,p=>a.acc m (b.acc (-m) p) |.ml c a,m,p=>a.acc (m*Int.ofNat c) p |.mr a c,m,p=>a.acc (m*Int.ofNat c) p
 |.neg a,m,p=>a.acc (-m) p |.cast a,m,p=>a.acc m p
noncomputable def dot (f:Nat->Int):Nat->ah Int->Int
 |_,[]=>0 |s,c::r=>c*f s+dot f (s+1) r
noncomputable def PL.den (n:Nat->Nat) (z:Nat->Int) (p:PL):Int:=p.c+(dot (fun i=>(n i:Int)) 0 p.n+dot z 0 p.z)
noncomputable def PL.con (p:PL) (m:Int):PL:=⟨p.c+m,p.n,p.z⟩
noncomputable def clip:Int->Int
 |.ofNat m=>.ofNat m |.negSucc _=>0
noncomputable def Pu:aj->Pr->Int->PL->PL
 |true,.le x y,m,q=>y.acc (clip m) (x.acc (-clip m) q)
 |true,.lt x y,m,q=>(y.acc (clip m) (x.acc (-clip m) q)).con (-clip m)
 |true,.eq x y,m,q=>y.acc m (x.acc (-m) q)
 |true,.Xj x y,m,q=>y.acc (clip m) (x.acc (-clip m) q)
 |true,.UN x y,m,q=>(y.acc (clip m) (x.acc (-clip m) q)).con (-clip m)
 |true,.XG x y,m,q=>y.acc m (x.acc (-m) q)
 |false,.le x y,m,q=>(x.acc (clip m) (y.acc (-clip m) q)).con (-clip m)
 |false,.lt x y,m,q=>x.acc (clip m) (y.acc (-clip m) q)
 |false,.Xj x y,m,q=>(x.acc (clip m) (y.acc (-clip m) q)).con (-clip m)
 |false,.UN x y,m,q=>x.acc (clip m) (y.acc (-clip m) q)
 |_,_,_,q=>q
abbrev Fs:=ah (aj×Pr)
noncomputable def Rd:ah Int->Fs->PL->PL
 |m::ms,f::fs,q=>Rd ms fs (Pu f.1 f.2 m q)
 |_,_,q=>q
noncomputable def isNeg:Int->aj
 |.negSucc _=>ag |.ofNat _=>ao
noncomputable def Zd:Int->aj
 |.negSucc _=>ag |.ofNat m=>Nat.beq m 0
noncomputable def isZ:Int->aj
 |.negSucc _=>ao |.ofNat m=>Nat.beq m 0
noncomputable def allI (f:Int->aj):ah Int->aj
 |[]=>ag |x::r=>f x&&allI f r
noncomputable def PL.bad (q:PL):aj:=isNeg q.c&&(allI Zd q.n&&allI isZ q.z)
noncomputable def brs:aj->Pr->Fs×aB Fs
 |true,.or p q=>([(ag,p)],aa [(ag,q)])
 |true,.im p q=>([(ao,p)],aa [(ag,q)])
 |true,.an p q=>([(ag,p),(ag,q)],au)
 |true,.iff p q=>([(ag,p),(ag,q)],aa [(ao,p),(ao,q)])
 |true,.no p=>([(ao,p)],au)
 |false,.no p=>([(ag,p)],au)
 |false,.an p q=>([(ao,p)],aa [(ao,q)])
 |false,.or p q=>([(ao,p),(ao,q)],au)
 |false,.im p q=>([(ag,p),(ao,q)],au)
 |false,.iff p q=>([(ag,p),(ao,q)],aa [(ao,p),(ag,q)])
 |false,.eq a b=>([(ag,.lt a b)],aa [(ag,.lt b a)])
 |false,.XG a b=>([(ag,.UN a b)],aa [(ag,.UN b a)])
 |_,_=>([],au)
noncomputable def Df.brs (w:Nat):Df->Fs×aB Fs
 |.sub a b=>([(ag,.le b a),(ag,.eq a (.add (.v w) b))],aa [(ag,.lt a b),(ag,.eq (.v w) (.k 0))])
 |.dm a c=>([(ag,.eq a (.add (.ml c (.v w)) (.v (w+1)))),(ag,.lt (.v (w+1)) (.k c))],au)
 |.min a b=>([(ag,.le a b),(ag,.eq (.v w) a)],aa [(ag,.le b a),(ag,.eq (.v w) b)])
 |.max a b=>([(ag,.le a b),(ag,.eq (.v w) b)],aa [(ag,.le b a),(ag,.eq (.v w) a)])
 |.nat a=>([(ag,.Xj (.k 0) a),(ag,.XG (.cast (.v w)) a)],aa [(ag,.UN a (.k 0)),(ag,.eq (.v w) (.k 0))])
noncomputable def two (x:Fs×aB Fs) (G:Fs) (l r:Fs->aj):aj:=match x with
 |(a,au)=>l (G++a)
 |(a,aa b)=>l (G++a)&&r (G++b)
noncomputable def dAt:aB Df->Nat->Fs×aB Fs
 |some d,w=>d.brs w
 |none,_=>([],au)
noncomputable def Ct.ok (D:ah Df) (b:Nat):Ct->Fs->aj
 |.leaf ms,G=>(Rd ms G ⟨0,[],[]⟩).bad
 |.cs i l r,G=>match ux G i (ag,.ff) with
  |(t,p)=>two (Mine.brs t p) G (l.ok D b) (r.ok D b)
 |.df j l r,G=>two (dAt D[j]? (b+2*j)) G (l.ok D b) (r.ok D b)
open PySem
set_option genCtorIdx true in
inductive Bo |add |sub |mul |fdiv |mod |band |bor |shl |shr |bxor
set_option genCtorIdx true in
inductive Co |eq |ne |lt |le |gt |ge |is_ |lH
set_option genCtorIdx true in
inductive Bi |len |bytes |bytearray |min |max |sum |sorted |tuple |str |all
set_option genCtorIdx true in
inductive Vx (Nm Cn:Type)
 |none |bool (b:aj) |int (i:Int) |str (s:Str) |bytes (b:ah aA)
 |tup (xs:ah (Vx Nm Cn)) |bE (xs:ah (Vx Nm Cn)) |obj (C:Cn) (fs:ah (Nm×Vx Nm Cn)) |ref (a:ax)
structure Nm where
 n:Nat
 h:Nat.ble n 190=ag
 deriving DecidableEq
namespace Nm
noncomputable def xn:Nm:=⟨0,@rfl aj ag⟩
noncomputable def zR:Nm:=⟨1,@rfl aj ag⟩
noncomputable def kB:Nm:=⟨2,@rfl aj ag⟩
noncomputable def dg:Nm:=⟨3,@rfl aj ag⟩
noncomputable def dY:Nm:=⟨4,@rfl aj ag⟩
noncomputable def wF:Nm:=⟨5,@rfl aj ag⟩
noncomputable def jR:Nm:=⟨6,@rfl aj ag⟩
noncomputable def PF:Nm:=⟨7,@rfl aj ag⟩
noncomputable def bq:Nm:=⟨8,@rfl aj ag⟩
noncomputable def oQ:Nm:=⟨9,@rfl aj ag⟩
noncomputable def vc:Nm:=⟨10,@rfl aj ag⟩
noncomputable def vd:Nm:=⟨11,@rfl aj ag⟩
noncomputable def eK:Nm:=⟨12,@rfl aj ag⟩
noncomputable def cM:Nm:=⟨13,@rfl aj ag⟩
noncomputable def um:Nm:=⟨14,@rfl aj ag⟩
noncomputable def iL:Nm:=⟨15,@rfl aj ag⟩
noncomputable def aG:Nm:=⟨16,@rfl aj ag⟩
noncomputable def xb:Nm:=⟨17,@rfl aj ag⟩
noncomputable def xT:Nm:=⟨18,@rfl aj ag⟩
noncomputable def fX:Nm:=⟨19,@rfl aj ag⟩
noncomputable def jS:Nm:=⟨20,@rfl aj ag⟩
noncomputable def wI:Nm:=⟨21,@rfl aj ag⟩
noncomputable def NS:Nm:=⟨22,@rfl aj ag⟩
noncomputable def dA:Nm:=⟨23,@rfl aj ag⟩
noncomputable def eJ:Nm:=⟨24,@rfl aj ag⟩
noncomputable def bO:Nm:=⟨25,@rfl aj ag⟩
noncomputable def cp:Nm:=⟨26,@rfl aj ag⟩
noncomputable def gA:Nm:=⟨27,@rfl aj ag⟩
noncomputable def W5:Nm:=⟨28,@rfl aj ag⟩
noncomputable def gz:Nm:=⟨29,@rfl aj ag⟩
noncomputable def fZ:Nm:=⟨30,@rfl aj ag⟩
noncomputable def jJ:Nm:=⟨31,@rfl aj ag⟩
noncomputable def qE:Nm:=⟨32,@rfl aj ag⟩
noncomputable def q6:Nm:=⟨33,@rfl aj ag⟩
noncomputable def jj:Nm:=⟨34,@rfl aj ag⟩
noncomputable def xU:Nm:=⟨35,@rfl aj ag⟩
noncomputable def Ea:Nm:=⟨36,@rfl aj ag⟩
noncomputable def lA:Nm:=⟨37,@rfl aj ag⟩
noncomputable def aS:Nm:=⟨38,@rfl aj ag⟩
noncomputable def jQ:Nm:=⟨39,@rfl aj ag⟩
noncomputable def om:Nm:=⟨40,@rfl aj ag⟩
noncomputable def hZ:Nm:=⟨41,@rfl aj ag⟩
noncomputable def kZ:Nm:=⟨42,@rfl aj ag⟩
noncomputable def iU:Nm:=⟨43,@rfl aj ag⟩
noncomputable def iT:Nm:=⟨44,@rfl aj ag⟩
noncomputable def eO:Nm:=⟨45,@rfl aj ag⟩
noncomputable def gE:Nm:=⟨46,@rfl aj ag⟩
noncomputable def x_:Nm:=⟨47,@rfl aj ag⟩
noncomputable def dq:Nm:=⟨48,@rfl aj ag⟩
noncomputable def C7:Nm:=⟨49,@rfl aj ag⟩
noncomputable def qZ:Nm:=⟨50,@rfl aj ag⟩
noncomputable def cO:Nm:=⟨51,@rfl aj ag⟩
noncomputable def wJ:Nm:=⟨52,@rfl aj ag⟩
noncomputable def q0:Nm:=⟨53,@rfl aj ag⟩
noncomputable def cD:Nm:=⟨54,@rfl aj ag⟩
noncomputable def bU:Nm:=⟨55,@rfl aj ag⟩
noncomputable def il:Nm:=⟨56,@rfl aj ag⟩
noncomputable def ej:Nm:=⟨57,@rfl aj ag⟩
noncomputable def zO:Nm:=⟨58,@rfl aj ag⟩
noncomputable def zN:Nm:=⟨59,@rfl aj ag⟩
noncomputable def PH:Nm:=⟨60,@rfl aj ag⟩
noncomputable def dy:Nm:=⟨61,@rfl aj ag⟩
noncomputable def qX:Nm:=⟨62,@rfl aj ag⟩
noncomputable def xQ:Nm:=⟨63,@rfl aj ag⟩
noncomputable def Cg:Nm:=⟨64,@rfl aj ag⟩
noncomputable def C4:Nm:=⟨65,@rfl aj ag⟩
noncomputable def cn:Nm:=⟨66,@rfl aj ag⟩
noncomputable def iA:Nm:=⟨67,@rfl aj ag⟩
noncomputable def de:Nm:=⟨68,@rfl aj ag⟩
noncomputable def qa:Nm:=⟨69,@rfl aj ag⟩
noncomputable def xi:Nm:=⟨70,@rfl aj ag⟩
noncomputable def W6:Nm:=⟨71,@rfl aj ag⟩
noncomputable def mV:Nm:=⟨72,@rfl aj ag⟩
noncomputable def xk:Nm:=⟨73,@rfl aj ag⟩
noncomputable def cZ:Nm:=⟨74,@rfl aj ag⟩
noncomputable def cJ:Nm:=⟨75,@rfl aj ag⟩
noncomputable def lQ:Nm:=⟨76,@rfl aj ag⟩
noncomputable def qV:Nm:=⟨77,@rfl aj ag⟩
noncomputable def qb:Nm:=⟨78,@rfl aj ag⟩
noncomputable def C3:Nm:=⟨79,@rfl aj ag⟩
noncomputable def cV:Nm:=⟨80,@rfl aj ag⟩
noncomputable def fC:Nm:=⟨81,@rfl aj ag⟩
noncomputable def fN:Nm:=⟨82,@rfl aj ag⟩
noncomputable def b6:Nm:=⟨83,@rfl aj ag⟩
noncomputable def d_:Nm:=⟨84,@rfl aj ag⟩
noncomputable def u6:Nm:=⟨85,@rfl aj ag⟩
noncomputable def xS:Nm:=⟨86,@rfl aj ag⟩
noncomputable def Jz:Nm:=⟨87,@rfl aj ag⟩
noncomputable def GV:Nm:=⟨88,@rfl aj ag⟩
noncomputable def xt:Nm:=⟨89,@rfl aj ag⟩
noncomputable def lz:Nm:=⟨90,@rfl aj ag⟩
noncomputable def sR:Nm:=⟨91,@rfl aj ag⟩
noncomputable def fY:Nm:=⟨92,@rfl aj ag⟩
noncomputable def px:Nm:=⟨93,@rfl aj ag⟩
noncomputable def qW:Nm:=⟨94,@rfl aj ag⟩
noncomputable def uk:Nm:=⟨95,@rfl aj ag⟩
noncomputable def u_:Nm:=⟨96,@rfl aj ag⟩
noncomputable def ly:Nm:=⟨97,@rfl aj ag⟩
noncomputable def xe:Nm:=⟨98,@rfl aj ag⟩
noncomputable def p_:Nm:=⟨99,@rfl aj ag⟩
noncomputable def YB:Nm:=⟨100,@rfl aj ag⟩
noncomputable def oq:Nm:=⟨101,@rfl aj ag⟩
noncomputable def kC:Nm:=⟨102,@rfl aj ag⟩
noncomputable def C5:Nm:=⟨103,@rfl aj ag⟩
noncomputable def Jx:Nm:=⟨104,@rfl aj ag⟩
noncomputable def C9:Nm:=⟨105,@rfl aj ag⟩
noncomputable def mA:Nm:=⟨106,@rfl aj ag⟩
noncomputable def pw:Nm:=⟨107,@rfl aj ag⟩
noncomputable def dB:Nm:=⟨108,@rfl aj ag⟩
noncomputable def zT:Nm:=⟨109,@rfl aj ag⟩
noncomputable def jU:Nm:=⟨110,@rfl aj ag⟩
noncomputable def fR:Nm:=⟨111,@rfl aj ag⟩
noncomputable def gC:Nm:=⟨112,@rfl aj ag⟩
noncomputable def gK:Nm:=⟨113,@rfl aj ag⟩
noncomputable def lR:Nm:=⟨114,@rfl aj ag⟩
noncomputable def xR:Nm:=⟨115,@rfl aj ag⟩
noncomputable def UT:Nm:=⟨116,@rfl aj ag⟩
noncomputable def mU:Nm:=⟨117,@rfl aj ag⟩
noncomputable def GX:Nm:=⟨118,@rfl aj ag⟩
noncomputable def zk:Nm:=⟨119,@rfl aj ag⟩
noncomputable def GY:Nm:=⟨120,@rfl aj ag⟩
noncomputable def Ec:Nm:=⟨121,@rfl aj ag⟩
noncomputable def eg:Nm:=⟨122,@rfl aj ag⟩
noncomputable def uj:Nm:=⟨123,@rfl aj ag⟩
noncomputable def u4:Nm:=⟨124,@rfl aj ag⟩
noncomputable def u5:Nm:=⟨125,@rfl aj ag⟩
noncomputable def xO:Nm:=⟨126,@rfl aj ag⟩
noncomputable def hW:Nm:=⟨127,@rfl aj ag⟩
noncomputable def jT:Nm:=⟨128,@rfl aj ag⟩
noncomputable def vf:Nm:=⟨129,@rfl aj ag⟩
noncomputable def xN:Nm:=⟨130,@rfl aj ag⟩
noncomputable def C8:Nm:=⟨131,@rfl aj ag⟩
noncomputable def ve:Nm:=⟨132,@rfl aj ag⟩
noncomputable def W8:Nm:=⟨133,@rfl aj ag⟩
noncomputable def C6:Nm:=⟨134,@rfl aj ag⟩
noncomputable def sQ:Nm:=⟨135,@rfl aj ag⟩
noncomputable def iK:Nm:=⟨136,@rfl aj ag⟩
noncomputable def lB:Nm:=⟨137,@rfl aj ag⟩
noncomputable def PK:Nm:=⟨138,@rfl aj ag⟩
noncomputable def i8:Nm:=⟨139,@rfl aj ag⟩
noncomputable def f7:Nm:=⟨140,@rfl aj ag⟩
noncomputable def mW:Nm:=⟨141,@rfl aj ag⟩
noncomputable def xw:Nm:=⟨142,@rfl aj ag⟩
noncomputable def fy:Nm:=⟨143,@rfl aj ag⟩
noncomputable def aa3:Nm:=⟨144,@rfl aj ag⟩
noncomputable def km:Nm:=⟨145,@rfl aj ag⟩
noncomputable def u7:Nm:=⟨146,@rfl aj ag⟩
noncomputable def cx:Nm:=⟨147,@rfl aj ag⟩
noncomputable def iF:Nm:=⟨148,@rfl aj ag⟩
noncomputable def iz:Nm:=⟨149,@rfl aj ag⟩
noncomputable def qG:Nm:=⟨150,@rfl aj ag⟩
noncomputable def wG:Nm:=⟨151,@rfl aj ag⟩
noncomputable def xlog:Nm:=⟨152,@rfl aj ag⟩
noncomputable def qY:Nm:=⟨153,@rfl aj ag⟩
noncomputable def ip:Nm:=⟨154,@rfl aj ag⟩
noncomputable def xlast:Nm:=⟨155,@rfl aj ag⟩
noncomputable def zS:Nm:=⟨156,@rfl aj ag⟩
noncomputable def qD:Nm:=⟨157,@rfl aj ag⟩
noncomputable def vb:Nm:=⟨158,@rfl aj ag⟩
noncomputable def ji:Nm:=⟨159,@rfl aj ag⟩
noncomputable def xr:Nm:=⟨160,@rfl aj ag⟩
noncomputable def YC:Nm:=⟨161,@rfl aj ag⟩
noncomputable def tI:Nm:=⟨162,@rfl aj ag⟩
noncomputable def pv:Nm:=⟨163,@rfl aj ag⟩
noncomputable def zM:Nm:=⟨164,@rfl aj ag⟩
noncomputable def mX:Nm:=⟨165,@rfl aj ag⟩
noncomputable def tJ:Nm:=⟨166,@rfl aj ag⟩
noncomputable def mT:Nm:=⟨167,@rfl aj ag⟩
noncomputable def oo:Nm:=⟨168,@rfl aj ag⟩
noncomputable def mY:Nm:=⟨169,@rfl aj ag⟩
noncomputable def kA:Nm:=⟨170,@rfl aj ag⟩
noncomputable def PI:Nm:=⟨171,@rfl aj ag⟩
noncomputable def ot:Nm:=⟨172,@rfl aj ag⟩
noncomputable def cq:Nm:=⟨173,@rfl aj ag⟩
noncomputable def xP:Nm:=⟨174,@rfl aj ag⟩
noncomputable def u9:Nm:=⟨175,@rfl aj ag⟩
noncomputable def PG:Nm:=⟨176,@rfl aj ag⟩
noncomputable def YA:Nm:=⟨177,@rfl aj ag⟩
noncomputable def zP:Nm:=⟨178,@rfl aj ag⟩
noncomputable def Jy:Nm:=⟨179,@rfl aj ag⟩
noncomputable def Mm:Nm:=⟨180,@rfl aj ag⟩
noncomputable def zQ:Nm:=⟨181,@rfl aj ag⟩
noncomputable def Eb:Nm:=⟨182,@rfl aj ag⟩
noncomputable def xx:Nm:=⟨183,@rfl aj ag⟩
noncomputable def xy:Nm:=⟨184,@rfl aj ag⟩
noncomputable def xz:Nm:=⟨185,@rfl aj ag⟩
noncomputable def qF:Nm:=⟨186,@rfl aj ag⟩
noncomputable def NR:Nm:=⟨187,@rfl aj ag⟩
noncomputable def NU:Nm:=⟨188,@rfl aj ag⟩
noncomputable def GW:Nm:=⟨189,@rfl aj ag⟩
noncomputable def aa4:Nm:=⟨190,@rfl aj ag⟩
end Nm
structure Cn where
 n:Nat
 h:Nat.ble n 23=ag
 deriving DecidableEq
namespace Cn
noncomputable def Cursor:Cn:=⟨0,@rfl aj ag⟩
noncomputable def Sink:Cn:=⟨1,@rfl aj ag⟩
noncomputable def Entry:Cn:=⟨2,@rfl aj ag⟩
noncomputable def fQ:Cn:=⟨3,@rfl aj ag⟩
noncomputable def g_:Cn:=⟨4,@rfl aj ag⟩
noncomputable def Snapshot:Cn:=⟨5,@rfl aj ag⟩
noncomputable def iY:Cn:=⟨6,@rfl aj ag⟩
noncomputable def iy:Cn:=⟨7,@rfl aj ag⟩
noncomputable def j':Cn:=⟨8,@rfl aj ag⟩
noncomputable def wA:Cn:=⟨9,@rfl aj ag⟩
noncomputable def jP:Cn:=⟨10,@rfl aj ag⟩
noncomputable def xM:Cn:=⟨11,@rfl aj ag⟩
noncomputable def gy:Cn:=⟨12,@rfl aj ag⟩
noncomputable def qC:Cn:=⟨13,@rfl aj ag⟩
noncomputable def eV:Cn:=⟨14,@rfl aj ag⟩
noncomputable def gH:Cn:=⟨15,@rfl aj ag⟩
noncomputable def i7:Cn:=⟨16,@rfl aj ag⟩
noncomputable def kX:Cn:=⟨17,@rfl aj ag⟩
noncomputable def kY:Cn:=⟨18,@rfl aj ag⟩
noncomputable def hM:Cn:=⟨19,@rfl aj ag⟩
noncomputable def ua:Cn:=⟨20,@rfl aj ag⟩
noncomputable def GJ:Cn:=⟨21,@rfl aj ag⟩
noncomputable def B':Cn:=⟨22,@rfl aj ag⟩
noncomputable def jx:Cn:=⟨23,@rfl aj ag⟩
end Cn
structure Fn where
 n:Nat
 h:Nat.ble n 112=ag
 deriving DecidableEq
namespace Fn
noncomputable def qc:Fn:=⟨0,@rfl aj ag⟩
noncomputable def rf:Fn:=⟨1,@rfl aj ag⟩
noncomputable def Ae:Fn:=⟨2,@rfl aj ag⟩
noncomputable def ow:Fn:=⟨3,@rfl aj ag⟩
noncomputable def vy:Fn:=⟨4,@rfl aj ag⟩
noncomputable def k_:Fn:=⟨5,@rfl aj ag⟩
noncomputable def iw:Fn:=⟨6,@rfl aj ag⟩
noncomputable def rg:Fn:=⟨7,@rfl aj ag⟩
noncomputable def jW:Fn:=⟨8,@rfl aj ag⟩
noncomputable def tL:Fn:=⟨9,@rfl aj ag⟩
noncomputable def checksum:Fn:=⟨10,@rfl aj ag⟩
noncomputable def jB:Fn:=⟨11,@rfl aj ag⟩
noncomputable def yy:Fn:=⟨12,@rfl aj ag⟩
noncomputable def jz:Fn:=⟨13,@rfl aj ag⟩
noncomputable def qP:Fn:=⟨14,@rfl aj ag⟩
noncomputable def yz:Fn:=⟨15,@rfl aj ag⟩
noncomputable def yA:Fn:=⟨16,@rfl aj ag⟩
noncomputable def uc:Fn:=⟨17,@rfl aj ag⟩
noncomputable def yw:Fn:=⟨18,@rfl aj ag⟩
noncomputable def ub:Fn:=⟨19,@rfl aj ag⟩
noncomputable def B7:Fn:=⟨20,@rfl aj ag⟩
noncomputable def D7:Fn:=⟨21,@rfl aj ag⟩
noncomputable def D8:Fn:=⟨22,@rfl aj ag⟩
noncomputable def rising:Fn:=⟨23,@rfl aj ag⟩
noncomputable def zU:Fn:=⟨24,@rfl aj ag⟩
noncomputable def sO:Fn:=⟨25,@rfl aj ag⟩
noncomputable def D_:Fn:=⟨26,@rfl aj ag⟩
noncomputable def Cc:Fn:=⟨27,@rfl aj ag⟩
noncomputable def vM:Fn:=⟨28,@rfl aj ag⟩
noncomputable def vQ:Fn:=⟨29,@rfl aj ag⟩
noncomputable def kN:Fn:=⟨30,@rfl aj ag⟩
noncomputable def n_:Fn:=⟨31,@rfl aj ag⟩
noncomputable def uh:Fn:=⟨32,@rfl aj ag⟩
noncomputable def sN:Fn:=⟨33,@rfl aj ag⟩
noncomputable def oa:Fn:=⟨34,@rfl aj ag⟩
noncomputable def ui:Fn:=⟨35,@rfl aj ag⟩
noncomputable def sW:Fn:=⟨36,@rfl aj ag⟩
noncomputable def pz:Fn:=⟨37,@rfl aj ag⟩
noncomputable def yc:Fn:=⟨38,@rfl aj ag⟩
noncomputable def yd:Fn:=⟨39,@rfl aj ag⟩
noncomputable def oM:Fn:=⟨40,@rfl aj ag⟩
noncomputable def oG:Fn:=⟨41,@rfl aj ag⟩
noncomputable def j7:Fn:=⟨42,@rfl aj ag⟩
noncomputable def oH:Fn:=⟨43,@rfl aj ag⟩
noncomputable def kr:Fn:=⟨44,@rfl aj ag⟩
noncomputable def eU:Fn:=⟨45,@rfl aj ag⟩
noncomputable def ij:Fn:=⟨46,@rfl aj ag⟩
noncomputable def ka:Fn:=⟨47,@rfl aj ag⟩
noncomputable def jH:Fn:=⟨48,@rfl aj ag⟩
noncomputable def jt:Fn:=⟨49,@rfl aj ag⟩
noncomputable def kh:Fn:=⟨50,@rfl aj ag⟩
noncomputable def ja:Fn:=⟨51,@rfl aj ag⟩
noncomputable def jw:Fn:=⟨52,@rfl aj ag⟩
noncomputable def hU:Fn:=⟨53,@rfl aj ag⟩
noncomputable def kz:Fn:=⟨54,@rfl aj ag⟩
noncomputable def kg:Fn:=⟨55,@rfl aj ag⟩
noncomputable def lN:Fn:=⟨56,@rfl aj ag⟩
noncomputable def iv:Fn:=⟨57,@rfl aj ag⟩
noncomputable def oL:Fn:=⟨58,@rfl aj ag⟩
noncomputable def lL:Fn:=⟨59,@rfl aj ag⟩
noncomputable def mx:Fn:=⟨60,@rfl aj ag⟩
noncomputable def mw:Fn:=⟨61,@rfl aj ag⟩
noncomputable def u0:Fn:=⟨62,@rfl aj ag⟩
noncomputable def iu:Fn:=⟨63,@rfl aj ag⟩
noncomputable def t_:Fn:=⟨64,@rfl aj ag⟩
noncomputable def p9:Fn:=⟨65,@rfl aj ag⟩
noncomputable def my:Fn:=⟨66,@rfl aj ag⟩
noncomputable def nW:Fn:=⟨67,@rfl aj ag⟩
noncomputable def oO:Fn:=⟨68,@rfl aj ag⟩
noncomputable def wz:Fn:=⟨69,@rfl aj ag⟩
noncomputable def nV:Fn:=⟨70,@rfl aj ag⟩
noncomputable def lM:Fn:=⟨71,@rfl aj ag⟩
noncomputable def sL:Fn:=⟨72,@rfl aj ag⟩
noncomputable def ky:Fn:=⟨73,@rfl aj ag⟩
noncomputable def oP:Fn:=⟨74,@rfl aj ag⟩
noncomputable def nX:Fn:=⟨75,@rfl aj ag⟩
noncomputable def oN:Fn:=⟨76,@rfl aj ag⟩
noncomputable def ju:Fn:=⟨77,@rfl aj ag⟩
noncomputable def jv:Fn:=⟨78,@rfl aj ag⟩
noncomputable def jO:Fn:=⟨79,@rfl aj ag⟩
noncomputable def p8:Fn:=⟨80,@rfl aj ag⟩
noncomputable def kc:Fn:=⟨81,@rfl aj ag⟩
noncomputable def zh:Fn:=⟨82,@rfl aj ag⟩
noncomputable def mz:Fn:=⟨83,@rfl aj ag⟩
noncomputable def ue:Fn:=⟨84,@rfl aj ag⟩
noncomputable def rQ:Fn:=⟨85,@rfl aj ag⟩
noncomputable def uG:Fn:=⟨86,@rfl aj ag⟩
noncomputable def oV:Fn:=⟨87,@rfl aj ag⟩
noncomputable def nZ:Fn:=⟨88,@rfl aj ag⟩
noncomputable def uf:Fn:=⟨89,@rfl aj ag⟩
noncomputable def ug:Fn:=⟨90,@rfl aj ag⟩
noncomputable def n9:Fn:=⟨91,@rfl aj ag⟩
noncomputable def lO:Fn:=⟨92,@rfl aj ag⟩
noncomputable def jI:Fn:=⟨93,@rfl aj ag⟩
noncomputable def ki:Fn:=⟨94,@rfl aj ag⟩
noncomputable def x5:Fn:=⟨95,@rfl aj ag⟩
noncomputable def pG:Fn:=⟨96,@rfl aj ag⟩
noncomputable def vH:Fn:=⟨97,@rfl aj ag⟩
noncomputable def ry:Fn:=⟨98,@rfl aj ag⟩
noncomputable def j6:Fn:=⟨99,@rfl aj ag⟩
noncomputable def mC:Fn:=⟨100,@rfl aj ag⟩
noncomputable def s_:Fn:=⟨101,@rfl aj ag⟩
noncomputable def E0:Fn:=⟨102,@rfl aj ag⟩
noncomputable def ql:Fn:=⟨103,@rfl aj ag⟩
noncomputable def ny:Fn:=⟨104,@rfl aj ag⟩
noncomputable def HV:Fn:=⟨105,@rfl aj ag⟩
noncomputable def rx:Fn:=⟨106,@rfl aj ag⟩
noncomputable def w0:Fn:=⟨107,@rfl aj ag⟩
noncomputable def zC:Fn:=⟨108,@rfl aj ag⟩
noncomputable def AD:Fn:=⟨109,@rfl aj ag⟩
noncomputable def lG:Fn:=⟨110,@rfl aj ag⟩
noncomputable def AE:Fn:=⟨111,@rfl aj ag⟩
noncomputable def law:Fn:=⟨112,@rfl aj ag⟩
end Fn
noncomputable def eG {α:Type}:ah (Nm×α)->Nm->aB α
 |[],_=>Option.none
 |(k,v)::r,f=>if k=f then aa v else eG r f
noncomputable def Q0:ah b_:=[
 "n","most","out","append","at","shift","octets","turn","data","octet","MAX_64","MAX_32",
 "count","kind","CHECK_CRC","CHECK_SUM","self","b","left","parts","extend","nid","ids","cursor",
 "varint","term","index","length","head","sink","entry","lengthed","done","ENTRY_CONF","ENTRY_NORMAL","body",
 "total","kept","entries","size","vote","commit","voters","learners","outgoing","learners_next","auto_leave","_",
 "conf","flag","RW_HARD","hard","RW_ENTRY","RW_FOLD","base_index","base_term","pending","record","take_fold","take_hard",
 "stand","place","begin","snap","lo","hi","last_index","first","first_index","limit","i","copy",
 "start","k","snapshot","offset","found","maybe_term","after","part","storage","max_committed","unstable","committed",
 "applied","maybe_first","maybe_last","known","term_at","t","match_term","log_term","newest","conflict","find_conflict","commit_to",
 "before","truncate_and_append","e","stable_to","empty","pending_snapshot","first_unapplied","has_next","slice","NO_LIMIT","end","entries_between",
 "block","MAX_BLOCK","HEADER","check","file","begun","ended","room","put","upto","LAST","MIDDLE",
 "FULL","FIRST","block_end","short","skipped","reasons","torn","good_length","breaks","AT_END","turn_block","drop",
 "BROKEN","ZERO","fragment","reader","records","good","read","nums","rows","row","w","writer",
 "add","ends","closing","base","synced","saves","apply_snapshot","set_hard","log","applied_to","now","last",
 "last_term","next_committed","all_entries","lead","r","cut","sure","sent","want","apart","maybe_append","waits",
 "unstable_entries","acked","whole","save","closed","state","take","check_whole","told","was","refused","odd",
 "fold","other","script","x","y","z","cuts","way","CRC_POLY","MASK_DELTA","NONE"
 ]
noncomputable def acw:ah b_:=[
 "Cursor","Sink","Entry","HardState","ConfState","Snapshot","SegmentState","MemoryStorage","Unstable","RaftLog","LogWriter","LogReader",
 "KeepError","StoreError","Corrupt","ShortOctets","BadOption","RaftError","Compacted","Unavailable","SnapOutOfDate","SnapNotReady","LogGap","LogPanic"
 ]
noncomputable def XD:ah (b_×aj):=[
 ("write_groups",ag),("read_groups",ag),("put_varint",ag),("read_varint",ag),("put_varint32",ag),("read_varint32",ag),("varint_length",ag),("put_fixed32",ag),("read_fixed32",ag),("read_lengthed",ag),("checksum",ag),("__init__",ao),
 ("left",ao),("varint",ao),("lengthed",ao),("flag",ao),("done",ao),("__init__",ao),("varint",ao),("lengthed",ao),("octet",ao),("flag",ao),("done",ao),("rising",ag),
 ("take_count",ag),("__init__",ao),("row",ao),("size",ao),("encode_entry",ag),("decode_entry",ag),("limit_size",ag),("__init__",ao),("row",ao),("copy",ao),("__init__",ao),("row",ao),
 ("put_ids",ag),("take_ids",ag),("encode_conf",ag),("decode_conf",ag),("__init__",ao),("hard_record",ag),("entry_record",ag),("fold_record",ag),("__init__",ao),("take",ao),("take_fold",ao),("take_hard",ao),
 ("stand",ao),("check_whole",ao),("__init__",ao),("first_index",ao),("last_index",ao),("entries_between",ao),("term_at",ao),("set_hard",ao),("append",ao),("apply_snapshot",ao),("__init__",ao),("maybe_first",ao),
 ("maybe_last",ao),("maybe_term",ao),("stable_to",ao),("truncate_and_append",ao),("part",ao),("__init__",ao),("first_index",ao),("last_index",ao),("last_term",ao),("term",ao),("match_term",ao),("maybe_append",ao),
 ("append",ao),("find_conflict",ao),("commit_to",ao),("applied_to",ao),("stable_to",ao),("unstable_entries",ao),("pending_snapshot",ao),("first_unapplied",ao),("has_next",ao),("next_committed",ao),("entries",ao),("all_entries",ao),
 ("slice",ao),("check_block",ag),("check_kind",ag),("make_fragment",ag),("__init__",ao),("put",ao),("add",ao),("__init__",ao),("turn_block",ao),("fragment",ao),("read",ao),("read_prefix",ag),
 ("_law_draw",ag),("_law_rows",ag),("_law_entries",ag),("_law_told",ag),("_law_put",ag),("_law_begin",ag),("_law_log",ag),("_law_agrees",ag),("_law_append",ag),("_law_held",ag),("_law_save",ag),("_law_apply",ag),
 ("_law_cut",ag),("_law_says",ag),("_law_refuses",ag),("_law_ends",ag),("law",ag)
 ]
noncomputable def Nm.s (x:Nm):b_:=ux Q0 x.n ""
noncomputable def Cn.s (x:Cn):b_:=ux acw x.n ""
noncomputable def Fn.s (x:Fn):b_:=(ux XD x.n ("",ao)).1
noncomputable def Fn.top (x:Fn):aj:=(ux XD x.n ("",ao)).2
noncomputable def M6:ah (Nm×Int):=[
 (.vd,4294967295),(.vc,18446744073709551615),(.um,1),(.iL,2),(.NU,2197175160),(.GW,2726488792),(.aa4,0),(.C9,18446744073709551615),(.jj,0),(.q6,2),(.qZ,1),(.wJ,2),
 (.q0,4),(.jU,7),(.zT,65542),(.W8,0),(.GY,1),(.Ec,2),(.zk,3),(.GX,4),(.vf,(-1)),(.ve,(-2))
 ]
noncomputable def Ry (x:Nm):aB Int:=eG M6 x
noncomputable def EY:ah (ah (Nm×Fn)):=[
 [(.xT,.yy),(.eJ,.jz),(.jJ,.qP),(.C7,.yz),(.qE,.yA)],
 [(.eJ,.yw),(.jJ,.ub),(.oQ,.B7),(.C7,.D7),(.qE,.D8)],
 [(.mW,.D_),(.jQ,.Cc)],
 [(.mW,.uh),(.W6,.sN)],
 [(.mW,.ui)],
 [],
 [(.xP,.eU),(.zO,.ij),(.zN,.ka),(.PH,.jH),(.u9,.jt)],
 [(.de,.ja),(.cn,.jw),(.pw,.hU),(.GV,.kz),(.wG,.kg),(.dg,.lN),(.qG,.iv)],
 [(.u6,.lL),(.xS,.mx),(.qV,.mw),(.p_,.u0),(.ly,.iu),(.C3,.t_)],
 [(.de,.my),(.cn,.nW),(.zS,.oO),(.bO,.wz),(.lz,.nV),(.tJ,.lM),(.dg,.sL),(.qW,.ky),(.uk,.oP),(.qY,.nX),(.p_,.oN),(.oo,.ju),(.oq,.jv),(.kC,.jO),(.C5,.p8),(.qD,.kc),(.aS,.zh),(.vb,.mz),(.Jx,.ue)],
 [(.UT,.uf),(.aa3,.ug)],
 [(.xN,.lO),(.C6,.jI),(.PK,.ki)],
 [],
 [],
 [],
 [],
 [],
 [],
 [],
 [],
 [],
 [],
 [],
 []
 ]
noncomputable def rp (C:Cn) (m:Nm):aB Fn:=eG (ux EY C.n []) m
noncomputable def VT:ah (aB Fn):=[
 aa .jB,aa .uc,aa .sO,aa .n_,aa .oa,aa .oM,
 aa .kr,aa .kh,aa .oL,aa .p9,aa .nZ,aa .n9,
 au,au,au,au,au,au,
 au,au,au,au,au,au
 ]
noncomputable def rC (C:Cn):aB Fn:=ux VT C.n au
noncomputable def RJ:ah (ah Nm):=[
 [.bq,.dY],
 [.fX],
 [.bO,.cp,.cM,.bq],
 [.bO,.om,.hZ],
 [.kZ,.iU,.iT,.eO,.gE],
 [.cp,.bO,.dq,.bq],
 [.eK,.cD,.bU,.dq,.cO,.aS,.il],
 [.cO,.dq,.xQ,.cD,.bU,.aS],
 [.cZ,.aS,.cJ],
 [.cV,.fC,.fN,.b6,.d_],
 [.gC,.dB,.fR,.gA],
 [.bq,.dB,.fR,.dY,.eg,.uj,.u4,.u5,.xO,.hW,.jT],
 [],
 [],
 [],
 [],
 [],
 [],
 [],
 [],
 [],
 [],
 [],
 []
 ]
noncomputable def fieldsOf (C:Cn):ah Nm:=ux RJ C.n []
noncomputable def abr:ah (ah Nm):=[
 [.xn,.zR],
 [.bq,.dY,.jR,.zR],
 [.xn],
 [.bq,.dY],
 [.xn],
 [.bq,.dY],
 [.xn],
 [.xn],
 [.bq,.dY],
 [.bq,.dY],
 [.cM,.bq],
 [.aG,.bq,.dY],
 [.aG],
 [.aG],
 [.aG],
 [.aG],
 [.aG],
 [.aG],
 [.aG,.xn],
 [.aG,.xb],
 [.aG,.xn],
 [.aG,.xb],
 [.aG],
 [.NS],
 [.dA],
 [.aG,.bO,.cp,.cM,.bq],
 [.aG],
 [.aG],
 [.fZ],
 [.bq],
 [.aS,.xn],
 [.aG,.bO,.om,.hZ],
 [.aG],
 [.aG],
 [.aG,.kZ,.iU,.iT,.eO,.gE],
 [.aG],
 [.gz,.NS],
 [.dA],
 [.dq],
 [.bq],
 [.aG,.cp,.bO,.dq,.bq],
 [.cO],
 [.fZ],
 [.cp,.bO,.dq],
 [.aG],
 [.aG,.ej],
 [.aG,.ej],
 [.aG,.ej],
 [.aG,.fZ],
 [.aG],
 [.aG,.dq],
 [.aG],
 [.aG],
 [.aG,.Cg,.C4,.qa],
 [.aG,.xi],
 [.aG,.cO],
 [.aG,.aS],
 [.aG,.cZ],
 [.aG,.cJ],
 [.aG],
 [.aG],
 [.aG,.xi],
 [.aG,.xi,.bO],
 [.aG,.aS],
 [.aG,.Cg,.C4],
 [.aG,.cV,.fC],
 [.aG],
 [.aG],
 [.aG],
 [.aG,.xi],
 [.aG,.xi,.xt],
 [.aG,.cp,.sR,.b6,.aS],
 [.aG,.aS],
 [.aG,.aS],
 [.aG,.xi],
 [.aG,.xi],
 [.aG,.xi,.bO],
 [.aG],
 [.aG],
 [.aG],
 [.aG],
 [.aG],
 [.aG,.xi,.qa],
 [.aG],
 [.aG,.Cg,.C4,.qa],
 [.dB],
 [.fR],
 [.cM,.bq,.fR],
 [.aG,.gC,.dB,.fR,.gA],
 [.aG,.jR],
 [.aG,.jR],
 [.aG,.bq,.dB,.fR],
 [.aG],
 [.aG],
 [.aG],
 [.bq,.dB,.fR],
 [.i8,.xi],
 [.bO,.cp,.eK],
 [.f7],
 [.aS],
 [.xw,.ej],
 [.xw,.f7,.cO],
 [.xw,.aS,.cO],
 [.xw],
 [.xw,.xr],
 [.xw,.dy,.bO],
 [.xw,.xr],
 [.xw,.xr],
 [.xw,.xr],
 [.cq],
 [.cq,.iK],
 [.xw,.xr],
 [.Eb]
 ]
noncomputable def Fn.ps (f:Fn):ah Nm:=ux abr f.n []
noncomputable def YG:ah (ah Cn):=[
 [],[],
 [],[],
 [],[],
 [],[],
 [],[],
 [],[],
 [.gy],[.qC,.gy],
 [.eV,.qC,.gy],[.gH,.eV,.qC,.gy],
 [.i7,.qC,.gy],[.kX,.gy],
 [.kY,.kX,.gy],[.hM,.kX,.gy],
 [.ua,.kX,.gy],[.GJ,.kX,.gy],
 [.B',.kX,.gy],[.jx,.kX,.gy]
 ]
noncomputable abbrev V:=Vx Nm Cn
set_option genCtorIdx true in
inductive Mo
 |bE (xs:ah V) |inst (C:Cn) (fs:ah (Nm×V)) |i_ (fs:ah (Nm×V)) |ba (bs:ah aA)
mutual
inductive E
 |none |bool (b:aj) |int (i:Int) |cK |bytes (bs:ah Nat)
 |aC (x:Nm) |glob (g:Nm)
 |bR (op:Bo) (a b:E) |neg (a:E) |kL (a:E) |b7 (afd:aj) (es:Es)
 |ite (c a b:E) |cB (a:E) (op:Co) (b:E) |KN (a:E) (op:Co) (b:E) (Vu:Co) (c:E)
 |aV (e:E) (f:Nm) |key (e:E) (k:Nm) |idx (e i:E) |slice (fz:aj) (e lo hi:E)
 |list (fz:aj) (es:Es) |tuple (es:Es) |dict (ks:ah Nm) (es:Es)
 |bL (f:Fn) (es:Es) |new (fz:aj) (C:Cn) (es:Es) |bk (e:E) (m:Nm) (es:Es) |bc (b:Bi) (es:Es)
 |comp (fz:aj) (elt:E) (tup:aj) (fL:ah Nm) (it cond:E) (fv:ah Nm) |gO (es:Es) |fmt (e:E) |skip
inductive Es
 |nil |cons (e:E) (es:Es)
end
inductive Hr
 |Qp (b:aj) |setB (x:Nm) (b:aj) |other
mutual
inductive S
 |expr (e:E) |bz (x:Nm) (e:E) |jA (xs:ah Nm) (e:E) |setAttr (e:E) (f:Nm) (v:E) |c4 (e:E) (k:Nm) (v:E)
 |aug (x:Nm) (op:Bo) (e:E) |ic (e:E) (f:Nm) (op:Bo) (v:E) |sm (e:E) (k:Nm) (op:Bo) (v:E)
 |dp (c:E) (a b:Ss) |kD (c:E) (b:Ss) |uE (x:Nm) (e:E) (b:Ss) |forR (x:Nm) (lo hi:E) (b:Ss)
 |ret (e:E) |yH |cC (C:Cn) (e:E) |Eh (b:Ss) (tup:aj) (cs:ah Cn) (h:Hr) |brk |pass |freeze (x:Nm)
inductive Ss
 |nil |cons (s:S) (r:Ss)
end
noncomputable def E.yL (e:E):aj:=by cases e with
 |none=>exact ag
 |_=>exact ao
noncomputable abbrev Hp:=ax->aB Mo
noncomputable abbrev b5:=Nm->aB V
noncomputable abbrev PV:=V->Hp->Prop
noncomputable abbrev PX:=Cn->Hp->Prop
noncomputable abbrev CC:=Fn->ah V->Hp->PV->PX->Prop
set_option genCtorIdx true in
inductive Out |next |brk |cont |ret (v:V)
noncomputable abbrev PO:=Out->b5->Hp->Prop
noncomputable abbrev fk:=Cn->b5->Hp->Prop
noncomputable def b5.set (L:b5) (x:Nm) (v:V):b5:=fun y=>if y=x then aa v else L y
noncomputable def b5.only (L:b5) (fv:ah Nm):b5:=fun y=>if y∈fv then L y else Option.none
noncomputable def Hp.set (H:Hp) (a:ax) (o:Mo):Hp:=fun b=>if b=a then aa o else H b
noncomputable def Hp.drop (H:Hp) (a:ax):Hp:=fun b=>if b=a then Option.none else H b
def Hp.le (H H':Hp):Prop:=∀ a o,H a=aa o->H' a=aa o
noncomputable def cL:ah (Nm×V)->Nm->V->ah (Nm×V)
 |[],f,v=>[(f,v)]
 |(k,w)::r,f,v=>if k=f then(k,v)::r else(k,w)::cL r f v
noncomputable def line:Nat:=16777216
noncomputable def Mo.tv:Mo->aB (ah V)
 |.bE xs=>aa xs |.inst _ _=>au |.i_ _=>au |.ba _=>au
noncomputable def Mo.ZK:Mo->aB (ah (Nm×V))
 |.bE _=>au |.inst _ _=>au |.i_ fs=>aa fs |.ba _=>au
noncomputable def Mo.RD:Mo->aB (ah (Nm×V))
 |.bE _=>au |.inst _ fs=>aa fs |.i_ _=>au |.ba _=>au
noncomputable def Mo.cls?:Mo->aB Cn
 |.bE _=>au |.inst C _=>aa C |.i_ _=>au |.ba _=>au
noncomputable def Mo.kind?:Mo->aB aj
 |.bE _=>aa ag |.inst _ _=>au |.i_ _=>au |.ba _=>aa ao
section
variable (H:Hp)
noncomputable def listOf:V->aB (ah V)
 |.bE xs=>aa xs |.ref a=>(H a).bind Mo.tv
 |.none=>au |.bool _=>au |.int _=>au |.str _=>au |.bytes _=>au |.tup _=>au |.obj _ _=>au
noncomputable def RA (f:Nm):V->aB V
 |.obj _ fs=>eG fs f |.ref a=>((H a).bind Mo.RD).bind fun fs=>eG fs f
 |.none=>au |.bool _=>au |.int _=>au |.str _=>au |.bytes _=>au |.tup _=>au |.bE _=>au
noncomputable def OO (f:Nm):V->aB V
 |.ref a=>((H a).bind Mo.ZK).bind fun fs=>eG fs f
 |.none=>au |.bool _=>au |.int _=>au |.str _=>au |.bytes _=>au |.tup _=>au |.bE _=>au |.obj _ _=>au
noncomputable def A6:V->aB Cn
 |.obj C _=>aa C |.ref a=>(H a).bind Mo.cls?
 |.none=>au |.bool _=>au |.int _=>au |.str _=>au |.bytes _=>au |.tup _=>au |.bE _=>au
noncomputable def kindB:V->aB aj
 |.ref a=>(H a).bind Mo.kind?
 |.none=>au |.bool _=>au |.int _=>au |.str _=>au |.bytes _=>au |.tup _=>au |.bE _=>au |.obj _ _=>au
noncomputable def Ko (xs:ah V):aB aj:=if xs.length<=line then aa (!xs.isEmpty) else au
noncomputable def truth:V->aB aj
 |.bool b=>aa b |.none=>aa ao |.int i=>aa (decide (i≠0)) |.bE xs=>Ko xs |.ref a=>((H a).bind Mo.tv).bind Ko
 |.str _=>au |.bytes _=>au |.tup _=>au |.obj _ _=>au
end
noncomputable def kq:V->aB Int
 |.int i=>aa i
 |.none=>au |.bool _=>au |.ref _=>au |.str _=>au |.bytes _=>au |.tup _=>au |.bE _=>au |.obj _ _=>au
noncomputable def Sw:V->aB aj
 |.bool i=>aa i
 |.none=>au |.int _=>au |.ref _=>au |.str _=>au |.bytes _=>au |.tup _=>au |.bE _=>au |.obj _ _=>au
noncomputable def I8:V->aB (ah aA)
 |.bytes i=>aa i
 |.none=>au |.int _=>au |.ref _=>au |.str _=>au |.bool _=>au |.tup _=>au |.bE _=>au |.obj _ _=>au
noncomputable def XU:V->aB Str
 |.str i=>aa i
 |.none=>au |.int _=>au |.ref _=>au |.bytes _=>au |.bool _=>au |.tup _=>au |.bE _=>au |.obj _ _=>au
noncomputable def MO (k:ah V->Prop):V->Prop
 |.tup i=>k i
 |.none=>False |.int _=>False |.ref _=>False |.bytes _=>False |.bool _=>False |.str _=>False |.bE _=>False |.obj _ _=>False
noncomputable def flat:V->aj
 |.none=>ag |.bool _=>ag |.int _=>ag |.bytes _=>ag |.str _=>ag
 |.ref _=>ao |.tup _=>ao |.bE _=>ao |.obj _ _=>ao
noncomputable def isNone:V->aj
 |.none=>ag
 |.bool _=>ao |.int _=>ao |.bytes _=>ao |.str _=>ao |.ref _=>ao |.tup _=>ao |.bE _=>ao |.obj _ _=>ao
noncomputable def intsOf:ah V->aB (ah Int)
 |[]=>aa []
 |x::r=>(kq x).bind fun i=>(intsOf r).map (i:: ·)
noncomputable def boolsOf:ah V->aB (ah aj)
 |[]=>aa []
 |x::r=>(Sw x).bind fun i=>(boolsOf r).map (i:: ·)
noncomputable def oS (f:V->V->aB aj):ah V->ah V->aB aj
 |[],[]=>aa ag
 |[],_::_=>aa ao
 |_::_,[]=>aa ao
 |x::xs,y::ys=>(f x y).bind fun a=>(oS f xs ys).map (a&& ·)
noncomputable def acr (i:Int):V->aB aj
 |.int j=>aa (decide (i=j)) |.none=>aa ao
 |.bool _=>au |.ref _=>au |.str _=>au |.bytes _=>au |.tup _=>au |.bE _=>au |.obj _ _=>au
noncomputable def ZH:V->aB aj
 |.none=>aa ag |.int _=>aa ao |.tup _=>aa ao
 |.bool _=>au |.ref _=>au |.str _=>au |.bytes _=>au |.bE _=>au |.obj _ _=>au
noncomputable def eqBool (i:aj) (y:V):aB aj:=(Sw y).map fun j=>decide (i=j)
noncomputable def aeB (i:ah aA) (y:V):aB aj:=(I8 y).map fun j=>decide (i=j)
noncomputable def acp (f:V->V->aB aj) (xs:ah V):V->aB aj
 |.tup ys=>if xs.length=ys.length then oS f xs ys else au
 |.none=>aa ao
 |.int _=>au |.bool _=>au |.ref _=>au |.str _=>au |.bytes _=>au |.bE _=>au |.obj _ _=>au
noncomputable def acq (f:V->V->aB aj) (xs:ah V):V->aB aj
 |.bE ys=>if xs.length=ys.length then oS f xs ys else aa ao
 |.none=>au |.int _=>au |.bool _=>au |.ref _=>au |.str _=>au |.bytes _=>au |.tup _=>au |.obj _ _=>au
noncomputable def tM:Nat->V->V->aB aj
 | 0,_,_=>au
 |n+1,x,y=>match x with
  |.none=>ZH y |.int i=>acr i y |.bool i=>eqBool i y |.bytes i=>aeB i y |.tup xs=>acp (tM n) xs y |.bE xs=>acq (tM n) xs y
  |.ref _=>au |.str _=>au |.obj _ _=>au
noncomputable def norm (H:Hp) (v:V):V:=(listOf H v).elim v .bE
def small (i:Int):Prop:=i.natAbs < 2 ^ 200
noncomputable def Mv:Nat:=100000
inductive Got {α:Type} (o:aB α) (k:α->Prop):Prop
 |mk (v:α) (h:o=aa v) (q:k v)
inductive IsI (x:V) (k:Int->Prop):Prop
 |mk (i:Int) (h:x=.int i) (q:k i)
def oY (x y:V) (k:Int->Int->Prop):Prop:=Got (kq x) fun i=>Got (kq y) (k i)
def Y6 (i j:Int) (P:Prop):Prop:=0<=i/\0<=j/\P
inductive yB (H:Hp) (x y:V) (k:ah V->Prop):Prop
 |mk (xs ys:ah V) (hx:listOf H x=aa xs) (hy:listOf H y=aa ys) (hl:xs.length+ys.length<=line) (q:k (xs++ys))
def acY (x y:V) (H:Hp) (Q:PV):Prop:=match x with
 |.int i=>Got (kq y) fun j=>Q (.int (i+j)) H
 |.bytes b=>Got (I8 y) fun c=>b.length+c.length<=line/\Q (.bytes (b++c)) H
 |.str a=>Got (XU y) fun b=>a.length+b.length<=Mv/\∀ s:Str,s.length<=a.length+b.length->Q (.str s) H
 |.bE xs=>yB H (.bE xs) y fun zs=>Q (.bE zs) H
 |.ref a=>yB H (.ref a) y fun zs=>Q (.bE zs) H
 |.none=>False |.bool _=>False |.tup _=>False |.obj _ _=>False
def abB (x y:V) (H:Hp) (Q:PV):Prop:=match x with
 |.int i=>Got (kq y) fun j=>small i/\small j/\Q (.int (i*j)) H
 |.bytes b=>Got (kq y) fun j=>0<=j/\j<=100/\b≠[]/\b.length<=16/\Q (.bytes (List.replicate j.toNat b).flatten) H
 |.str _=>False |.bE _=>False |.ref _=>False |.none=>False |.bool _=>False |.tup _=>False |.obj _ _=>False
def binOp (op:Bo) (x y:V) (H:Hp) (Q:PV):Prop:=match op with
 |.add=>acY x y H Q
 |.sub=>oY x y fun i j=>Q (.int (i-j)) H
 |.mul=>abB x y H Q
 |.fdiv=>oY x y fun i j=>0 < j/\j < 1073741824/\Q (.int (i / j)) H
 |.mod=>oY x y fun i j=>0 < j/\Q (.int (i % j)) H
 |.band=>oY x y fun i j=>Y6 i j (Q (.int (Int.ofNat (i.toNat&&& j.toNat))) H)
 |.bor=>oY x y fun i j=>Y6 i j (Q (.int (Int.ofNat (i.toNat |||j.toNat))) H)
 |.shl=>oY x y fun i j=>0<=i/\small i/\0<=j/\j<=100/\Q (.int (Int.ofNat (i.toNat <<< j.toNat))) H
 |.shr=>oY x y fun i j=>0<=i/\0<=j/\j<=100/\Q (.int (Int.ofNat (i.toNat >>> j.toNat))) H
 |.bxor=>False
def Bz (op:Bo) (x y:V) (Q:V->Prop):Prop:=match op with
 |.add=>oY x y fun i j=>Q (.int (i+j))
 |.sub=>oY x y fun i j=>Q (.int (i-j))
 |.bor=>oY x y fun i j=>Y6 i j (Q (.int (Int.ofNat (i.toNat |||j.toNat))))
 |.shr=>oY x y fun i j=>0<=i/\0<=j/\j<=100/\Q (.int (Int.ofNat (i.toNat >>> j.toNat)))
 |.mul=>False |.fdiv=>False |.mod=>False |.band=>False |.shl=>False |.bxor=>False
def yj (op:Co) (x y:V) (H:Hp) (k:aj->Prop):Prop:=match op with
 |.lt=>oY x y fun i j=>k (decide (i < j))
 |.le=>oY x y fun i j=>k (decide (i<=j))
 |.gt=>oY x y fun i j=>k (decide (j < i))
 |.ge=>oY x y fun i j=>k (decide (j<=i))
 |.eq=>Got (tM 6 (norm H x) (norm H y)) k
 |.ne=>Got (tM 6 (norm H x) (norm H y)) fun b=>k (!b)
 |.is_=>isNone y=ag/\k (isNone x)
 |.lH=>isNone y=ag/\k (!isNone x)
noncomputable def Ac (n:Nat) (i:Int):aB Nat:=if 0<=i then(if i < n then aa i.toNat else au) else if -(n:Int)<=i then aa (i+n).toNat else au
noncomputable def Bj (n:Nat) (i:Int):aB Nat:=if -(2 ^ 62)<=i/\i<=2 ^ 62 then aa (clipAt n i) else au
noncomputable def bound (n:Nat) (d:Nat):V->aB Nat
 |.none=>aa d |.int i=>Bj n i
 |.bool _=>au |.ref _=>au |.str _=>au |.bytes _=>au |.bE _=>au |.tup _=>au |.obj _ _=>au
noncomputable def cut {α:Type} (xs:ah α) (lo hi:Nat):ah α:=(xs.drop lo).take (hi-lo)
def mk (fz:aj) (xs:ah V) (H:Hp) (Q:PV):Prop:=xs.length<=line/\cond fz (Q (.bE xs) H) (∀ a,H a=au->Q (.ref a) (H.set a (.bE xs)))
def fits (i:Int):Prop:=-(2 ^ 62)<=i/\i<=2 ^ 62
inductive Idx {α:Type} (xs:ah α) (i:Int) (k:α->Prop):Prop
 |mk (n:Nat) (u:α) (hi:fits i) (hn:Ac xs.length i=aa n) (hu:xs[n]? =aa u) (q:k u)
def MX (x i:V) (H:Hp) (Q:PV):Prop:=Got (kq i) fun i=>match x with
 |.bytes b=>Idx b i fun u=>Q (.int u.toNat) H
 |.tup xs=>Idx xs i fun u=>Q u H
 |.bE xs=>Idx xs i fun u=>Q u H
 |.ref a=>Got ((H a).bind Mo.tv) fun xs=>Idx xs i fun u=>Q u H
 |.none=>False |.bool _=>False |.int _=>False |.str _=>False |.obj _ _=>False
inductive Sl {α:Type} (xs:ah α) (lo hi:V) (k:ah α->Prop):Prop
 |mk (l h:Nat) (hl:xs.length<=line) (h1:bound xs.length 0 lo=aa l) (h2:bound xs.length xs.length hi=aa h) (q:k (cut xs l h))
def vp (fz:aj) (x lo hi:V) (H:Hp) (Q:PV):Prop:=match x with
 |.bytes b=>Sl b lo hi fun c=>Q (.bytes c) H
 |.bE xs=>Sl xs lo hi fun c=>mk fz c H Q
 |.ref a=>Got ((H a).bind Mo.tv) fun xs=>Sl xs lo hi fun c=>mk fz c H Q
 |.none=>False |.bool _=>False |.int _=>False |.str _=>False |.tup _=>False |.obj _ _=>False
noncomputable def octets:ah Int->aB (ah aA)
 |[]=>aa []
 |i::r=>if 0<=i/\i<=255 then(octets r).map (UInt8.ofNat i.toNat:: ·) else au
noncomputable def Mo.ba?:Mo->aB (ah aA)
 |.bE _=>au |.inst _ _=>au |.i_ _=>au |.ba d=>aa d
def Kh (vs:ah V) (k:V->Prop):Prop:=match vs with
 |[]=>False
 |x::r=>match r with
  |[]=>k x
  |_::_=>False
def on2 (vs:ah V) (k:V->V->Prop):Prop:=match vs with
 |[]=>False
 |x::r=>Kh r (k x)
noncomputable def abJ (H:Hp) (Q:PV):V->Prop
 |.bytes b=>b.length<=line/\Q (.int b.length) H
 |.bE xs=>xs.length<=line/\Q (.int xs.length) H
 |.ref a=>Got ((H a).bind Mo.tv) fun xs=>xs.length<=line/\Q (.int xs.length) H
 |.none=>False |.bool _=>False |.int _=>False |.str _=>False |.tup _=>False |.obj _ _=>False
noncomputable def Wn (H:Hp) (Q:PV):V->Prop
 |.int n=>0<=n/\n<=1000000/\Q (.bytes (List.replicate n.toNat 0)) H
 |.bytes b=>Q (.bytes b) H
 |.bE xs=>Got (intsOf xs) fun is=>Got (octets is) fun bs=>bs.length<=1000/\Q (.bytes bs) H
 |.ref a=>Got ((H a).bind Mo.ba?) fun bs=>bs.length<=line/\Q (.bytes bs) H
 |.none=>False |.bool _=>False |.str _=>False |.tup _=>False |.obj _ _=>False
def Z5 (H:Hp) (Q:PV) (b:ah aA):Prop:=b.length<=line/\∀ a,H a=au->Q (.ref a) (H.set a (.ba b))
def Fq (b:Bi) (vs:ah V) (H:Hp) (Q:PV):Prop:=match b with
 |.len=>Kh vs (abJ H Q)
 |.bytes=>Kh vs (Wn H Q)
 |.bytearray=>match vs with
  |[]=>∀ a,H a=au->Q (.ref a) (H.set a (.ba []))
  |x::r=>Kh (x::r) fun x=>Got (I8 x) (Z5 H Q)
 |.min=>on2 vs fun x y=>oY x y fun i j=>Q (.int (min i j)) H
 |.max=>on2 vs fun x y=>oY x y fun i j=>Q (.int (max i j)) H
 |.sum=>Kh vs fun x=>Got (I8 x) fun b=>b.length<=1000000/\Q (.int (b.map (fun u=>(u.toNat:Int))).sum) H
 |.sorted=>Kh vs fun x=>Got (listOf H x) fun xs=>Got (intsOf xs) fun is=>is.length<=2/\∀ js:ah Int,js.Perm is->js.Pairwise (· <= ·)->Q (.bE (js.map .int)) H
 |.tuple=>Kh vs fun x=>Got (listOf H x) fun xs=>xs.length<=line/\Q (.tup xs) H
 |.str=>Kh vs fun x=>Got (kq x) fun i=>small i/\∀ s:Str,s.length<=1000->Q (.str s) H
 |.all=>Kh vs fun x=>Got (listOf H x) fun xs=>Got (boolsOf xs) fun bs=>Q (.bool (bs.all id)) H
noncomputable def Xk (k:aj) (m:Nm):aj:=m=.dg || !k&&m=.jS
inductive AtL (o:aB Mo) (k:ah V->Prop):Prop
 |mk (xs:ah V) (h:o=aa (.bE xs)) (q:k xs)
inductive AtB (o:aB Mo) (k:ah aA->Prop):Prop
 |mk (xs:ah aA) (h:o=aa (.ba xs)) (q:k xs)
noncomputable def acG:V->aB ax
 |.ref a=>aa a
 |.none=>au |.bool _=>au |.int _=>au |.str _=>au |.bytes _=>au |.tup _=>au |.bE _=>au |.obj _ _=>au
def rq (k:aj) (v:V) (m:Nm) (vs:ah V) (H:Hp) (Q:PV):Prop:=Got (acG v) fun a=>Kh vs fun x=>
 cond k (AtL (H a) fun xs=>xs.length < line/\Q .none (H.set a (.bE (xs++[x]))))
  (cond (m=.dg) (Got (kq x) fun i=>AtB (H a) fun bs=>0<=i/\i<=255/\bs.length < line/\Q .none (H.set a (.ba (bs++[UInt8.ofNat i.toNat]))))
   (Got (I8 x) fun b=>AtB (H a) fun bs=>bs.length+b.length<=line/\Q .none (H.set a (.ba (bs++b)))))
noncomputable def gN (H:Hp) (v:V):aB (ah V):=listOf H v
noncomputable def b5.sets (L:b5):ah Nm->ah V->b5
 |[],_=>L
 |x::xs,vs=>match vs with
  |[]=>L
  |v::vs=>b5.sets (L.set x v) xs vs
def qK (tup:aj) (fL:ah Nm) (v:V) (L:b5) (k:b5->Prop):Prop:=
 cond tup (MO (fun vs=>fL.length=vs.length/\k (L.sets fL vs)) v) (match fL with
  |[]=>False
  |x::r=>match r with
   |[]=>k (L.set x v)
   |_::_=>False)
noncomputable def Wt (acc:ah V) (o:aB V):ah V:=o.elim acc fun y=>acc++[y]
inductive Uu (src:V) (full:ah V) (step:V->Hp->(aB V->Hp->Prop)->Prop) (Q:ah V->Hp->Prop) (H:Hp):Prop
 |mk (J:ah V->ah V->Hp->Prop) (h0:J full [] H) (hd:∀ acc H,J [] acc H->gN H src=aa full/\Q acc H)
  (hs:∀ v r acc H,J (v::r) acc H->gN H src=aa full/\step v H fun o H'=>J r (Wt acc o) H')
inductive FzI (o:aB Mo) (D:Cn) (k:ah (Nm×V)->Prop):Prop
 |mk (fs:ah (Nm×V)) (h:o=aa (.inst D fs)) (q:k fs)
noncomputable def VE:PX:=fun _ _=>False
mutual
noncomputable def wE (C:CC):E->b5->Hp->PV->PX->Prop
 |.none,_,H,Q,_=>Q .none H
 |.bool b,_,H,Q,_=>Q (.bool b) H
 |.int i,_,H,Q,_=>Q (.int i) H
 |.cK,_,H,Q,_=>∀ s:Str,s.length<=1000->Q (.str s) H
 |.bytes bs,_,H,Q,_=>Q (.bytes (bs.map UInt8.ofNat)) H
 |.aC x,L,H,Q,_=>Got (L x) fun v=>Q v H
 |.glob g,_,H,Q,_=>Got (Ry g) fun i=>Q (.int i) H
 |.bR op a b,L,H,Q,X=>wE C a L H (fun x H1=>wE C b L H1 (fun y H2=>binOp op x y H2 Q) X) X
 |.neg a,L,H,Q,X=>wE C a L H (fun x H1=>IsI x fun i=>Q (.int (-i)) H1) X
 |.kL a,L,H,Q,X=>wE C a L H (fun x H1=>Got (truth H1 x) fun t=>Q (.bool !t) H1) X
 |.b7 k es,L,H,Q,X=>wB C k es L H Q X
 |.ite c a b,L,H,Q,X=>wE C c L H (fun x H1=>Got (truth H1 x) fun t=>cond t (wE C a L H1 Q X) (wE C b L H1 Q X)) X
 |.cB a op b,L,H,Q,X=>wE C a L H (fun x H1=>wE C b L H1 (fun y H2=>yj op x y H2 fun t=>Q (.bool t) H2) X) X
 |.KN a op b Vu c,L,H,Q,X=>wE C a L H (fun x H1=>wE C b L H1 (fun y H2=>yj op x y H2 fun t=>
   cond t (wE C c L H2 (fun z H3=>yj Vu y z H3 fun t=>Q (.bool t) H3) X) (Q (.bool ao) H2)) X) X
 |.aV e f,L,H,Q,X=>wE C e L H (fun x H1=>Got (RA H1 f x) fun v=>Q v H1) X
 |.key e f,L,H,Q,X=>wE C e L H (fun x H1=>Got (OO H1 f x) fun v=>Q v H1) X
 |.idx e i,L,H,Q,X=>wE C e L H (fun x H1=>wE C i L H1 (fun y H2=>MX x y H2 Q) X) X
 |.slice fz e lo hi,L,H,Q,X=>wE C e L H (fun x H1=>wE C lo L H1 (fun l H2=>wE C hi L H2 (fun h H3=>vp fz x l h H3 Q) X) X) X
 |.list fz es,L,H,Q,X=>wEs C es L H (fun vs H1=>mk fz vs H1 Q) X
 |.tuple es,L,H,Q,X=>wEs C es L H (fun vs H1=>vs.length<=line/\Q (.tup vs) H1) X
 |.dict ks es,L,H,Q,X=>wEs C es L H (fun vs H1=>ks.length=vs.length/\∀ a,H1 a=au->Q (.ref a) (H1.set a (.i_ (ks.zip vs)))) X
 |.bL f es,L,H,Q,X=>wEs C es L H (fun vs H1=>C f vs H1 Q X) X
 |.new fz D es,L,H,Q,X=>wEs C es L H (fun vs H1=>Got (rC D) fun f=>∀ a,H1 a=au->C f (.ref a::vs) (H1.set a (.inst D []))
   (fun r H2=>r=.none/\cond fz (FzI (H2 a) D fun fs=>Q (.obj D fs) (H2.drop a)) (Q (.ref a) H2)) X) X
 |.bk e m es,L,H,Q,X=>wE C e L H (fun x H1=>(A6 H1 x).elim (Got (kindB H1 x) fun k=>Xk k m=ag/\wEs C es L H1 (fun vs H2=>rq k x m vs H2 Q) X)
   fun D=>Got (rp D m) fun f=>wEs C es L H1 (fun vs H2=>C f (x::vs) H2 Q X) X) X
 |.bc b es,L,H,Q,X=>wEs C es L H (fun vs H1=>Fq b vs H1 Q) X
 |.comp fz elt tup fL it c fv,L,H,Q,X=>wE C it L H (fun src H1=>Got (gN H1 src) fun full=>full.length<=line/\
   Uu src full (fun v H2 k=>qK tup fL v (L.only fv) fun L1=>wE C c L1 H2 (fun x H3=>Got (cond c.yL (aa ag) (truth H3 x)) fun t=>
    cond t (wE C elt L1 H3 (fun y H4=>k (aa y) H4) VE) (k au H3)) VE) (fun ys H2=>mk fz ys H2 Q) H1) X
 |.gO es,L,H,Q,X=>wEs C es L H (fun _ H1=>∀ s:Str,s.length<=16000->Q (.str s) H1) X
 |.skip,_,_,_,_=>False
 |.fmt e,L,H,Q,X=>wE C e L H (fun x H1=>IsI x fun i=>small i/\∀ s:Str,s.length<=1000->Q (.str s) H1) X
noncomputable def wEs (C:CC):Es->b5->Hp->(ah V->Hp->Prop)->PX->Prop
 |.nil,_,H,Q,_=>Q [] H
 |.cons e es,L,H,Q,X=>wE C e L H (fun x H1=>wEs C es L H1 (fun vs H2=>Q (x::vs) H2) X) X
noncomputable def wB (C:CC) (k:aj):Es->b5->Hp->PV->PX->Prop
 |.nil,_,_,_,_=>False
 |.cons e es,L,H,Q,X=>match es with
  |.nil=>wE C e L H Q X
  |.cons _ _=>wE C e L H (fun x H1=>Got (truth H1 x) fun t=>cond (t==k) (wB C k es L H1 Q X) (Q x H1)) X
end
noncomputable def Mt (k:b5->Hp->Prop) (Q:PO):PO
 |.next,L,H=>k L H
 |.brk,L,H=>Q .brk L H
 |.cont,L,H=>Q .cont L H
 |.ret v,L,H=>Q (.ret v) L H
noncomputable def mj (k:b5->Hp->Prop) (Q:PO):PO
 |.next,L,H=>k L H
 |.brk,L,H=>Q .next L H
 |.cont,L,H=>k L H
 |.ret v,L,H=>Q (.ret v) L H
noncomputable abbrev Body:=b5->Hp->PO->fk->Prop
inductive Loop (x:Nm) (src:V) (full:ah V) (b:Body) (Q:PO) (X:fk) (L:b5) (H:Hp):Prop
 |mk (J:ah V->b5->Hp->Prop) (h0:J full L H) (hd:∀ L H,J [] L H->gN H src=aa full/\Q .next L H)
  (hs:∀ v r L H,J (v::r) L H->gN H src=aa full/\b (L.set x v) H (mj (J r) Q) X)
inductive B_ (x:Nm) (b:Body) (Q:PO) (X:fk) (n:Nat) (i:Int) (L:b5) (H:Hp):Prop
 |mk (J:Nat->Int->b5->Hp->Prop) (h0:J n i L H) (hd:∀ i L H,J 0 i L H->Q .next L H) (hs:∀ m i L H,J (m+1) i L H->b (L.set x (.int i)) H (mj (J m (i+1)) Q) X)
inductive While (c:b5->Hp->PV->PX->Prop) (b:Body) (Q:PO) (X:fk) (L:b5) (H:Hp):Prop
 |mk (J:Nat->b5->Hp->Prop) (k:Nat) (h0:J k L H) (hs:∀ k L H,J k L H->c L H (fun v H1=>Got (truth H1 v) fun t=>cond t (b L H1 (mj (fun L H=>∃ j,j < k/\J j L H) Q) X) (Q .next L H1)) fun D H1=>X D L H1)
inductive B9 (l h:V) (yL:aj) (k:Int->Int->Prop):Prop
 |mk (i j:Int) (hl:cond yL (aa 0) (kq l)=aa i) (hh:h=.int j) (h1:-(2 ^ 62)<=i) (h2:i < 2 ^ 62) (h3:-(2 ^ 62)<=j) (h4:j < 2 ^ 62) (q:k i j)
noncomputable def Cn.sup (C:Cn):ah Cn:=ux YG C.n []
noncomputable def Cn.under (C d:Cn):aj:=C.sup.any fun x=>x=d
inductive xK (x:V) (H:Hp) (f:Nm) (y:V) (k:Hp->Prop):Prop
 |mk (a:ax) (D:Cn) (fs:ah (Nm×V)) (e:x=.ref a) (h:H a=aa (.inst D fs)) (hl:fs.length < 100) (hf:f∈fieldsOf D) (q:k (H.set a (.inst D (cL fs f y))))
inductive zg (x:V) (H:Hp) (f:Nm) (y:V) (k:Hp->Prop):Prop
 |mk (a:ax) (fs:ah (Nm×V)) (e:x=.ref a) (h:H a=aa (.i_ fs)) (hl:fs.length < 100) (q:k (H.set a (.i_ (cL fs f y))))
inductive Frz (x:aB V) (H:Hp) (k:ax->ah V->Prop):Prop
 |mk (a:ax) (xs:ah V) (e:x=aa (.ref a)) (h:H a=aa (.bE xs)) (q:k a xs)
def UH (v:V):Prop:=∃ s,v=.str s
noncomputable def wH:Hr->b5->Hp->PO->Prop
 |.Qp b,L,H,Q=>Q (.ret (.bool b)) L H
 |.setB x b,L,H,Q=>Q .next (L.set x (.bool b)) H
 |.other,_,_,_=>False
noncomputable def lZ (X:fk) (L:b5):PX:=fun D H=>X D L H
mutual
noncomputable def wS (C:CC) (rz:aj):S->b5->Hp->PO->fk->Prop
 |.expr e,L,H,Q,X=>wE C e L H (fun v H1=>flat v=ag/\Q .next L H1) (lZ X L)
 |.bz x e,L,H,Q,X=>wE C e L H (fun v H1=>Q .next (L.set x v) H1) (lZ X L)
 |.jA xs e,L,H,Q,X=>wE C e L H (fun v H1=>qK ag xs v L fun L1=>Q .next L1 H1) (lZ X L)
 |.setAttr e f v,L,H,Q,X=>wE C v L H (fun y H1=>wE C e L H1 (fun x H2=>xK x H2 f y fun H3=>Q .next L H3) (lZ X L)) (lZ X L)
 |.c4 e f v,L,H,Q,X=>wE C v L H (fun y H1=>wE C e L H1 (fun x H2=>zg x H2 f y fun H3=>Q .next L H3) (lZ X L)) (lZ X L)
 |.aug x op e,L,H,Q,X=>Got (L x) fun old=>wE C e L H (fun v H1=>Bz op old v fun r=>Q .next (L.set x r) H1) (lZ X L)
 |.ic e f op v,L,H,Q,X=>wE C e L H (fun x H1=>Got (RA H1 f x) fun old=>wE C v L H1 (fun y H2=>Bz op old y fun r=>xK x H2 f r fun H3=>Q .next L H3) (lZ X L)) (lZ X L)
 |.sm e f op v,L,H,Q,X=>wE C e L H (fun x H1=>Got (OO H1 f x) fun old=>wE C v L H1 (fun y H2=>Bz op old y fun r=>zg x H2 f r fun H3=>Q .next L H3) (lZ X L)) (lZ X L)
 |.dp c a b,L,H,Q,X=>wE C c L H (fun v H1=>Got (truth H1 v) fun t=>cond t (wSs C rz a L H1 Q X) (wSs C rz b L H1 Q X)) (lZ X L)
 |.kD c b,L,H,Q,X=>While (fun L H Q X=>wE C c L H Q X) (fun L H Q X=>wSs C ao b L H Q X) Q X L H
 |.uE x e b,L,H,Q,X=>wE C e L H (fun src H1=>Got (gN H1 src) fun full=>Loop x src full (fun L H Q X=>wSs C ao b L H Q X) Q X L H1) (lZ X L)
 |.forR x lo hi b,L,H,Q,X=>wE C lo L H (fun l H1=>wE C hi L H1 (fun h H2=>B9 l h lo.yL fun i j=>B_ x (fun L H Q X=>wSs C ao b L H Q X) Q X (j-i).toNat i L H2) (lZ X L)) (lZ X L)
 |.ret e,L,H,Q,X=>wE C e L H (fun v H1=>Q (.ret v) L H1) (lZ X L)
 |.yH,L,H,Q,_=>Q (.ret .none) L H
 |.cC D e,L,H,_,X=>wE C e L H (fun v H1=>rz=ag/\UH v/\X D L H1) (lZ X L)
 |.Eh b _ cs h,L,H,Q,_=>wSs C ao b L H Q (fun D L1 H1=>cs.any D.under=ag/\wH h L1 H1 Q)
 |.brk,L,H,Q,_=>Q .brk L H
 |.pass,L,H,Q,_=>Q .next L H
 |.freeze x,L,H,Q,_=>Frz (L x) H fun a xs=>Q .next (L.set x (.bE xs)) (H.drop a)
noncomputable def wSs (C:CC) (rz:aj):Ss->b5->Hp->PO->fk->Prop
 |.nil,L,H,Q,_=>Q .next L H
 |.cons s r,L,H,Q,X=>wS C rz s L H (Mt (fun L1 H1=>wSs C rz r L1 H1 Q X) Q) X
end
noncomputable def Fn.dflt (f:Fn):ah V:=if f=.jB then[.int 0] else[]
noncomputable def acH (vs:ah V) (n:Nat) (ds:ah V):aB (ah V):=match ds with
 |[]=>au
 |d::_=>if vs.length+1=n then aa (vs++[d]) else au
noncomputable def pJ (f:Fn) (vs:ah V):aB (ah V):=
 if vs.length=f.ps.length then aa vs else acH vs f.ps.length f.dflt
noncomputable def b5.none:b5:=fun _=>Option.none
noncomputable def Ck (Q:PV):PO
 |.ret v,_,H1=>Q v H1
 |.next,_,H1=>Q .none H1
 |.brk,_,_=>False
 |.cont,_,_=>False
noncomputable def wU (X:PX):fk:=fun c _ H1=>X c H1
noncomputable abbrev Es.k:=@Es.cons
noncomputable abbrev Es.z:=Es.nil
noncomputable abbrev Ss.k:=@Ss.cons
noncomputable abbrev Ss.z:=Ss.nil
noncomputable def wb:Ss:=
(.k (.expr (.bk (.aC .kB) .dg (.k (.bR .bor (.bR .band (.aC .xn) (.int 127)) (.int 128)) .z)))
(.k (.aug .xn .shr (.int 7))
.z))
noncomputable def Bp:Ss:=
(.k (.dp (.b7 ao (.k (.cB (.aC .xn) .lt (.int 0)) (.k (.cB (.aC .xn) .gt (.aC .zR)) .z))) (.k (.cC .i7 (.gO (.k (.fmt (.aC .xn)) (.k .cK (.k (.fmt (.aC .zR)) .z)))))
.z) .z)
(.k (.bz .kB (.bc .bytearray .z))
(.k (.kD (.cB (.aC .xn) .ge (.int 128)) wb)
(.k (.expr (.bk (.aC .kB) .dg (.k (.aC .xn) .z)))
(.k (.ret (.bc .bytes (.k (.aC .kB) .z)))
.z)))))
noncomputable def xg:Ss:=
(.k (.dp (.cB (.aC .dY) .ge (.bc .len (.k (.aC .bq) .z))) (.k (.cC .gH .cK)
.z) .z)
(.k (.bz .oQ (.idx (.aC .bq) (.aC .dY)))
(.k (.aug .dY .add (.int 1))
(.k (.aug .xn .bor (.bR .shl (.bR .band (.aC .oQ) (.int 127)) (.aC .wF)))
(.k (.dp (.cB (.aC .oQ) .lt (.int 128)) (.k (.dp (.cB (.aC .xn) .gt (.aC .zR)) (.k (.cC .eV (.gO (.k .cK (.k (.fmt (.aC .xn)) (.k .cK (.k (.fmt (.aC .zR)) .z))))))
.z) .z)
(.k (.ret (.tuple (.k (.aC .xn) (.k (.aC .dY) .z))))
.z)) .z)
(.k (.aug .wF .add (.int 7))
.z))))))
noncomputable def CL:Ss:=
(.k (.dp (.cB (.aC .dY) .lt (.int 0)) (.k (.cC .gH (.gO (.k .cK (.k (.fmt (.aC .dY)) .z))))
.z) .z)
(.k (.bz .xn (.int 0))
(.k (.bz .wF (.int 0))
(.k (.forR .PF .none (.aC .jR) xg)
(.k (.cC .eV (.gO (.k .cK (.k (.fmt (.aC .jR)) (.k .cK .z)))))
.z)))))
noncomputable def FP:Ss:=
(.k (.dp (.b7 ag (.k (.cB (.aC .xn) .ge (.int 0)) (.k (.cB (.aC .xn) .lt (.int 128)) .z))) (.k (.ret (.bc .bytes (.k (.list ag (.k (.aC .xn) .z)) .z)))
.z) .z)
(.k (.ret (.bL .qc (.k (.aC .xn) (.k (.glob .vc) .z))))
.z))
noncomputable def CI:Ss:=
(.k (.dp (.b7 ag (.k (.cB (.aC .dY) .ge (.int 0)) (.k (.cB (.aC .dY) .lt (.bc .len (.k (.aC .bq) .z))) (.k (.cB (.idx (.aC .bq) (.aC .dY)) .lt (.int 128)) .z)))) (.k (.ret (.tuple (.k (.idx (.aC .bq) (.aC .dY)) (.k (.bR .add (.aC .dY) (.int 1)) .z))))
.z) .z)
(.k (.ret (.bL .rf (.k (.aC .bq) (.k (.aC .dY) (.k (.int 10) (.k (.glob .vc) .z))))))
.z))
noncomputable def Br:Ss:=
(.k (.dp (.b7 ag (.k (.cB (.aC .xn) .ge (.int 0)) (.k (.cB (.aC .xn) .lt (.int 128)) .z))) (.k (.ret (.bc .bytes (.k (.list ag (.k (.aC .xn) .z)) .z)))
.z) .z)
(.k (.ret (.bL .qc (.k (.aC .xn) (.k (.glob .vd) .z))))
.z))
noncomputable def yX:Ss:=
(.k (.dp (.b7 ag (.k (.cB (.aC .dY) .ge (.int 0)) (.k (.cB (.aC .dY) .lt (.bc .len (.k (.aC .bq) .z))) (.k (.cB (.idx (.aC .bq) (.aC .dY)) .lt (.int 128)) .z)))) (.k (.ret (.tuple (.k (.idx (.aC .bq) (.aC .dY)) (.k (.bR .add (.aC .dY) (.int 1)) .z))))
.z) .z)
(.k (.ret (.bL .rf (.k (.aC .bq) (.k (.aC .dY) (.k (.int 5) (.k (.glob .vd) .z))))))
.z))
noncomputable def uM:Ss:=
(.k (.aug .xn .shr (.int 7))
(.k (.aug .eK .add (.int 1))
.z))
noncomputable def yW:Ss:=
(.k (.dp (.b7 ao (.k (.cB (.aC .xn) .lt (.int 0)) (.k (.cB (.aC .xn) .gt (.glob .vc)) .z))) (.k (.cC .i7 (.gO (.k (.fmt (.aC .xn)) (.k .cK (.k (.fmt (.glob .vc)) .z)))))
.z) .z)
(.k (.bz .eK (.int 1))
(.k (.kD (.cB (.aC .xn) .ge (.int 128)) uM)
(.k (.ret (.aC .eK))
.z))))
noncomputable def CM:Ss:=
(.k (.dp (.b7 ao (.k (.cB (.aC .xn) .lt (.int 0)) (.k (.cB (.aC .xn) .gt (.glob .vd)) .z))) (.k (.cC .i7 (.gO (.k (.fmt (.aC .xn)) (.k .cK .z))))
.z) .z)
(.k (.ret (.bc .bytes (.k (.list ag (.k (.bR .band (.aC .xn) (.int 255)) (.k (.bR .band (.bR .shr (.aC .xn) (.int 8)) (.int 255)) (.k (.bR .band (.bR .shr (.aC .xn) (.int 16)) (.int 255)) (.k (.bR .shr (.aC .xn) (.int 24)) .z))))) .z)))
.z))
noncomputable def Bq:Ss:=
(.k (.dp (.b7 ao (.k (.cB (.aC .dY) .lt (.int 0)) (.k (.cB (.bR .add (.aC .dY) (.int 4)) .gt (.bc .len (.k (.aC .bq) .z))) .z))) (.k (.cC .gH (.gO (.k .cK (.k (.fmt (.aC .dY)) .z))))
.z) .z)
(.k (.ret (.bR .bor (.bR .bor (.bR .bor (.idx (.aC .bq) (.aC .dY)) (.bR .shl (.idx (.aC .bq) (.bR .add (.aC .dY) (.int 1))) (.int 8))) (.bR .shl (.idx (.aC .bq) (.bR .add (.aC .dY) (.int 2))) (.int 16))) (.bR .shl (.idx (.aC .bq) (.bR .add (.aC .dY) (.int 3))) (.int 24))))
.z))
noncomputable def yY:Ss:=
(.k (.jA [.eK,.dY] (.bL .k_ (.k (.aC .bq) (.k (.aC .dY) .z))))
(.k (.dp (.cB (.bR .add (.aC .dY) (.aC .eK)) .gt (.bc .len (.k (.aC .bq) .z))) (.k (.cC .gH (.gO (.k (.fmt (.aC .eK)) (.k .cK (.k (.fmt (.bR .sub (.bc .len (.k (.aC .bq) .z)) (.aC .dY))) (.k .cK .z))))))
.z) .z)
(.k (.ret (.tuple (.k (.bc .bytes (.k (.slice ag (.aC .bq) (.aC .dY) (.bR .add (.aC .dY) (.aC .eK))) .z)) (.k (.bR .add (.aC .dY) (.aC .eK)) .z))))
.z)))
noncomputable def Lr:Ss:=
(.k (.dp (.cB (.aC .cM) .eq (.glob .um)) (.k (.ret .skip)
.z) .z)
(.k (.dp (.cB (.aC .cM) .eq (.glob .iL)) (.k (.ret (.bR .band (.bR .add (.bR .add (.bR .mul (.bc .sum (.k (.aC .bq) .z)) (.int 251)) (.bR .mul (.bc .len (.k (.aC .bq) .z)) (.int 65537))) (.int 7)) (.glob .vd)))
.z) .z)
(.k (.cC .i7 (.gO (.k .cK (.k (.fmt (.aC .cM)) .z))))
.z)))
noncomputable def wo:Ss:=
(.k (.dp (.b7 ao (.k (.cB (.aC .dY) .lt (.int 0)) (.k (.cB (.aC .dY) .gt (.bc .len (.k (.aC .bq) .z))) .z))) (.k (.cC .gH (.gO (.k .cK (.k (.fmt (.aC .dY)) (.k .cK (.k (.fmt (.bc .len (.k (.aC .bq) .z))) (.k .cK .z)))))))
.z) .z)
(.k (.setAttr (.aC .aG) .bq (.aC .bq))
(.k (.setAttr (.aC .aG) .dY (.aC .dY))
.z)))
noncomputable def CY:Ss:=
(.k (.ret (.bR .sub (.bc .len (.k (.aV (.aC .aG) .bq) .z)) (.aV (.aC .aG) .dY)))
.z)
noncomputable def zd:Ss:=
(.k (.bz .dY (.aV (.aC .aG) .dY))
(.k (.dp (.b7 ag (.k (.cB (.aC .dY) .lt (.bc .len (.k (.aV (.aC .aG) .bq) .z))) (.k (.cB (.idx (.aV (.aC .aG) .bq) (.aC .dY)) .lt (.int 128)) .z))) (.k (.setAttr (.aC .aG) .dY (.bR .add (.aC .dY) (.int 1)))
(.k (.ret (.idx (.aV (.aC .aG) .bq) (.aC .dY)))
.z)) .z)
(.k (.jA [.xn,.dY] (.bL .ow (.k (.aV (.aC .aG) .bq) (.k (.aC .dY) .z))))
(.k (.setAttr (.aC .aG) .dY (.aC .dY))
(.k (.ret (.aC .xn))
.z)))))
noncomputable def wk:Ss:=
(.k (.jA [.xb,.dY] (.bL .tL (.k (.aV (.aC .aG) .bq) (.k (.aV (.aC .aG) .dY) .z))))
(.k (.setAttr (.aC .aG) .dY (.aC .dY))
(.k (.ret (.aC .xb))
.z)))
noncomputable def CZ:Ss:=
(.k (.dp (.cB (.aV (.aC .aG) .dY) .ge (.bc .len (.k (.aV (.aC .aG) .bq) .z))) (.k (.cC .gH .cK)
.z) .z)
(.k (.bz .xn (.idx (.aV (.aC .aG) .bq) (.aV (.aC .aG) .dY)))
(.k (.dp (.cB (.aC .xn) .gt (.int 1)) (.k (.cC .eV (.gO (.k .cK (.k (.fmt (.aC .xn)) .z))))
.z) .z)
(.k (.ic (.aC .aG) .dY .add (.int 1))
(.k (.ret (.cB (.aC .xn) .eq (.int 1)))
.z)))))
noncomputable def C0:Ss:=
(.k (.dp (.cB (.aV (.aC .aG) .dY) .lt (.bc .len (.k (.aV (.aC .aG) .bq) .z))) (.k (.cC .eV (.gO (.k (.fmt (.bk (.aC .aG) .xT .z)) (.k .cK .z))))
.z) .z)
.z)
noncomputable def y8:Ss:=
(.k (.setAttr (.aC .aG) .fX (.bc .bytearray .z))
.z)
noncomputable def CX:Ss:=
(.k (.dp (.b7 ag (.k (.cB (.aC .xn) .ge (.int 0)) (.k (.cB (.aC .xn) .lt (.int 128)) .z))) (.k (.expr (.bk (.aV (.aC .aG) .fX) .dg (.k (.aC .xn) .z)))
.z) (.k (.expr (.bk (.aV (.aC .aG) .fX) .jS (.k (.bL .Ae (.k (.aC .xn) .z)) .z)))
.z))
.z)
noncomputable def y7:Ss:=
(.k (.expr (.bk (.aV (.aC .aG) .fX) .jS (.k (.bL .vy (.k (.bc .len (.k (.aC .xb) .z)) .z)) .z)))
(.k (.expr (.bk (.aV (.aC .aG) .fX) .jS (.k (.aC .xb) .z)))
.z))
noncomputable def FY:Ss:=
(.k (.dp (.b7 ao (.k (.cB (.aC .xn) .lt (.int 0)) (.k (.cB (.aC .xn) .gt (.int 255)) .z))) (.k (.cC .i7 (.gO (.k (.fmt (.aC .xn)) (.k .cK .z))))
.z) .z)
(.k (.expr (.bk (.aV (.aC .aG) .fX) .dg (.k (.aC .xn) .z)))
.z))
noncomputable def I4:Ss:=
(.k (.dp (.aC .xb) (.k (.expr (.bk (.aV (.aC .aG) .fX) .dg (.k (.int 1) .z)))
.z) (.k (.expr (.bk (.aV (.aC .aG) .fX) .dg (.k (.int 0) .z)))
.z))
.z)
noncomputable def I5:Ss:=
(.k (.ret (.bc .bytes (.k (.aV (.aC .aG) .fX) .z)))
.z)
noncomputable def yq:Ss:=
(.k (.dp (.b7 ao (.k (.kL (.aC .kB)) (.k (.cB (.idx (.aC .kB) (.neg (.int 1))) .ne (.aC .wI)) .z))) (.k (.expr (.bk (.aC .kB) .dg (.k (.aC .wI) .z)))
.z) .z)
.z)
noncomputable def Sr:Ss:=
(.k (.bz .kB (.list ao .z))
(.k (.uE .wI (.bc .sorted (.k (.aC .NS) .z)) yq)
(.k (.freeze .kB)
(.k (.ret (.aC .kB))
.z))))
noncomputable def FO:Ss:=
(.k (.bz .eK (.bk (.aC .dA) .eJ .z))
(.k (.dp (.cB (.aC .eK) .gt (.bk (.aC .dA) .xT .z)) (.k (.cC .gH (.gO (.k .cK (.k (.fmt (.aC .eK)) (.k .cK (.k (.fmt (.bk (.aC .dA) .xT .z)) (.k .cK .z)))))))
.z) .z)
(.k (.ret (.aC .eK))
.z)))
noncomputable def xp:Ss:=
(.k (.setAttr (.aC .aG) .bO (.aC .bO))
(.k (.setAttr (.aC .aG) .cp (.aC .cp))
(.k (.setAttr (.aC .aG) .cM (.aC .cM))
(.k (.setAttr (.aC .aG) .bq (.aC .bq))
.z))))
noncomputable def I6:Ss:=
(.k (.ret (.tuple (.k (.aV (.aC .aG) .bO) (.k (.aV (.aC .aG) .cp) (.k (.aV (.aC .aG) .cM) (.k (.aV (.aC .aG) .bq) .z))))))
.z)
noncomputable def FZ:Ss:=
(.k (.bz .gA (.bc .len (.k (.aV (.aC .aG) .bq) .z)))
(.k (.bz .W5 (.bR .add (.bR .add (.bL .iw (.k (.aV (.aC .aG) .bO) .z)) (.bL .iw (.k (.aV (.aC .aG) .cp) .z))) (.bL .iw (.k (.aV (.aC .aG) .cM) .z))))
(.k (.ret (.bR .add (.bR .add (.aC .W5) (.bL .iw (.k (.aC .gA) .z))) (.aC .gA)))
.z)))
noncomputable def Bw:Ss:=
(.k (.bz .gz (.new ao .Sink .z))
(.k (.expr (.bk (.aC .gz) .eJ (.k (.aV (.aC .fZ) .bO) .z)))
(.k (.expr (.bk (.aC .gz) .eJ (.k (.aV (.aC .fZ) .cp) .z)))
(.k (.expr (.bk (.aC .gz) .eJ (.k (.aV (.aC .fZ) .cM) .z)))
(.k (.expr (.bk (.aC .gz) .jJ (.k (.aV (.aC .fZ) .bq) .z)))
(.k (.ret (.bk (.aC .gz) .qE .z))
.z))))))
noncomputable def Bx:Ss:=
(.k (.bz .dA (.new ao .Cursor (.k (.aC .bq) .z)))
(.k (.bz .bO (.bk (.aC .dA) .eJ .z))
(.k (.bz .cp (.bk (.aC .dA) .eJ .z))
(.k (.bz .cM (.bk (.aC .dA) .eJ .z))
(.k (.dp (.b7 ag (.k (.cB (.aC .cM) .ne (.glob .jj)) (.k (.cB (.aC .cM) .ne (.glob .q6)) .z))) (.k (.cC .eV (.gO (.k .cK (.k (.fmt (.aC .cM)) .z))))
.z) .z)
(.k (.bz .xU (.bk (.aC .dA) .jJ .z))
(.k (.expr (.bk (.aC .dA) .qE .z))
(.k (.ret (.new ag .Entry (.k (.aC .bO) (.k (.aC .cp) (.k (.aC .cM) (.k (.aC .xU) .z))))))
.z))))))))
noncomputable def y0:Ss:=
(.k (.aug .Ea .add (.bk (.aC .fZ) .jQ .z))
(.k (.dp (.b7 ag (.k (.aC .lA) (.k (.cB (.aC .Ea) .gt (.aC .xn)) .z))) (.k .brk
.z) .z)
(.k (.expr (.bk (.aC .lA) .dg (.k (.aC .fZ) .z)))
.z)))
noncomputable def FR:Ss:=
(.k (.bz .Ea (.int 0))
(.k (.bz .lA (.list ao .z))
(.k (.uE .fZ (.aC .aS) y0)
(.k (.freeze .lA)
(.k (.ret (.aC .lA))
.z)))))
noncomputable def sg:Ss:=
(.k (.setAttr (.aC .aG) .bO (.aC .bO))
(.k (.setAttr (.aC .aG) .om (.aC .om))
(.k (.setAttr (.aC .aG) .hZ (.aC .hZ))
.z)))
noncomputable def zc:Ss:=
(.k (.ret (.tuple (.k (.aV (.aC .aG) .bO) (.k (.aV (.aC .aG) .om) (.k (.aV (.aC .aG) .hZ) .z)))))
.z)
noncomputable def xo:Ss:=
(.k (.ret (.new ag .fQ (.k (.aV (.aC .aG) .bO) (.k (.aV (.aC .aG) .om) (.k (.aV (.aC .aG) .hZ) .z)))))
.z)
noncomputable def si:Ss:=
(.k (.setAttr (.aC .aG) .kZ (.bL .rising (.k (.aC .kZ) .z)))
(.k (.setAttr (.aC .aG) .iU (.bL .rising (.k (.aC .iU) .z)))
(.k (.setAttr (.aC .aG) .iT (.bL .rising (.k (.aC .iT) .z)))
(.k (.setAttr (.aC .aG) .eO (.bL .rising (.k (.aC .eO) .z)))
(.k (.setAttr (.aC .aG) .gE (.aC .gE))
.z)))))
noncomputable def ze:Ss:=
(.k (.ret (.tuple (.k (.bc .tuple (.k (.aV (.aC .aG) .kZ) .z)) (.k (.bc .tuple (.k (.aV (.aC .aG) .iU) .z)) (.k (.bc .tuple (.k (.aV (.aC .aG) .iT) .z)) (.k (.bc .tuple (.k (.aV (.aC .aG) .eO) .z)) (.k (.aV (.aC .aG) .gE) .z)))))))
.z)
noncomputable def FQ:Ss:=
(.k (.expr (.bk (.aC .gz) .eJ (.k (.aC .wI) .z)))
.z)
noncomputable def Pb:Ss:=
(.k (.expr (.bk (.aC .gz) .eJ (.k (.bc .len (.k (.aC .NS) .z)) .z)))
(.k (.uE .wI (.aC .NS) FQ)
.z))
noncomputable def CH:Ss:=
(.k (.bz .wI (.bk (.aC .dA) .eJ .z))
(.k (.dp (.b7 ag (.k (.aC .kB) (.k (.cB (.aC .wI) .le (.idx (.aC .kB) (.neg (.int 1)))) .z))) (.k (.cC .eV (.gO (.k .cK (.k (.fmt (.aC .wI)) (.k .cK (.k (.fmt (.idx (.aC .kB) (.neg (.int 1)))) .z))))))
.z) .z)
(.k (.expr (.bk (.aC .kB) .dg (.k (.aC .wI) .z)))
.z)))
noncomputable def Lj:Ss:=
(.k (.bz .kB (.list ao .z))
(.k (.forR .x_ .none (.bL .zU (.k (.aC .dA) .z)) CH)
(.k (.freeze .kB)
(.k (.ret (.aC .kB))
.z))))
noncomputable def CU:Ss:=
(.k (.bz .gz (.new ao .Sink .z))
(.k (.expr (.bL .sW (.k (.aC .gz) (.k (.aV (.aC .dq) .kZ) .z))))
(.k (.expr (.bL .sW (.k (.aC .gz) (.k (.aV (.aC .dq) .iU) .z))))
(.k (.expr (.bL .sW (.k (.aC .gz) (.k (.aV (.aC .dq) .iT) .z))))
(.k (.expr (.bL .sW (.k (.aC .gz) (.k (.aV (.aC .dq) .eO) .z))))
(.k (.expr (.bk (.aC .gz) .C7 (.k (.aV (.aC .dq) .gE) .z)))
(.k (.ret (.bk (.aC .gz) .qE .z))
.z)))))))
noncomputable def CV:Ss:=
(.k (.bz .dA (.new ao .Cursor (.k (.aC .bq) .z)))
(.k (.bz .kZ (.bL .pz (.k (.aC .dA) .z)))
(.k (.bz .iU (.bL .pz (.k (.aC .dA) .z)))
(.k (.bz .iT (.bL .pz (.k (.aC .dA) .z)))
(.k (.bz .eO (.bL .pz (.k (.aC .dA) .z)))
(.k (.bz .gE (.bk (.aC .dA) .C7 .z))
(.k (.expr (.bk (.aC .dA) .qE .z))
(.k (.ret (.new ag .g_ (.k (.aC .kZ) (.k (.aC .iU) (.k (.aC .iT) (.k (.aC .eO) (.k (.aC .gE) .z)))))))
.z))))))))
noncomputable def tA:Ss:=
(.k (.setAttr (.aC .aG) .cp (.aC .cp))
(.k (.setAttr (.aC .aG) .bO (.aC .bO))
(.k (.setAttr (.aC .aG) .dq (.aC .dq))
(.k (.setAttr (.aC .aG) .bq (.aC .bq))
.z))))
noncomputable def CS:Ss:=
(.k (.bz .gz (.new ao .Sink .z))
(.k (.expr (.bk (.aC .gz) .oQ (.k (.glob .qZ) .z)))
(.k (.expr (.bk (.aC .gz) .eJ (.k (.aV (.aC .cO) .bO) .z)))
(.k (.expr (.bk (.aC .gz) .eJ (.k (.aV (.aC .cO) .om) .z)))
(.k (.expr (.bk (.aC .gz) .eJ (.k (.aV (.aC .cO) .hZ) .z)))
(.k (.ret (.bk (.aC .gz) .qE .z))
.z))))))
noncomputable def Bv:Ss:=
(.k (.ret (.bR .add (.bc .bytes (.k (.list ag (.k (.glob .wJ) .z)) .z)) (.bL .vM (.k (.aC .fZ) .z))))
.z)
noncomputable def CT:Ss:=
(.k (.bz .gz (.new ao .Sink .z))
(.k (.expr (.bk (.aC .gz) .oQ (.k (.glob .q0) .z)))
(.k (.expr (.bk (.aC .gz) .eJ (.k (.aC .cp) .z)))
(.k (.expr (.bk (.aC .gz) .eJ (.k (.aC .bO) .z)))
(.k (.expr (.bk (.aC .gz) .jJ (.k (.bL .yc (.k (.aC .dq) .z)) .z)))
(.k (.ret (.bk (.aC .gz) .qE .z))
.z))))))
noncomputable def pU:Ss:=
(.k (.setAttr (.aC .aG) .eK (.int 0))
(.k (.setAttr (.aC .aG) .cD (.int 0))
(.k (.setAttr (.aC .aG) .bU (.int 0))
(.k (.setAttr (.aC .aG) .dq .none)
(.k (.setAttr (.aC .aG) .cO (.new ag .fQ (.k (.int 0) (.k (.int 0) (.k (.int 0) .z)))))
(.k (.setAttr (.aC .aG) .aS (.list ao .z))
(.k (.setAttr (.aC .aG) .il (.list ao .z))
.z)))))))
noncomputable def tB:Ss:=
(.k (.dp (.cB (.bc .len (.k (.aC .ej) .z)) .eq (.int 0)) (.k (.cC .eV .cK)
.z) .z)
(.k (.bz .cM (.idx (.aC .ej) (.int 0)))
(.k (.dp (.b7 ag (.k (.cB (.aV (.aC .aG) .eK) .eq (.int 0)) (.k (.cB (.aC .cM) .ne (.glob .q0)) .z))) (.k (.cC .eV .cK)
.z) .z)
(.k (.dp (.b7 ag (.k (.cB (.aV (.aC .aG) .eK) .eq (.int 1)) (.k (.cB (.aC .cM) .ne (.glob .qZ)) .z))) (.k (.cC .eV .cK)
.z) .z)
(.k (.dp (.cB (.aC .cM) .eq (.glob .q0)) (.k (.expr (.bk (.aC .aG) .zO (.k (.aC .ej) .z)))
.z) (.k (.dp (.cB (.aC .cM) .eq (.glob .qZ)) (.k (.expr (.bk (.aC .aG) .zN (.k (.aC .ej) .z)))
.z) (.k (.dp (.cB (.aC .cM) .eq (.glob .wJ)) (.k (.expr (.bk (.aV (.aC .aG) .il) .dg (.k (.bL .vQ (.k (.slice ag (.aC .ej) (.int 1) .none) .z)) .z)))
.z) (.k (.cC .eV (.bR .add .cK (.bc .str (.k (.aC .cM) .z))))
.z))
.z))
.z))
(.k (.ic (.aC .aG) .eK .add (.int 1))
.z))))))
noncomputable def o9:Ss:=
(.k (.dp (.cB (.aV (.aC .aG) .eK) .gt (.int 0)) (.k (.cC .eV .cK)
.z) .z)
(.k (.bz .dA (.new ao .Cursor (.k (.aC .ej) (.k (.int 1) .z))))
(.k (.setAttr (.aC .aG) .cD (.bk (.aC .dA) .eJ .z))
(.k (.setAttr (.aC .aG) .bU (.bk (.aC .dA) .eJ .z))
(.k (.setAttr (.aC .aG) .dq (.bL .yd (.k (.bk (.aC .dA) .jJ .z) .z)))
(.k (.expr (.bk (.aC .dA) .qE .z))
.z))))))
noncomputable def mI:Ss:=
(.k (.expr (.bk (.aC .aG) .PH (.k (.aC .fZ) .z)))
.z)
noncomputable def o8:Ss:=
(.k (.bz .dA (.new ao .Cursor (.k (.aC .ej) (.k (.int 1) .z))))
(.k (.bz .bO (.bk (.aC .dA) .eJ .z))
(.k (.bz .om (.bk (.aC .dA) .eJ .z))
(.k (.bz .hZ (.bk (.aC .dA) .eJ .z))
(.k (.expr (.bk (.aC .dA) .qE .z))
(.k (.uE .fZ (.aV (.aC .aG) .il) mI)
(.k (.setAttr (.aC .aG) .il (.list ao .z))
(.k (.setAttr (.aC .aG) .cO (.new ag .fQ (.k (.aC .bO) (.k (.aC .om) (.k (.aC .hZ) .z)))))
.z))))))))
noncomputable def r4:Ss:=
(.k (.bz .dy (.bR .sub (.bR .sub (.aV (.aC .fZ) .cp) (.aV (.aC .aG) .cD)) (.int 1)))
(.k (.dp (.cB (.aC .dy) .lt (.int 0)) (.k (.cC .eV .cK)
.z) .z)
(.k (.dp (.cB (.aC .dy) .gt (.bc .len (.k (.aV (.aC .aG) .aS) .z))) (.k (.cC .eV (.bR .add (.bR .add .cK (.bc .str (.k (.aV (.aC .fZ) .cp) .z))) .cK))
.z) .z)
(.k (.dp (.cB (.aC .dy) .lt (.bc .len (.k (.aV (.aC .aG) .aS) .z))) (.k (.setAttr (.aC .aG) .aS (.slice ao (.aV (.aC .aG) .aS) .none (.aC .dy)))
.z) .z)
(.k (.expr (.bk (.aV (.aC .aG) .aS) .dg (.k (.aC .fZ) .z)))
.z)))))
noncomputable def nJ:Ss:=
(.k (.dp (.cB (.aV (.aC .aG) .eK) .lt (.int 2)) (.k (.cC .eV .cK)
.z) .z)
.z)
noncomputable def pg:Ss:=
(.k (.bz .qX (.int 0))
(.k (.dp (.cB (.bc .len (.k (.aV (.aC .dq) .kZ) .z)) .gt (.int 0)) (.k (.bz .qX (.int 1))
.z) .z)
(.k (.setAttr (.aC .aG) .cO (.new ag .fQ (.k (.aC .qX) (.k (.int 0) (.k (.aC .qX) .z)))))
(.k (.setAttr (.aC .aG) .dq (.aC .dq))
(.k (.setAttr (.aC .aG) .xQ (.new ag .Snapshot (.k (.aC .qX) (.k (.aC .qX) (.k (.aC .dq) (.k (.bytes []) .z))))))
(.k (.setAttr (.aC .aG) .cD (.aC .qX))
(.k (.setAttr (.aC .aG) .bU (.aC .qX))
(.k (.setAttr (.aC .aG) .aS (.list ag .z))
.z))))))))
noncomputable def mJ:Ss:=
(.k (.ret (.bR .add (.aV (.aC .aG) .cD) (.int 1)))
.z)
noncomputable def nO:Ss:=
(.k (.ret (.bR .add (.aV (.aC .aG) .cD) (.bc .len (.k (.aV (.aC .aG) .aS) .z))))
.z)
noncomputable def kj:Ss:=
(.k (.dp (.cB (.aC .Cg) .le (.aV (.aC .aG) .cD)) (.k (.cC .kY (.gO (.k .cK (.k (.fmt (.aC .Cg)) (.k .cK (.k (.fmt (.aV (.aC .aG) .cD)) .z))))))
.z) .z)
(.k (.dp (.cB (.aC .C4) .gt (.bR .add (.bk (.aC .aG) .cn .z) (.int 1))) (.k (.cC .hM (.gO (.k .cK (.k (.fmt (.aC .C4)) (.k .cK (.k (.fmt (.bk (.aC .aG) .cn .z)) .z))))))
.z) .z)
(.k (.dp (.cB (.aC .C4) .le (.aC .Cg)) (.k (.ret (.list ag .z))
.z) .z)
(.k (.bz .iA (.bk (.aC .aG) .de .z))
(.k (.ret (.bL .kN (.k (.slice ag (.aV (.aC .aG) .aS) (.bR .sub (.aC .Cg) (.aC .iA)) (.bR .sub (.aC .C4) (.aC .iA))) (.k (.aC .qa) .z))))
.z)))))
noncomputable def pW:Ss:=
(.k (.dp (.cB (.aC .xi) .lt (.aV (.aC .aG) .cD)) (.k (.cC .kY (.gO (.k .cK (.k (.fmt (.aC .xi)) (.k .cK (.k (.fmt (.aV (.aC .aG) .cD)) .z))))))
.z) .z)
(.k (.dp (.cB (.aC .xi) .gt (.bk (.aC .aG) .cn .z)) (.k (.cC .hM (.gO (.k .cK (.k (.fmt (.aC .xi)) (.k .cK (.k (.fmt (.bk (.aC .aG) .cn .z)) .z))))))
.z) .z)
(.k (.dp (.cB (.aC .xi) .eq (.aV (.aC .aG) .cD)) (.k (.ret (.aV (.aC .aG) .bU))
.z) .z)
(.k (.ret (.aV (.idx (.aV (.aC .aG) .aS) (.bR .sub (.aC .xi) (.bk (.aC .aG) .de .z))) .bO))
.z))))
noncomputable def pf:Ss:=
(.k (.setAttr (.aC .aG) .cO (.bk (.aC .cO) .W6 .z))
.z)
noncomputable def oj:Ss:=
(.k (.dp (.cB (.aV (.idx (.aC .aS) (.aC .xk)) .cp) .ne (.bR .add (.aC .mV) (.aC .xk))) (.k (.cC .B' (.gO (.k .cK (.k (.fmt (.aV (.idx (.aC .aS) (.aC .xk)) .cp)) (.k .cK (.k (.fmt (.bR .add (.aC .mV) (.aC .xk))) (.k .cK .z)))))))
.z) .z)
.z)
noncomputable def qu:Ss:=
(.k (.dp (.cB (.bc .len (.k (.aC .aS) .z)) .eq (.int 0)) (.k .yH
.z) .z)
(.k (.bz .mV (.aV (.idx (.aC .aS) (.int 0)) .cp))
(.k (.forR .xk .none (.bc .len (.k (.aC .aS) .z)) oj)
(.k (.bz .iA (.bk (.aC .aG) .de .z))
(.k (.dp (.cB (.bR .sub (.bR .add (.aC .mV) (.bc .len (.k (.aC .aS) .z))) (.int 1)) .lt (.aC .iA)) (.k .yH
.z) .z)
(.k (.dp (.cB (.aC .mV) .gt (.bR .add (.bk (.aC .aG) .cn .z) (.int 1))) (.k (.cC .B' (.gO (.k .cK (.k (.fmt (.aC .mV)) (.k .cK (.k (.fmt (.bk (.aC .aG) .cn .z)) .z))))))
.z) .z)
(.k (.dp (.cB (.aC .mV) .lt (.aC .iA)) (.k (.bz .aS (.slice ag (.aC .aS) (.bR .sub (.aC .iA) (.aC .mV)) .none))
(.k (.bz .mV (.aC .iA))
.z)) .z)
(.k (.setAttr (.aC .aG) .aS (.bR .add (.slice ag (.aV (.aC .aG) .aS) .none (.bR .sub (.aC .mV) (.aC .iA))) (.aC .aS)))
.z))))))))
noncomputable def kS:Ss:=
(.k (.dp (.b7 ao (.k (.cB (.aV (.aC .cZ) .cp) .le (.aV (.aV (.aC .aG) .xQ) .cp)) (.k (.cB (.aV (.aC .cZ) .cp) .lt (.aV (.aC .aG) .cD)) .z))) (.k (.cC .ua (.gO (.k .cK (.k (.fmt (.aV (.aC .cZ) .cp)) (.k .cK .z)))))
.z) .z)
(.k (.setAttr (.aC .aG) .xQ (.aC .cZ))
(.k (.setAttr (.aC .aG) .dq (.aV (.aC .cZ) .dq))
(.k (.setAttr (.aC .aG) .cD (.aV (.aC .cZ) .cp))
(.k (.setAttr (.aC .aG) .bU (.aV (.aC .cZ) .bO))
(.k (.setAttr (.aC .aG) .aS (.list ag .z))
.z))))))
noncomputable def tx:Ss:=
(.k (.setAttr (.aC .aG) .cZ .none)
(.k (.setAttr (.aC .aG) .aS (.list ag .z))
(.k (.setAttr (.aC .aG) .cJ (.aC .cJ))
.z)))
noncomputable def qs:Ss:=
(.k (.dp (.cB (.aV (.aC .aG) .cZ) .lH .none) (.k (.ret (.bR .add (.aV (.aV (.aC .aG) .cZ) .cp) (.int 1)))
.z) .z)
(.k (.ret .none)
.z))
noncomputable def qR:Ss:=
(.k (.dp (.cB (.bc .len (.k (.aV (.aC .aG) .aS) .z)) .gt (.int 0)) (.k (.ret (.bR .sub (.bR .add (.aV (.aC .aG) .cJ) (.bc .len (.k (.aV (.aC .aG) .aS) .z))) (.int 1)))
.z) .z)
(.k (.dp (.cB (.aV (.aC .aG) .cZ) .lH .none) (.k (.ret (.bR .sub (.aV (.aC .aG) .cJ) (.int 1)))
.z) .z)
(.k (.ret .none)
.z)))
noncomputable def qQ:Ss:=
(.k (.dp (.cB (.aC .xi) .lt (.aV (.aC .aG) .cJ)) (.k (.dp (.b7 ag (.k (.cB (.aV (.aC .aG) .cZ) .lH .none) (.k (.cB (.aV (.aV (.aC .aG) .cZ) .cp) .eq (.aC .xi)) .z))) (.k (.ret (.aV (.aV (.aC .aG) .cZ) .bO))
.z) .z)
(.k (.ret .none)
.z)) .z)
(.k (.dp (.cB (.aC .xi) .ge (.bR .add (.aV (.aC .aG) .cJ) (.bc .len (.k (.aV (.aC .aG) .aS) .z)))) (.k (.ret .none)
.z) .z)
(.k (.ret (.aV (.idx (.aV (.aC .aG) .aS) (.bR .sub (.aC .xi) (.aV (.aC .aG) .cJ))) .bO))
.z)))
noncomputable def r3:Ss:=
(.k (.dp (.cB (.aC .xi) .lt (.aV (.aC .aG) .cJ)) (.k .yH
.z) .z)
(.k (.bz .lQ (.bk (.aC .aG) .qV (.k (.aC .xi) .z)))
(.k (.dp (.b7 ao (.k (.cB (.aC .lQ) .is_ .none) (.k (.cB (.aC .lQ) .ne (.aC .bO)) .z))) (.k .yH
.z) .z)
(.k (.setAttr (.aC .aG) .aS (.slice ag (.aV (.aC .aG) .aS) (.bR .sub (.bR .add (.aC .xi) (.int 1)) (.aV (.aC .aG) .cJ)) .none))
(.k (.setAttr (.aC .aG) .cJ (.bR .add (.aC .xi) (.int 1)))
.z)))))
noncomputable def kR:Ss:=
(.k (.dp (.cB (.bc .len (.k (.aC .aS) .z)) .eq (.int 0)) (.k .yH
.z) .z)
(.k (.bz .qb (.aV (.idx (.aC .aS) (.int 0)) .cp))
(.k (.dp (.cB (.aC .qb) .eq (.bR .add (.aV (.aC .aG) .cJ) (.bc .len (.k (.aV (.aC .aG) .aS) .z)))) (.k (.setAttr (.aC .aG) .aS (.bR .add (.aV (.aC .aG) .aS) (.aC .aS)))
.z) (.k (.dp (.cB (.aC .qb) .le (.aV (.aC .aG) .cJ)) (.k (.setAttr (.aC .aG) .cJ (.aC .qb))
(.k (.setAttr (.aC .aG) .aS (.slice ag (.aC .aS) .none .none))
.z)) (.k (.dp (.cB (.aC .qb) .lt (.bR .add (.aV (.aC .aG) .cJ) (.bc .len (.k (.aV (.aC .aG) .aS) .z)))) (.k (.setAttr (.aC .aG) .aS (.bR .add (.bk (.aC .aG) .C3 (.k (.aV (.aC .aG) .cJ) (.k (.aC .qb) .z))) (.aC .aS)))
.z) (.k (.cC .jx (.gO (.k .cK (.k (.fmt (.aC .qb)) (.k .cK (.k (.fmt (.bR .sub (.bR .add (.aV (.aC .aG) .cJ) (.bc .len (.k (.aV (.aC .aG) .aS) .z))) (.int 1))) .z))))))
.z))
.z))
.z))
.z)))
noncomputable def y6:Ss:=
(.k (.dp (.cB (.aC .Cg) .gt (.aC .C4)) (.k (.cC .jx (.gO (.k .cK (.k (.fmt (.aC .Cg)) (.k .cK (.k (.fmt (.aC .C4)) (.k .cK .z)))))))
.z) .z)
(.k (.dp (.b7 ao (.k (.cB (.aC .Cg) .lt (.aV (.aC .aG) .cJ)) (.k (.cB (.aC .C4) .gt (.bR .add (.aV (.aC .aG) .cJ) (.bc .len (.k (.aV (.aC .aG) .aS) .z)))) .z))) (.k (.cC .jx (.gO (.k .cK (.k (.fmt (.aC .Cg)) (.k .cK (.k (.fmt (.aC .C4)) (.k .cK (.k (.fmt (.aV (.aC .aG) .cJ)) (.k .cK (.k (.fmt (.bR .add (.aV (.aC .aG) .cJ) (.bc .len (.k (.aV (.aC .aG) .aS) .z)))) .z))))))))))
.z) .z)
(.k (.ret (.slice ag (.aV (.aC .aG) .aS) (.bR .sub (.aC .Cg) (.aV (.aC .aG) .cJ)) (.bR .sub (.aC .C4) (.aV (.aC .aG) .cJ))))
.z)))
noncomputable def uO:Ss:=
(.k (.setAttr (.aC .aG) .cV (.aC .cV))
(.k (.setAttr (.aC .aG) .fC (.aC .fC))
(.k (.bz .iA (.bk (.aC .cV) .de .z))
(.k (.setAttr (.aC .aG) .fN (.new ao .j' (.k (.bR .add (.bk (.aC .cV) .cn .z) (.int 1)) .z)))
(.k (.setAttr (.aC .aG) .b6 (.bR .sub (.aC .iA) (.int 1)))
(.k (.setAttr (.aC .aG) .d_ (.bR .sub (.aC .iA) (.int 1)))
.z))))))
noncomputable def qS:Ss:=
(.k (.bz .xi (.bk (.aV (.aC .aG) .fN) .u6 .z))
(.k (.dp (.cB (.aC .xi) .lH .none) (.k (.ret (.aC .xi))
.z) .z)
(.k (.ret (.bk (.aV (.aC .aG) .cV) .de .z))
.z)))
noncomputable def r7:Ss:=
(.k (.bz .xi (.bk (.aV (.aC .aG) .fN) .xS .z))
(.k (.dp (.cB (.aC .xi) .lH .none) (.k (.ret (.aC .xi))
.z) .z)
(.k (.ret (.bk (.aV (.aC .aG) .cV) .cn .z))
.z)))
noncomputable def tD:Ss:=
(.k (.Eh (.k (.ret (.bk (.aC .aG) .bO (.k (.bk (.aC .aG) .cn .z) .z)))
.z) ag [.kY,.hM] .other)
.z)
noncomputable def By:Ss:=
(.k (.bz .Jz (.bk (.aV (.aC .aG) .fN) .qV (.k (.aC .xi) .z)))
(.k (.dp (.cB (.aC .Jz) .lH .none) (.k (.ret (.aC .Jz))
.z) .z)
(.k (.dp (.cB (.bR .add (.aC .xi) (.int 1)) .lt (.bk (.aC .aG) .de .z)) (.k (.cC .kY (.gO (.k .cK (.k (.fmt (.aC .xi)) (.k .cK (.k (.fmt (.bk (.aC .aG) .de .z)) .z))))))
.z) .z)
(.k (.dp (.cB (.aC .xi) .gt (.bk (.aC .aG) .cn .z)) (.k (.cC .hM (.gO (.k .cK (.k (.fmt (.aC .xi)) (.k .cK (.k (.fmt (.bk (.aC .aG) .cn .z)) .z))))))
.z) .z)
(.k (.ret (.bk (.aV (.aC .aG) .cV) .GV (.k (.aC .xi) .z)))
.z)))))
noncomputable def r6:Ss:=
(.k (.Eh (.k (.ret (.cB (.bk (.aC .aG) .bO (.k (.aC .xi) .z)) .eq (.aC .xt)))
.z) ag [.kY,.hM] (.Qp ao))
.z)
noncomputable def oh:Ss:=
(.k (.dp (.cB (.aV (.idx (.aC .aS) (.aC .xk)) .cp) .ne (.bR .add (.bR .add (.aC .cp) (.int 1)) (.aC .xk))) (.k (.cC .B' (.gO (.k .cK (.k (.fmt (.aV (.idx (.aC .aS) (.aC .xk)) .cp)) (.k .cK (.k (.fmt (.bR .add (.bR .add (.aC .cp) (.int 1)) (.aC .xk))) (.k .cK .z)))))))
.z) .z)
.z)
noncomputable def qt:Ss:=
(.k (.dp (.kL (.bk (.aC .aG) .lz (.k (.aC .cp) (.k (.aC .sR) .z)))) (.k (.ret .none)
.z) .z)
(.k (.forR .xk .none (.bc .len (.k (.aC .aS) .z)) oh)
(.k (.bz .fY (.bR .add (.aC .cp) (.bc .len (.k (.aC .aS) .z))))
(.k (.bz .px (.bk (.aC .aG) .qW (.k (.aC .aS) .z)))
(.k (.dp (.cB (.aC .px) .ne (.int 0)) (.k (.dp (.cB (.aC .px) .le (.aV (.aC .aG) .b6)) (.k (.cC .jx (.gO (.k .cK (.k (.fmt (.aC .px)) (.k .cK (.k (.fmt (.aV (.aC .aG) .b6)) .z))))))
.z) .z)
(.k (.expr (.bk (.aC .aG) .dg (.k (.slice ag (.aC .aS) (.bR .sub (.aC .px) (.bR .add (.aC .cp) (.int 1))) .none) .z)))
.z)) .z)
(.k (.expr (.bk (.aC .aG) .uk (.k (.bc .min (.k (.aC .b6) (.k (.aC .fY) .z))) .z)))
(.k (.ret (.aC .fY))
.z)))))))
noncomputable def xl:Ss:=
(.k (.dp (.cB (.bc .len (.k (.aC .aS) .z)) .eq (.int 0)) (.k (.ret (.bk (.aC .aG) .cn .z))
.z) .z)
(.k (.bz .u_ (.bR .sub (.aV (.idx (.aC .aS) (.int 0)) .cp) (.int 1)))
(.k (.dp (.cB (.aC .u_) .lt (.aV (.aC .aG) .b6)) (.k (.cC .jx (.gO (.k .cK (.k (.fmt (.aC .u_)) (.k .cK (.k (.fmt (.aV (.aC .aG) .b6)) .z))))))
.z) .z)
(.k (.dp (.cB (.aC .u_) .gt (.bk (.aC .aG) .cn .z)) (.k (.cC .B' (.gO (.k .cK (.k (.fmt (.aC .u_)) (.k .cK (.k (.fmt (.bk (.aC .aG) .cn .z)) .z))))))
.z) .z)
(.k (.expr (.bk (.aV (.aC .aG) .fN) .ly (.k (.aC .aS) .z)))
(.k (.ret (.bk (.aC .aG) .cn .z))
.z))))))
noncomputable def nN:Ss:=
(.k (.dp (.kL (.bk (.aC .aG) .lz (.k (.aV (.aC .xe) .cp) (.k (.aV (.aC .xe) .bO) .z)))) (.k (.ret (.aV (.aC .xe) .cp))
.z) .z)
.z)
noncomputable def pV:Ss:=
(.k (.uE .xe (.aC .aS) nN)
(.k (.ret (.int 0))
.z))
noncomputable def tE:Ss:=
(.k (.dp (.cB (.aC .xi) .le (.aV (.aC .aG) .b6)) (.k .yH
.z) .z)
(.k (.dp (.cB (.aC .xi) .gt (.bk (.aC .aG) .cn .z)) (.k (.cC .jx (.gO (.k .cK (.k (.fmt (.aC .xi)) (.k .cK (.k (.fmt (.bk (.aC .aG) .cn .z)) .z))))))
.z) .z)
(.k (.setAttr (.aC .aG) .b6 (.aC .xi))
.z)))
noncomputable def r8:Ss:=
(.k (.dp (.cB (.aC .xi) .eq (.int 0)) (.k .yH
.z) .z)
(.k (.dp (.b7 ao (.k (.cB (.aC .xi) .gt (.aV (.aC .aG) .b6)) (.k (.cB (.aC .xi) .lt (.aV (.aC .aG) .d_)) .z))) (.k (.cC .jx (.gO (.k .cK (.k (.fmt (.aC .xi)) (.k .cK (.k (.fmt (.aV (.aC .aG) .d_)) (.k .cK (.k (.fmt (.aV (.aC .aG) .b6)) .z))))))))
.z) .z)
(.k (.setAttr (.aC .aG) .d_ (.aC .xi))
.z)))
noncomputable def tC:Ss:=
(.k (.expr (.bk (.aV (.aC .aG) .fN) .p_ (.k (.aC .xi) (.k (.aC .bO) .z))))
.z)
noncomputable def nK:Ss:=
(.k (.ret (.slice ag (.aV (.aV (.aC .aG) .fN) .aS) .none .none))
.z)
noncomputable def nM:Ss:=
(.k (.ret (.b7 ag (.k (.cB (.aV (.aV (.aC .aG) .fN) .cZ) .lH .none) (.k (.kL (.bk (.aV (.aV (.aC .aG) .fN) .cZ) .YB .z)) .z))))
.z)
noncomputable def oi:Ss:=
(.k (.ret (.bc .max (.k (.bR .add (.aV (.aC .aG) .d_) (.int 1)) (.k (.bk (.aC .aG) .de .z) .z))))
.z)
noncomputable def uN:Ss:=
(.k (.dp (.bk (.aC .aG) .oq .z) (.k (.ret (.bool ao))
.z) .z)
(.k (.ret (.cB (.bR .add (.aV (.aC .aG) .b6) (.int 1)) .gt (.bk (.aC .aG) .kC .z)))
.z))
noncomputable def o_:Ss:=
(.k (.dp (.kL (.bk (.aC .aG) .C5 .z)) (.k (.ret (.list ag .z))
.z) .z)
(.k (.ret (.bk (.aC .aG) .Jx (.k (.bk (.aC .aG) .kC .z) (.k (.bR .add (.aV (.aC .aG) .b6) (.int 1)) (.k (.aV (.aC .aG) .fC) .z)))))
.z))
noncomputable def wj:Ss:=
(.k (.dp (.cB (.aC .xi) .gt (.bk (.aC .aG) .cn .z)) (.k (.ret (.list ag .z))
.z) .z)
(.k (.ret (.bk (.aC .aG) .Jx (.k (.aC .xi) (.k (.bR .add (.bk (.aC .aG) .cn .z) (.int 1)) (.k (.aC .qa) .z)))))
.z))
noncomputable def qT:Ss:=
(.k (.ret (.bk (.aC .aG) .aS (.k (.bk (.aC .aG) .de .z) (.k (.glob .C9) .z))))
.z)
noncomputable def y9:Ss:=
(.k (.dp (.cB (.aC .Cg) .gt (.aC .C4)) (.k (.cC .jx (.gO (.k .cK (.k (.fmt (.aC .Cg)) (.k .cK (.k (.fmt (.aC .C4)) (.k .cK .z)))))))
.z) .z)
(.k (.dp (.cB (.aC .Cg) .lt (.bk (.aC .aG) .de .z)) (.k (.cC .kY (.gO (.k .cK (.k (.fmt (.aC .Cg)) (.k .cK (.k (.fmt (.bk (.aC .aG) .de .z)) .z))))))
.z) .z)
(.k (.dp (.cB (.aC .C4) .gt (.bR .add (.bk (.aC .aG) .cn .z) (.int 1))) (.k (.cC .jx (.gO (.k .cK (.k (.fmt (.aC .C4)) (.k .cK (.k (.fmt (.bk (.aC .aG) .cn .z)) .z))))))
.z) .z)
(.k (.dp (.cB (.aC .Cg) .eq (.aC .C4)) (.k (.ret (.list ag .z))
.z) .z)
(.k (.bz .cJ (.aV (.aV (.aC .aG) .fN) .cJ))
(.k (.bz .lQ (.list ag .z))
(.k (.dp (.cB (.aC .Cg) .lt (.aC .cJ)) (.k (.bz .mA (.bc .min (.k (.aC .C4) (.k (.aC .cJ) .z))))
(.k (.Eh (.k (.bz .lQ (.bk (.aV (.aC .aG) .cV) .pw (.k (.aC .Cg) (.k (.aC .mA) (.k (.aC .qa) .z)))))
.z) ao [.hM] .other)
(.k (.dp (.cB (.bc .len (.k (.aC .lQ) .z)) .lt (.bR .sub (.aC .mA) (.aC .Cg))) (.k (.ret (.aC .lQ))
.z) .z)
.z))) .z)
(.k (.dp (.cB (.aC .C4) .gt (.aC .cJ)) (.k (.bz .lQ (.bR .add (.aC .lQ) (.bk (.aV (.aC .aG) .fN) .C3 (.k (.bc .max (.k (.aC .Cg) (.k (.aC .cJ) .z))) (.k (.aC .C4) .z)))))
.z) .z)
(.k (.ret (.bL .kN (.k (.aC .lQ) (.k (.aC .qa) .z))))
.z)))))))))
noncomputable def CW:Ss:=
(.k (.dp (.b7 ao (.k (.cB (.aC .dB) .lt (.bR .add (.glob .jU) (.int 1))) (.k (.cB (.aC .dB) .gt (.glob .zT)) .z))) (.k (.cC .i7 .cK)
.z) .z)
.z)
noncomputable def FX:Ss:=
(.k (.dp (.b7 ag (.k (.cB (.aC .fR) .ne (.glob .um)) (.k (.cB (.aC .fR) .ne (.glob .iL)) .z))) (.k (.cC .i7 .cK)
.z) .z)
.z)
noncomputable def yZ:Ss:=
(.k (.bz .jQ (.bc .len (.k (.aC .bq) .z)))
(.k (.bz .xU (.bR .add (.bc .bytes (.k (.list ag (.k (.aC .cM) .z)) .z)) (.aC .bq)))
(.k (.ret (.bR .add (.bR .add (.bL .rg (.k (.bL .checksum (.k (.aC .fR) (.k (.aC .xU) .z))) .z)) (.bc .bytes (.k (.list ag (.k (.bR .mod (.aC .jQ) (.int 256)) (.k (.bR .fdiv (.aC .jQ) (.int 256)) .z))) .z))) (.aC .xU)))
.z)))
noncomputable def r9:Ss:=
(.k (.expr (.bL .rQ (.k (.aC .dB) .z)))
(.k (.expr (.bL .uG (.k (.aC .fR) .z)))
(.k (.dp (.cB (.aC .gA) .lt (.int 0)) (.k (.cC .i7 .cK)
.z) .z)
(.k (.setAttr (.aC .aG) .gC (.aC .gC))
(.k (.setAttr (.aC .aG) .dB (.aC .dB))
(.k (.setAttr (.aC .aG) .fR (.aC .fR))
(.k (.setAttr (.aC .aG) .gA (.aC .gA))
.z)))))))
noncomputable def y_:Ss:=
(.k (.expr (.bk (.aV (.aC .aG) .gC) .dg (.k (.aC .jR) .z)))
(.k (.ic (.aC .aG) .gA .add (.bc .len (.k (.aC .jR) .z)))
.z))
noncomputable def uP:Ss:=
(.k (.bz .xR (.bR .sub (.aV (.aC .aG) .dB) (.bR .mod (.aV (.aC .aG) .gA) (.aV (.aC .aG) .dB))))
(.k (.dp (.cB (.aC .xR) .lt (.glob .jU)) (.k (.expr (.bk (.aC .aG) .UT (.k (.bc .bytes (.k (.aC .xR) .z)) .z)))
(.k (.bz .xR (.aV (.aC .aG) .dB))
.z)) .z)
(.k (.bz .mU (.bc .min (.k (.aC .jQ) (.k (.bR .sub (.bR .add (.aC .dY) (.aC .xR)) (.glob .jU)) .z))))
(.k (.bz .lR (.cB (.aC .mU) .eq (.aC .jQ)))
(.k (.dp (.aC .gK) (.k (.bz .cM (.ite (.aC .lR) (.glob .GX) (.glob .zk)))
.z) (.k (.bz .cM (.ite (.aC .lR) (.glob .GY) (.glob .Ec)))
.z))
(.k (.expr (.bk (.aC .aG) .UT (.k (.bL .oV (.k (.aC .cM) (.k (.slice ag (.aC .jR) (.aC .dY) (.aC .mU)) (.k (.aV (.aC .aG) .fR) .z)))) .z)))
(.k (.bz .dY (.aC .mU))
(.k (.bz .gK (.bool ag))
.z))))))))
noncomputable def za:Ss:=
(.k (.bz .jQ (.bc .len (.k (.aC .jR) .z)))
(.k (.bz .dY (.int 0))
(.k (.bz .gK (.bool ao))
(.k (.bz .lR (.bool ao))
(.k (.kD (.kL (.aC .lR)) uP)
.z)))))
noncomputable def sd:Ss:=
(.k (.expr (.bL .rQ (.k (.aC .dB) .z)))
(.k (.expr (.bL .uG (.k (.aC .fR) .z)))
(.k (.setAttr (.aC .aG) .bq (.bc .bytes (.k (.aC .bq) .z)))
(.k (.setAttr (.aC .aG) .dB (.aC .dB))
(.k (.setAttr (.aC .aG) .fR (.aC .fR))
(.k (.setAttr (.aC .aG) .dY (.int 0))
(.k (.setAttr (.aC .aG) .eg (.int 0))
(.k (.setAttr (.aC .aG) .uj (.bool ao))
(.k (.setAttr (.aC .aG) .u4 (.int 0))
(.k (.setAttr (.aC .aG) .u5 (.list ao .z))
(.k (.setAttr (.aC .aG) .xO (.bool ao))
(.k (.setAttr (.aC .aG) .hW (.int 0))
(.k (.setAttr (.aC .aG) .jT (.int 0))
.z)))))))))))))
noncomputable def qv:Ss:=
(.k (.setAttr (.aC .aG) .dY (.aV (.aC .aG) .eg))
(.k (.setAttr (.aC .aG) .eg (.bc .min (.k (.bc .len (.k (.aV (.aC .aG) .bq) .z)) (.k (.bR .add (.aV (.aC .aG) .dY) (.aV (.aC .aG) .dB)) .z))))
(.k (.setAttr (.aC .aG) .uj (.cB (.bR .sub (.aV (.aC .aG) .eg) (.aV (.aC .aG) .dY)) .lt (.aV (.aC .aG) .dB)))
.z)))
noncomputable def gV:Ss:=
(.k (.dp (.aV (.aC .aG) .uj) (.k (.dp (.cB (.aV (.aC .aG) .dY) .lt (.aV (.aC .aG) .eg)) (.k (.setAttr (.aC .aG) .xO (.bool ag))
(.k (.setAttr (.aC .aG) .dY (.aV (.aC .aG) .eg))
.z)) .z)
(.k (.ret (.tuple (.k (.glob .vf) (.k (.bytes []) .z))))
.z)) .z)
(.k (.expr (.bk (.aC .aG) .xN .z))
.z))
noncomputable def r_:Ss:=
(.k (.kD (.cB (.bR .sub (.aV (.aC .aG) .eg) (.aV (.aC .aG) .dY)) .lt (.glob .jU)) gV)
(.k (.bz .dY (.aV (.aC .aG) .dY))
(.k (.bz .xT (.bR .sub (.aV (.aC .aG) .eg) (.aC .dY)))
(.k (.bz .jQ (.bR .add (.idx (.aV (.aC .aG) .bq) (.bR .add (.aC .dY) (.int 4))) (.bR .mul (.idx (.aV (.aC .aG) .bq) (.bR .add (.aC .dY) (.int 5))) (.int 256))))
(.k (.bz .cM (.idx (.aV (.aC .aG) .bq) (.bR .add (.aC .dY) (.int 6))))
(.k (.dp (.cB (.bR .add (.glob .jU) (.aC .jQ)) .gt (.aC .xT)) (.k (.setAttr (.aC .aG) .dY (.aV (.aC .aG) .eg))
(.k (.dp (.aV (.aC .aG) .uj) (.k (.setAttr (.aC .aG) .xO (.bool ag))
(.k (.ret (.tuple (.k (.glob .vf) (.k (.bytes []) .z))))
.z)) .z)
(.k (.ic (.aC .aG) .jT .add (.int 1))
(.k (.expr (.bk (.aC .aG) .C8 (.k (.aC .xT) (.k .cK .z))))
(.k (.ret (.tuple (.k (.glob .ve) (.k (.bytes []) .z))))
.z))))) .z)
(.k (.dp (.b7 ag (.k (.cB (.aC .cM) .eq (.glob .W8)) (.k (.cB (.aC .jQ) .eq (.int 0)) .z))) (.k (.setAttr (.aC .aG) .dY (.aV (.aC .aG) .eg))
(.k (.ic (.aC .aG) .jT .add (.int 1))
(.k (.ret (.tuple (.k (.glob .ve) (.k (.bytes []) .z))))
.z))) .z)
(.k (.bz .mU (.bR .add (.bR .add (.aC .dY) (.glob .jU)) (.aC .jQ)))
(.k (.bz .xU (.slice ag (.aV (.aC .aG) .bq) (.bR .sub (.bR .add (.aC .dY) (.glob .jU)) (.int 1)) (.aC .mU)))
(.k (.dp (.cB (.bL .jW (.k (.aV (.aC .aG) .bq) (.k (.aC .dY) .z))) .ne (.bL .checksum (.k (.aV (.aC .aG) .fR) (.k (.aC .xU) .z)))) (.k (.setAttr (.aC .aG) .dY (.aV (.aC .aG) .eg))
(.k (.ic (.aC .aG) .jT .add (.int 1))
(.k (.expr (.bk (.aC .aG) .C8 (.k (.aC .xT) (.k .cK .z))))
(.k (.ret (.tuple (.k (.glob .ve) (.k (.bytes []) .z))))
.z)))) .z)
(.k (.setAttr (.aC .aG) .dY (.aC .mU))
(.k (.ret (.tuple (.k (.aC .cM) (.k (.slice ag (.aC .xU) (.int 1) .none) .z))))
.z))))))))))))
noncomputable def mu:Ss:=
(.k (.jA [.cM,.bq] (.bk (.aC .aG) .C6 .z))
(.k (.dp (.cB (.aC .cM) .eq (.glob .vf)) (.k (.dp (.aC .gK) (.k (.setAttr (.aC .aG) .xO (.bool ag))
.z) .z)
(.k (.ret .none)
.z)) .z)
(.k (.dp (.b7 ao (.k (.cB (.aC .cM) .eq (.glob .GY)) (.k (.cB (.aC .cM) .eq (.glob .Ec)) .z))) (.k (.dp (.aC .gK) (.k (.ic (.aC .aG) .jT .add (.int 1))
(.k (.dp (.cB (.bc .len (.k (.aC .fX) .z)) .gt (.int 0)) (.k (.expr (.bk (.aC .aG) .C8 (.k (.bc .len (.k (.aC .fX) .z)) (.k .cK .z))))
.z) .z)
.z)) .z)
(.k (.dp (.cB (.aC .cM) .eq (.glob .GY)) (.k (.setAttr (.aC .aG) .hW (.aV (.aC .aG) .dY))
(.k (.ret (.aC .bq))
.z)) .z)
(.k (.bz .fX (.bc .bytearray (.k (.aC .bq) .z)))
(.k (.bz .gK (.bool ag))
.z)))) (.k (.dp (.b7 ao (.k (.cB (.aC .cM) .eq (.glob .zk)) (.k (.cB (.aC .cM) .eq (.glob .GX)) .z))) (.k (.dp (.kL (.aC .gK)) (.k (.ic (.aC .aG) .jT .add (.int 1))
(.k (.expr (.bk (.aC .aG) .C8 (.k (.bc .len (.k (.aC .bq) .z)) (.k .cK .z))))
.z)) (.k (.expr (.bk (.aC .fX) .jS (.k (.aC .bq) .z)))
(.k (.dp (.cB (.aC .cM) .eq (.glob .GX)) (.k (.setAttr (.aC .aG) .hW (.aV (.aC .aG) .dY))
(.k (.ret (.bc .bytes (.k (.aC .fX) .z)))
.z)) .z)
.z)))
.z) (.k (.dp (.cB (.aC .cM) .eq (.glob .ve)) (.k (.dp (.aC .gK) (.k (.expr (.bk (.aC .aG) .C8 (.k (.bc .len (.k (.aC .fX) .z)) (.k .cK .z))))
.z) .z)
.z) (.k (.ic (.aC .aG) .jT .add (.int 1))
(.k (.expr (.bk (.aC .aG) .C8 (.k (.bR .add (.bc .len (.k (.aC .bq) .z)) (.bc .len (.k (.aC .fX) .z))) (.k (.bR .add .cK (.bc .str (.k (.aC .cM) .z))) .z))))
.z)))
(.k (.bz .fX (.bc .bytearray .z))
(.k (.bz .gK (.bool ao))
.z))))
.z))
.z)))
noncomputable def xm:Ss:=
(.k (.bz .gK (.bool ao))
(.k (.bz .fX (.bc .bytearray .z))
(.k (.kD (.bool ag) mu)
.z)))
noncomputable def xf:Ss:=
(.k (.expr (.bk (.aC .iK) .dg (.k (.aC .ej) .z)))
(.k (.bz .lB (.aV (.aC .sQ) .hW))
(.k (.bz .ej (.bk (.aC .sQ) .PK .z))
.z)))
noncomputable def CK:Ss:=
(.k (.bz .sQ (.new ao .xM (.k (.aC .bq) (.k (.aC .dB) (.k (.aC .fR) .z)))))
(.k (.bz .iK (.list ao .z))
(.k (.bz .lB (.int 0))
(.k (.bz .ej (.bk (.aC .sQ) .PK .z))
(.k (.kD (.b7 ag (.k (.cB (.aC .ej) .lH .none) (.k (.cB (.aV (.aC .sQ) .jT) .eq (.int 0)) .z))) xf)
(.k (.freeze .iK)
(.k (.ret (.tuple (.k (.aC .iK) (.k (.aC .lB) .z))))
.z)))))))
noncomputable def Lq:Ss:=
(.k (.ret (.bR .add (.idx (.aC .i8) (.bR .mod (.aC .xi) (.bc .len (.k (.aC .i8) .z)))) (.bR .mul (.int 7919) (.bR .fdiv (.aC .xi) (.bc .len (.k (.aC .i8) .z))))))
.z)
noncomputable def CP:Ss:=
(.k (.bz .cM (.glob .jj))
(.k (.dp (.cB (.bR .mod (.aC .xi) (.int 5)) .eq (.int 4)) (.k (.bz .cM (.glob .q6))
.z) .z)
(.k (.expr (.bk (.aC .f7) .dg (.k (.tuple (.k (.aC .bO) (.k (.aC .xi) (.k (.aC .cM) (.k (.bR .mul (.bc .bytes (.k (.list ag (.k (.bR .mod (.bR .add (.aC .bO) (.aC .xi)) (.int 256)) .z)) .z)) (.bR .mod (.aC .xi) (.int 3))) .z))))) .z)))
.z)))
noncomputable def Ln:Ss:=
(.k (.bz .f7 (.list ao .z))
(.k (.forR .xi (.aC .cp) (.bR .add (.aC .cp) (.aC .eK)) CP)
(.k (.freeze .f7)
(.k (.ret (.aC .f7))
.z))))
noncomputable def CR:Ss:=
(.k (.ret (.comp ag (.new ag .Entry (.k (.aC .bO) (.k (.aC .cp) (.k (.aC .cM) (.k (.aC .bq) .z))))) ag [.bO,.cp,.cM,.bq] (.aC .f7) .none []))
.z)
noncomputable def Lk:Ss:=
(.k (.ret (.comp ag (.bk (.aC .fZ) .mW .z) ao [.fZ] (.aC .aS) .none []))
.z)
noncomputable def Pc:Ss:=
(.k (.expr (.bk (.key (.aC .xw) .fy) .aa3 (.k (.aC .ej) .z)))
(.k (.expr (.bk (.key (.aC .xw) .km) .dg (.k (.aV (.key (.aC .xw) .fy) .gA) .z)))
.z))
noncomputable def Bu:Ss:=
(.k (.expr (.bL .mC (.k (.aC .xw) (.k (.bL .j7 (.k (.aC .fZ) .z)) .z))))
.z)
noncomputable def nH:Ss:=
(.k (.c4 (.aC .xw) .iF (.aV (.key (.aC .xw) .fy) .gA))
(.k (.c4 (.aC .xw) .iz (.list ao (.k (.tuple (.k (.key (.aC .xw) .iF) (.k (.aC .f7) (.k (.aC .cO) .z)))) .z)))
.z))
noncomputable def Bt:Ss:=
(.k (.dp (.cB (.aC .f7) .ne (.list ao .z)) (.k (.uE .fZ (.bL .ry (.k (.aC .f7) .z)) Bu)
(.k (.expr (.bL .mC (.k (.aC .xw) (.k (.aC .u7) .z))))
.z)) .z)
nH)
noncomputable def I0:Ss:=
(.k (.c4 (.aC .xw) .gC (.list ao .z))
(.k (.c4 (.aC .xw) .km (.list ao .z))
(.k (.c4 (.aC .xw) .fy (.new ao .jP (.k (.key (.aC .xw) .gC) (.k (.key (.aC .xw) .dB) (.k (.glob .iL) (.k (.int 0) .z))))))
(.k (.bz .u7 (.bL .oG (.k (.new ag .fQ (.k (.idx (.aC .cO) (.int 0)) (.k (.idx (.aC .cO) (.int 1)) (.k (.idx (.aC .cO) (.int 2)) .z)))) .z)))
(.k (.expr (.bL .mC (.k (.aC .xw) (.k (.bL .oH (.k (.key (.aC .xw) .cx) (.k (.key (.aC .xw) .bU) (.k (.key (.aC .xw) .dq) .z)))) .z))))
(.k (.expr (.bL .mC (.k (.aC .xw) (.k (.aC .u7) .z))))
Bt))))))
noncomputable def wc:Ss:=
(.k (.bz .xlog (.new ao .wA (.k (.aC .cV) (.k (.bR .shl (.int 1) (.int 20)) .z))))
(.k (.expr (.bk (.aC .xlog) .uk (.k (.aV (.aC .cO) .hZ) .z)))
(.k (.expr (.bk (.aC .xlog) .qY (.k (.key (.aC .xw) .cx) .z)))
(.k (.c4 (.aC .xw) .cV (.aC .cV))
(.k (.c4 (.aC .xw) .xlog (.aC .xlog))
.z)))))
noncomputable def Pd:Ss:=
(.k (.bz .cV (.new ao .iy (.k (.key (.aC .xw) .dq) .z)))
(.k (.expr (.bk (.aC .cV) .qG (.k (.new ag .Snapshot (.k (.key (.aC .xw) .cx) (.k (.key (.aC .xw) .bU) (.k (.key (.aC .xw) .dq) (.k (.bytes []) .z))))) .z)))
(.k (.expr (.bk (.aC .cV) .dg (.k (.aC .aS) .z)))
(.k (.expr (.bk (.aC .cV) .wG (.k (.aC .cO) .z)))
wc))))
noncomputable def y2:Ss:=
(.k (.ret (.cB (.bL .j6 (.k (.bk (.aC .xlog) .vb .z) .z)) .eq (.aC .ip)))
.z)
noncomputable def y4:Ss:=
(.k (.dp (.cB (.bL .j6 (.k (.bk (.aC .xlog) .qD .z) .z)) .ne (.slice ag (.aC .ip) (.bR .sub (.key (.aC .xw) .d_) (.key (.aC .xw) .cx)) (.bR .sub (.key (.aC .xw) .b6) (.key (.aC .xw) .cx)))) (.k (.ret (.bool ao))
.z) .z)
y2)
noncomputable def y5:Ss:=
(.k (.dp (.cB (.tuple (.k (.aV (.aC .xlog) .b6) (.k (.aV (.aC .xlog) .d_) .z))) .ne (.tuple (.k (.key (.aC .xw) .b6) (.k (.key (.aC .xw) .d_) .z)))) (.k (.ret (.bool ao))
.z) .z)
y4)
noncomputable def qN:Ss:=
(.k (.dp (.cB (.tuple (.k (.bk (.aC .xlog) .de .z) (.k (.bk (.aC .xlog) .cn .z) (.k (.bk (.aC .xlog) .zS .z) .z)))) .ne (.tuple (.k (.bR .add (.key (.aC .xw) .cx) (.int 1)) (.k (.aC .xlast) (.k (.aC .bO) .z))))) (.k (.ret (.bool ao))
.z) .z)
y5)
noncomputable def FW:Ss:=
(.k (.bz .xlog (.key (.aC .xw) .xlog))
(.k (.bz .ip (.key (.aC .xw) .ip))
(.k (.bz .xlast (.bR .add (.key (.aC .xw) .cx) (.bc .len (.k (.aC .ip) .z))))
(.k (.bz .bO (.key (.aC .xw) .bU))
(.k (.dp (.cB (.aC .ip) .ne (.list ag .z)) (.k (.bz .bO (.idx (.idx (.aC .ip) (.neg (.int 1))) (.int 0)))
.z) .z)
qN)))))
noncomputable def iX:Ss:=
(.k (.ret (.cB (.bk (.key (.aC .xw) .xlog) .tJ (.k (.aC .dy) (.k (.aC .bO) (.k (.key (.aC .xw) .tI) (.k (.bL .ry (.k (.aC .pv) .z)) .z))))) .eq (.aC .zM)))
.z)
noncomputable def kQ:Ss:=
(.k (.bz .zM .none)
(.k (.dp (.b7 ag (.k (.cB (.aC .dy) .le (.aC .mA)) (.k (.b7 ao (.k (.cB (.aC .dy) .eq (.aC .cx)) (.k (.cB (.idx (.idx (.aC .ip) (.bR .sub (.bR .sub (.aC .dy) (.aC .cx)) (.int 1))) (.int 0)) .eq (.aC .bO)) .z))) .z))) (.k (.bz .zM (.aC .fY))
(.k (.bz .mX (.comp ag (.idx (.aC .mW) (.int 1)) ao [.mW] (.aC .pv) (.b7 ao (.k (.cB (.idx (.aC .mW) (.int 1)) .gt (.aC .mA)) (.k (.cB (.idx (.aC .ip) (.bR .sub (.bR .sub (.idx (.aC .mW) (.int 1)) (.aC .cx)) (.int 1))) .ne (.aC .mW)) .z))) [.mA,.ip,.cx]))
(.k (.dp (.cB (.aC .mX) .ne (.list ag .z)) (.k (.c4 (.aC .xw) .ip (.bR .add (.slice ag (.aC .ip) .none (.bR .sub (.bR .sub (.idx (.aC .mX) (.int 0)) (.aC .cx)) (.int 1))) (.slice ag (.aC .pv) (.bR .sub (.bR .sub (.idx (.aC .mX) (.int 0)) (.aC .dy)) (.int 1)) .none)))
(.k (.c4 (.aC .xw) .lA (.bc .min (.k (.key (.aC .xw) .lA) (.k (.bR .sub (.bR .sub (.idx (.aC .mX) (.int 0)) (.aC .cx)) (.int 1)) .z))))
.z)) .z)
(.k (.c4 (.aC .xw) .b6 (.bc .max (.k (.key (.aC .xw) .b6) (.k (.bc .min (.k (.key (.aC .xw) .tI) (.k (.aC .fY) .z))) .z))))
(.k (.c4 (.aC .xw) .fY (.aC .fY))
.z))))) .z)
iX))
noncomputable def xj:Ss:=
(.k (.bz .bO (.key (.aC .xw) .bU))
(.k (.dp (.cB (.aC .dy) .gt (.aC .cx)) (.k (.bz .bO (.idx (.idx (.aC .ji) (.bR .sub (.bR .sub (.aC .dy) (.aC .cx)) (.int 1))) (.int 0)))
.z) .z)
kQ))
noncomputable def qL:Ss:=
(.k (.bz .ip (.key (.aC .xw) .ip))
(.k (.bz .mA (.bR .add (.aC .cx) (.bc .len (.k (.aC .ip) .z))))
(.k (.bz .dy (.bc .max (.k (.aC .cx) (.k (.bR .sub (.bc .min (.k (.aC .xlast) (.k (.bR .add (.aC .mA) (.bR .fdiv (.bR .mod (.bR .fdiv (.aC .xr) (.int 35)) (.int 6)) (.int 5))) .z))) (.bR .mod (.bR .fdiv (.aC .xr) (.int 7)) (.int 4))) .z))))
(.k (.bz .pv (.slice ag (.aC .ji) (.bR .sub (.aC .dy) (.aC .cx)) (.bR .add (.bR .add (.bR .sub (.aC .dy) (.aC .cx)) (.int 1)) (.bR .mod (.bR .fdiv (.aC .xr) (.int 5)) (.int 3)))))
(.k (.bz .fY (.bR .add (.aC .dy) (.bc .len (.k (.aC .pv) .z))))
xj)))))
noncomputable def qM:Ss:=
(.k (.c4 (.aC .xw) .ji (.aC .ji))
(.k (.bz .xlast (.bR .add (.aC .cx) (.bc .len (.k (.aC .ji) .z))))
(.k (.c4 (.aC .xw) .tI (.bc .min (.k (.aC .xlast) (.k (.bR .add (.key (.aC .xw) .tI) (.idx (.list ag (.k (.int 0) (.k (.int 1) (.k (.int 0) (.k (.int 2) .z))))) (.bR .mod (.bR .fdiv (.aC .xr) (.int 24)) (.int 4)))) .z))))
qL)))
noncomputable def FV:Ss:=
(.k (.bz .cx (.key (.aC .xw) .cx))
(.k (.bz .ji (.key (.aC .xw) .ji))
(.k (.bz .xlast (.bR .add (.aC .cx) (.bc .len (.k (.aC .ji) .z))))
(.k (.dp (.cB (.bR .mod (.aC .xr) (.int 3)) .eq (.int 0)) (.k (.bz .YC (.bR .sub (.aC .xlast) (.bR .mod (.bR .fdiv (.aC .xr) (.int 3)) (.bR .add (.bR .sub (.aC .xlast) (.key (.aC .xw) .tI)) (.int 1)))))
(.k (.sm (.aC .xw) .bO .add (.bR .add (.int 1) (.bR .mod (.bR .fdiv (.aC .xr) (.int 60)) (.int 2))))
(.k (.bz .ji (.bR .add (.slice ag (.aC .ji) .none (.bR .sub (.aC .YC) (.aC .cx))) (.bL .vH (.k (.key (.aC .xw) .bO) (.k (.bR .add (.aC .YC) (.int 1)) (.k (.bR .add (.int 1) (.bR .mod (.bR .fdiv (.aC .xr) (.int 12)) (.int 2))) .z))))))
.z))) (.k (.bz .ji (.bR .add (.aC .ji) (.bL .vH (.k (.key (.aC .xw) .bO) (.k (.bR .add (.aC .xlast) (.int 1)) (.k (.bR .sub (.bR .add (.bR .mod (.bR .fdiv (.aC .xr) (.int 12)) (.int 2)) (.bR .mod (.aC .xr) (.int 3))) (.int 1)) .z))))))
.z))
qM))))
noncomputable def Lo:Ss:=
(.k (.bz .dY (.bR .sub (.bR .sub (.aC .dy) (.key (.aC .xw) .cx)) (.int 1)))
(.k (.ret (.b7 ao (.k (.cB (.aC .dY) .lt (.int 0)) (.k (.b7 ag (.k (.cB (.aC .dY) .lt (.bc .len (.k (.key (.aC .xw) .ip) .z))) (.k (.cB (.idx (.idx (.key (.aC .xw) .ip) (.aC .dY)) (.int 0)) .eq (.aC .bO)) .z))) .z))))
.z))
noncomputable def CO:Ss:=
(.k (.expr (.bL .mC (.k (.aC .xw) (.k (.bL .j7 (.k (.aC .fZ) .z)) .z))))
.z)
noncomputable def rV:Ss:=
(.k (.dp (.cB (.bR .mod (.aC .xr) (.int 2)) .eq (.int 0)) (.k (.c4 (.aC .xw) .iF (.aV (.key (.aC .xw) .fy) .gA))
(.k (.dp (.KN (.key (.aC .xw) .cx) .lt (.key (.aC .xw) .fY) .le (.bR .add (.key (.aC .xw) .cx) (.bc .len (.k (.key (.aC .xw) .ip) .z)))) (.k (.expr (.bk (.key (.aC .xw) .mY) .dg (.k (.tuple (.k (.key (.aC .xw) .fY) (.k (.idx (.idx (.key (.aC .xw) .ip) (.bR .sub (.bR .sub (.key (.aC .xw) .fY) (.key (.aC .xw) .cx)) (.int 1))) (.int 0)) .z))) .z)))
.z) .z)
.z)) .z)
(.k (.ret (.bool ag))
.z))
noncomputable def rW:Ss:=
(.k (.c4 (.aC .xw) .mY (.comp ao (.tuple (.k (.aC .dy) (.k (.aC .bO) .z))) ag [.dy,.bO] (.key (.aC .xw) .mY) (.bL .HV (.k (.aC .xw) (.k (.aC .dy) (.k (.aC .bO) .z)))) [.xw]))
rV)
noncomputable def tT:Ss:=
(.k (.c4 (.aC .xw) .lA (.bc .len (.k (.key (.aC .xw) .ip) .z)))
rW)
noncomputable def tU:Ss:=
(.k (.dp (.cB (.aC .mT) .ne (.list ag .z)) (.k (.expr (.bk (.key (.aC .xw) .xlog) .p_ (.k (.aV (.idx (.aC .mT) (.neg (.int 1))) .cp) (.k (.aV (.idx (.aC .mT) (.neg (.int 1))) .bO) .z))))
.z) .z)
tT)
noncomputable def tV:Ss:=
(.k (.expr (.bk (.key (.aC .xw) .cV) .dg (.k (.aC .mT) .z)))
(.k (.expr (.bk (.key (.aC .xw) .cV) .wG (.k (.aC .cO) .z)))
tU))
noncomputable def tW:Ss:=
(.k (.expr (.bL .mC (.k (.aC .xw) (.k (.bL .oG (.k (.aC .cO) .z)) .z))))
(.k (.expr (.bk (.key (.aC .xw) .iz) .dg (.k (.tuple (.k (.aV (.key (.aC .xw) .fy) .gA) (.k (.key (.aC .xw) .ip) (.k (.bk (.aC .cO) .mW .z) .z)))) .z)))
tV))
noncomputable def CN:Ss:=
(.k (.uE .fZ (.aC .mT) CO)
tW)
noncomputable def Lm:Ss:=
(.k (.bz .mT (.bk (.key (.aC .xw) .xlog) .oo .z))
(.k (.dp (.cB (.bL .j6 (.k (.aC .mT) .z)) .ne (.slice ag (.key (.aC .xw) .ip) (.key (.aC .xw) .lA) .none)) (.k (.ret (.bool ao))
.z) .z)
(.k (.bz .cO (.new ag .fQ (.k (.key (.aC .xw) .bO) (.k (.bR .mod (.bR .fdiv (.aC .xr) (.int 2)) (.int 300)) (.k (.key (.aC .xw) .b6) .z)))))
CN)))
noncomputable def I3:Ss:=
(.k (.bz .mU (.bR .add (.key (.aC .xw) .d_) (.bR .mod (.aC .xr) (.bR .add (.bR .sub (.key (.aC .xw) .b6) (.key (.aC .xw) .d_)) (.int 1)))))
(.k (.expr (.bk (.key (.aC .xw) .xlog) .qY (.k (.aC .mU) .z)))
(.k (.c4 (.aC .xw) .d_ (.aC .mU))
.z)))
noncomputable def FU:Ss:=
(.k (.bz .bq (.bR .add (.aC .bq) (.aC .C3)))
.z)
noncomputable def FT:Ss:=
(.k (.expr (.bk (.aC .cq) .xP (.k (.aC .ej) .z)))
.z)
noncomputable def t4:Ss:=
(.k (.expr (.bL .E0 (.k (.aC .xw) (.k (.aV (.aC .cq) .aS) (.k (.aV (.aC .cq) .cO) .z)))))
(.k (.ret (.b7 ag (.k (.bL .ql (.k (.aC .xw) .z)) (.k (.bc .all (.k (.comp ag (.bk (.key (.aC .xw) .xlog) .lz (.k (.aC .dy) (.k (.aC .bO) .z))) ag [.dy,.bO] (.key (.aC .xw) .mY) .none [.xw]) .z)) .z))))
.z))
noncomputable def lx:Ss:=
(.k (.c4 (.aC .xw) .ip (.aC .f7))
(.k (.c4 (.aC .xw) .b6 (.idx (.aC .cO) (.int 2)))
(.k (.c4 (.aC .xw) .d_ (.key (.aC .xw) .cx))
(.k (.c4 (.aC .xw) .lA (.bc .len (.k (.aC .f7) .z)))
(.k (.c4 (.aC .xw) .fY (.key (.aC .xw) .cx))
t4)))))
noncomputable def t6:Ss:=
(.k (.dp (.b7 ao (.k (.cB (.aC .lB) .lt (.aC .dY)) (.k (.cB (.aV (.aC .cq) .il) .ne (.list ag .z)) .z))) (.k (.expr (.bL .s_ (.k (.aC .xw) (.k (.aC .f7) (.k (.aC .cO) .z)))))
.z) (.k (.c4 (.aC .xw) .gC (.list ao (.k (.aC .bq) .z)))
(.k (.c4 (.aC .xw) .fy (.new ao .jP (.k (.key (.aC .xw) .gC) (.k (.key (.aC .xw) .dB) (.k (.glob .iL) (.k (.aC .dY) .z))))))
(.k (.c4 (.aC .xw) .km (.aC .kA))
(.k (.c4 (.aC .xw) .iz (.aC .iz))
(.k (.c4 (.aC .xw) .iF (.aC .dY))
.z))))))
lx)
noncomputable def t7:Ss:=
(.k (.expr (.bk (.aC .cq) .u9 .z))
(.k (.bz .PG (.tuple (.k (.aV (.aC .cq) .eK) (.k (.aV (.aC .cq) .cD) (.k (.aV (.aC .cq) .bU) (.k (.bk (.aV (.aC .cq) .dq) .mW .z) (.k (.bk (.aV (.aC .cq) .cO) .mW .z) .z)))))))
(.k (.dp (.b7 ao (.k (.cB (.aC .PG) .ne (.tuple (.k (.bc .len (.k (.aC .kA) .z)) (.k (.key (.aC .xw) .cx) (.k (.key (.aC .xw) .bU) (.k (.bk (.key (.aC .xw) .dq) .mW .z) (.k (.aC .cO) .z))))))) (.k (.cB (.bL .j6 (.k (.aV (.aC .cq) .aS) .z)) .ne (.aC .f7)) .z))) (.k (.ret (.bool ao))
.z) .z)
(.k (.dp (.cB (.bc .len (.k (.aV (.aC .cq) .il) .z)) .ne (.bc .len (.k (.comp ag (.aC .mA) ao [.mA] (.aC .kA) (.cB (.aC .mA) .gt (.aC .ot)) [.ot]) .z))) (.k (.ret (.bool ao))
.z) .z)
t6))))
noncomputable def wd:Ss:=
(.k (.bz .cq (.new ao .iY .z))
(.k (.uE .ej (.aC .iK) FT)
t7))
noncomputable def wg:Ss:=
(.k (.jA [.iK,.lB] (.bL .x5 (.k (.aC .bq) (.k (.key (.aC .xw) .dB) (.k (.glob .iL) .z)))))
(.k (.dp (.b7 ao (.k (.cB (.aC .lB) .ne (.idx (.aC .kA) (.neg (.int 1)))) (.k (.cB (.bc .len (.k (.aC .iK) .z)) .ne (.bc .len (.k (.aC .kA) .z))) .z))) (.k (.ret (.bool ao))
.z) .z)
wd))
noncomputable def wh:Ss:=
(.k (.bz .kA (.comp ao (.aC .mA) ao [.mA] (.key (.aC .xw) .km) (.cB (.aC .mA) .le (.aC .dY)) [.dY]))
(.k (.bz .iz (.comp ao (.aC .PI) ao [.PI] (.key (.aC .xw) .iz) (.cB (.idx (.aC .PI) (.int 0)) .le (.aC .dY)) [.dY]))
(.k (.jA [.ot,.f7,.cO] (.idx (.aC .iz) (.neg (.int 1))))
wg)))
noncomputable def wi:Ss:=
(.k (.bz .dY (.bR .sub (.bc .len (.k (.aC .bq) .z)) (.bR .mod (.aC .xr) (.bR .add (.bR .sub (.bc .len (.k (.aC .bq) .z)) (.key (.aC .xw) .iF)) (.int 1)))))
(.k (.bz .bq (.slice ag (.aC .bq) .none (.aC .dY)))
wh))
noncomputable def Pe:Ss:=
(.k (.bz .bq (.bytes []))
(.k (.uE .C3 (.key (.aC .xw) .gC) FU)
wi))
noncomputable def Ll:Ss:=
(.k (.bz .dq .none)
(.k (.dp (.cB (.aV (.aC .cq) .dq) .lH .none) (.k (.bz .dq (.bk (.aV (.aC .cq) .dq) .mW .z))
.z) .z)
(.k (.bz .cx (.tuple (.k (.aV (.aC .cq) .cD) (.k (.aV (.aC .cq) .bU) (.k (.aC .dq) .z)))))
(.k (.ret (.tuple (.k (.aV (.aC .cq) .eK) (.k (.aC .cx) (.k (.bk (.aV (.aC .cq) .cO) .mW .z) (.k (.bL .j6 (.k (.aV (.aC .cq) .aS) .z)) (.k (.bL .j6 (.k (.aV (.aC .cq) .il) .z)) .z)))))))
.z))))
noncomputable def xh:Ss:=
(.k (.bz .zP (.bool ao))
(.k (.Eh (.k (.expr (.bk (.aC .cq) .xP (.k (.aC .ej) .z)))
.z) ao [.eV] (.setB .zP ag))
(.k (.dp (.kL (.aC .zP)) (.k (.ret (.bool ao))
.z) .z)
.z)))
noncomputable def CQ:Ss:=
(.k (.bz .YA (.bL .AD (.k (.aC .cq) .z)))
(.k (.uE .ej (.aC .iK) xh)
(.k (.ret (.cB (.bL .AD (.k (.aC .cq) .z)) .eq (.aC .YA)))
.z)))
noncomputable def rX:Ss:=
(.k (.expr (.bk (.aC .cq) .xP (.k (.bL .j7 (.k (.new ag .Entry (.k (.key (.aC .xw) .bO) (.k (.bR .add (.aC .cx) (.idx (.list ag (.k (.int 0) (.k (.int 3) .z))) (.bR .mod (.aC .xr) (.int 2)))) (.k (.glob .jj) (.k (.bytes []) .z))))) .z)) .z)))
(.k (.ret (.bL .lG (.k (.aC .cq) (.k (.list ag (.k (.aC .cO) .z)) .z))))
.z))
noncomputable def rY:Ss:=
(.k (.dp (.b7 ao (.k (.kL (.bL .lG (.k (.aC .cq) (.k (.list ag (.k (.bytes []) (.k (.aC .Jy) (.k (.aC .zQ) .z)))) .z)))) (.k (.cB (.bc .len (.k (.aV (.aC .cq) .aS) .z)) .ne (.int 1)) .z))) (.k (.ret (.bool ao))
.z) .z)
rX)
noncomputable def rZ:Ss:=
(.k (.expr (.bk (.aC .cq) .xP (.k (.aC .cO) .z)))
(.k (.expr (.bk (.aC .cq) .xP (.k (.aC .iA) .z)))
(.k (.expr (.bk (.aC .cq) .xP (.k (.aC .cO) .z)))
rY)))
noncomputable def tX:Ss:=
(.k (.expr (.bk (.aC .cq) .xP (.k (.aC .Mm) .z)))
(.k (.dp (.kL (.bL .lG (.k (.aC .cq) (.k (.list ag (.k (.bytes []) (.k (.aC .Jy) (.k (.aC .zQ) (.k (.aC .iA) .z))))) .z)))) (.k (.ret (.bool ao))
.z) .z)
rZ))
noncomputable def tY:Ss:=
(.k (.bz .cq (.new ao .iY .z))
(.k (.dp (.kL (.bL .lG (.k (.aC .cq) (.k (.list ag (.k (.bytes []) (.k (.aC .Jy) (.k (.aC .cO) (.k (.aC .iA) .z))))) .z)))) (.k (.ret (.bool ao))
.z) .z)
tX))
noncomputable def tZ:Ss:=
(.k (.bz .Mm (.bL .oH (.k (.aC .cx) (.k (.key (.aC .xw) .bU) (.k (.key (.aC .xw) .dq) .z)))))
(.k (.bz .zQ (.bL .oH (.k (.bR .add (.aC .cx) (.int 1)) (.k (.bR .add (.key (.aC .xw) .bU) (.int 1)) (.k (.new ag .g_ (.k (.list ag (.k (.int 3) .z)) (.k (.list ag .z) (.k (.list ag .z) (.k (.list ag .z) (.k (.bool ao) .z)))))) .z)))))
(.k (.bz .cO (.bL .oG (.k (.new ag .fQ (.k (.key (.aC .xw) .bO) (.k (.int 0) (.k (.aC .cx) .z)))) .z)))
(.k (.bz .iA (.bL .j7 (.k (.new ag .Entry (.k (.key (.aC .xw) .bO) (.k (.bR .add (.aC .cx) (.int 1)) (.k (.glob .jj) (.k (.bytes []) .z))))) .z)))
tY))))
noncomputable def Lp:Ss:=
(.k (.bz .cx (.key (.aC .xw) .cx))
(.k (.bz .Jy (.bc .bytes (.k (.list ag (.k (.idx (.list ag (.k (.int 0) (.k (.int 3) (.k (.bR .add (.int 5) (.bR .mod (.aC .xr) (.int 251))) .z)))) (.bR .mod (.bR .fdiv (.aC .xr) (.int 251)) (.int 3))) (.k (.int 0) (.k (.int 0) (.k (.int 0) (.k (.int 0) .z)))))) .z)))
tZ))
noncomputable def yr:Ss:=
(.k (.dp (.kL (.aC .lB)) (.k (.ret (.bool ao))
.z) .z)
.z)
noncomputable def IY:Ss:=
(.k (.dp (.b7 ag (.k (.b7 ao (.k (.cB (.aC .NR) .eq (.int 1)) (.k (.cB (.aC .NR) .eq (.int 7)) .z))) (.k (.cB (.key (.aC .xw) .qF) .gt (.int 0)) .z))) (.k (.sm (.aC .xw) .qF .sub (.int 1))
(.k (.bz .lB (.bL .zC (.k (.aC .xw) (.k (.aC .xr) .z))))
.z)) (.k (.dp (.b7 ao (.k (.cB (.aC .NR) .eq (.int 2)) (.k (.cB (.aC .NR) .eq (.int 4)) .z))) (.k (.bz .lB (.bL .rx (.k (.aC .xw) (.k (.aC .xr) .z))))
.z) (.k (.dp (.cB (.aC .NR) .eq (.int 6)) (.k (.expr (.bL .w0 (.k (.aC .xw) (.k (.aC .xr) .z))))
.z) (.k (.bz .lB (.bL .ny (.k (.aC .xw) (.k (.aC .xr) .z))))
.z))
.z))
.z))
yr)
noncomputable def IZ:Ss:=
(.k (.bz .xn (.bL .pG (.k (.aC .i8) (.k (.bR .add (.int 3) (.aC .xi)) .z))))
(.k (.bz .xr (.bR .fdiv (.aC .xn) (.int 8)))
(.k (.bz .NR (.bR .mod (.aC .xn) (.int 8)))
(.k (.bz .lB (.bool ag))
IY))))
noncomputable def DT:Ss:=
(.k (.bz .xlast (.bL .pG (.k (.aC .i8) (.k (.int 9) .z))))
(.k (.dp (.b7 ao (.k (.kL (.bL .rx (.k (.aC .xw) (.k (.aC .xlast) .z)))) (.k (.kL (.bL .zC (.k (.aC .xw) (.k (.bR .fdiv (.aC .xlast) (.int 2)) .z)))) .z))) (.k (.ret (.bool ao))
.z) .z)
(.k (.dp (.b7 ao (.k (.kL (.bL .ny (.k (.aC .xw) (.k (.bR .fdiv (.aC .xlast) (.int 7)) .z)))) (.k (.kL (.bL .ql (.k (.aC .xw) .z))) .z))) (.k (.ret (.bool ao))
.z) .z)
(.k (.ret (.bL .AE (.k (.aC .xw) (.k (.aC .xz) .z))))
.z))))
noncomputable def DU:Ss:=
(.k (.forR .xi .none (.int 6) IZ)
DT)
noncomputable def DV:Ss:=
(.k (.c4 (.aC .xw) .ji (.bL .vH (.k (.key (.aC .xw) .bO) (.k (.bR .add (.aC .cx) (.int 1)) (.k (.int 3) .z)))))
(.k (.dp (.b7 ao (.k (.kL (.bL .ny (.k (.aC .xw) (.k (.bR .add (.int 1) (.bR .mul (.int 12) (.bR .mod (.aC .xz) (.int 997)))) .z)))) (.k (.kL (.bL .rx (.k (.aC .xw) (.k (.bR .mul (.int 2) (.bR .fdiv (.aC .xz) (.int 997))) .z)))) .z))) (.k (.ret (.bool ao))
.z) .z)
DU))
noncomputable def DW:Ss:=
(.k (.expr (.bL .s_ (.k (.aC .xw) (.k (.list ag .z) (.k (.tuple (.k (.aC .bU) (.k (.int 0) (.k (.aC .cx) .z)))) .z)))))
(.k (.expr (.bL .E0 (.k (.aC .xw) (.k (.list ag .z) (.k (.new ag .fQ (.k (.aC .bU) (.k (.int 0) (.k (.aC .cx) .z)))) .z)))))
DV))
noncomputable def DX:Ss:=
(.k (.bz .xw (.dict [.cx,.bU,.dB,.qF,.dq,.bO,.ji,.tI,.ip,.b6,.d_,.lA,.fY,.mY] (.k (.aC .cx) (.k (.aC .bU) (.k (.aC .dB) (.k (.aC .qF) (.k (.new ag .g_ (.k (.list ag (.k (.int 1) (.k (.bR .add (.int 2) (.bR .mod (.aC .xy) (.int 300))) .z))) (.k (.list ag .z) (.k (.list ag .z) (.k (.list ag .z) (.k (.bool ao) .z)))))) (.k (.bR .add (.aC .bU) (.int 1)) (.k (.list ag .z) (.k (.aC .cx) (.k (.list ag .z) (.k (.aC .cx) (.k (.aC .cx) (.k (.int 0) (.k (.aC .cx) (.k (.list ao .z) .z))))))))))))))))
DW)
noncomputable def IX:Ss:=
(.k (.bz .cx (.bR .add (.int 2) (.bR .mod (.bR .add (.bR .fdiv (.aC .xx) (.int 53)) (.int 198)) (.int 19999))))
(.k (.bz .bU (.bR .add (.bR .add (.int 1) (.idx (.list ag (.k (.int 0) (.k (.int 126) (.k (.int 16382) .z)))) (.bR .mod (.aC .xy) (.int 3)))) (.bR .mod (.bR .fdiv (.aC .xy) (.int 3)) (.int 2))))
(.k (.bz .dB (.bR .add (.int 8) (.bR .mod (.bR .add (.aC .xx) (.int 22)) (.int 53))))
(.k (.bz .qF (.int 2))
(.k (.dp (.cB (.aC .dB) .lt (.int 16)) (.k (.bz .qF (.int 1))
.z) .z)
DX)))))
noncomputable def Bs:Ss:=
(.k (.bz .xx (.bL .pG (.k (.aC .i8) (.k (.int 0) .z))))
(.k (.bz .xy (.bL .pG (.k (.aC .i8) (.k (.int 1) .z))))
(.k (.bz .xz (.bL .pG (.k (.aC .i8) (.k (.int 2) .z))))
IX)))
noncomputable def acF:Ss:=
(.k (.bz .i8 (.comp ag (.bR .mod (.aC .xx) (.int 999983)) ao [.xx] (.slice ag (.aC .Eb) .none (.int 12)) .none []))
(.k (.dp (.cB (.bc .len (.k (.aC .i8) .z)) .eq (.int 0)) (.k (.bz .i8 (.list ag (.k (.int 0) .z)))
.z) .z)
Bs))
noncomputable def Wq:ah Ss:=[
 Bp,CL,FP,CI,Br,yX,
 yW,CM,Bq,yY,Lr,wo,
 CY,zd,wk,CZ,C0,y8,
 CX,y7,FY,I4,I5,Sr,
 FO,xp,I6,FZ,Bw,Bx,
 FR,sg,zc,xo,si,ze,
 Pb,Lj,CU,CV,tA,CS,
 Bv,CT,pU,tB,o9,o8,
 r4,nJ,pg,mJ,nO,kj,
 pW,pf,qu,kS,tx,qs,
 qR,qQ,r3,kR,y6,uO,
 qS,r7,tD,By,r6,qt,
 xl,pV,tE,r8,tC,nK,
 nM,oi,uN,o_,wj,qT,
 y9,CW,FX,yZ,r9,y_,
 za,sd,qv,r_,xm,CK,
 Lq,Ln,CR,Lk,Pc,I0,
 Pd,FW,FV,Lo,Lm,I3,
 Pe,Ll,CQ,Lp,acF
 ]
noncomputable def Fn.body (f:Fn):Ss:=ux Wq f.n .nil
noncomputable def aM:Nat->CC
 | 0,_,_,_,_,_=>False
 |n+1,f,vs,H,Q,X=>Got (pJ f vs) fun ws=>wSs (aM n) ag f.body (b5.none.sets f.ps ws) H (Ck Q) (wU X)
open PySem PySem.W PyProof.Rows
section
variable {α:Type}
noncomputable def l0 (l:ah α):aj:=match l with
 |[]=>ag
 |_::_=>ao
noncomputable def l1 (l:ah α) (f:α->aj):aj:=match l with
 |[]=>ao
 |x::r=>f x&&l0 r
noncomputable def l2 (l:ah α) (f:α->α->aj):aj:=match l with
 |[]=>ao
 |x::r=>l1 r (f x)
noncomputable def o0 (o:aB α):aj:=match o with
 |none=>ag
 |some _=>ao
noncomputable def o1 (o:aB α) (f:α->aj):aj:=match o with
 |none=>ao
 |some x=>f x
end
noncomputable def dP (x:Nm):Str:=Str.ofString x.s
structure Tab where
 cA:Cn->ax
 fA:Fn->ax
noncomputable def EF (x:av) (f:Int->Tok->aj):aj:=if h:x.ctorIdx=4 then PySem.Value.int.elim (motive:=fun _=>aj) x h f else ao
noncomputable def JZ (x:av) (f:Str->Tok->aj):aj:=if h:x.ctorIdx=6 then PySem.Value.str.elim (motive:=fun _=>aj) x h f else ao
noncomputable def EE (x:av) (f:b_->aj):aj:=if h:x.ctorIdx=8 then PySem.Value.type.elim (motive:=fun _=>aj) x h f else ao
noncomputable def QJ (x:av) (f:b_->aj):aj:=if h:x.ctorIdx=9 then PySem.Value.builtin.elim (motive:=fun _=>aj) x h f else ao
noncomputable def Al (x:av) (f:ax->aj):aj:=if h:x.ctorIdx=10 then PySem.Value.ref.elim (motive:=fun _=>aj) x h f else ao
noncomputable def Kd (x:gW) (f:(bS av)->Nat->aj):aj:=if h:x.ctorIdx=2 then PySem.Data.seq.elim (motive:=fun _=>aj) x h f else ao
noncomputable def QO (x:gW) (f:eR->aj):aj:=if h:x.ctorIdx=7 then PySem.Data.func.elim (motive:=fun _=>aj) x h f else ao
noncomputable def Ke (x:gW) (f:ClassData->aj):aj:=if h:x.ctorIdx=8 then PySem.Data.cls.elim (motive:=fun _=>aj) x h f else ao
noncomputable def QP (x:gW) (f:(bS av)->aj):aj:=if h:x.ctorIdx=9 then PySem.Data.fields.elim (motive:=fun _=>aj) x h f else ao
noncomputable def lk {α:Type} (l:ah α) (f:α->ah α->aj):aj:=l.casesOn ao f
noncomputable def ZG (K:cW) (C:ax) (bmB:ah av) (newId:b_):aj:=o1 (K.lookup C) fun o=>EE o.cls fun ty=>ty=="type"&&Ke o.data fun cd=>lk cd.mro fun c bm=>Al c (fun C'=>C'==C)&&!cd.hasDel&&tailIn K bmB bm&&nsOkIn K cd.ns&&nsIn K cd.ns "__init__"==aa au&&
 lk o.slots.toList fun _ r=>lk r fun _ r=>lk r fun _ r=>lk r fun _ r=>lk r fun n r=>o1 n (fun n=>QJ n (· ==newId))&&l1 r fun _=>ag
noncomputable def Bi.s:Bi->b_
 |.len=>"len" |.bytes=>"bytes" |.bytearray=>"bytearray" |.min=>"min" |.max=>"max" |.sum=>"sum" |.sorted=>"sorted" |.tuple=>"tuple" |.str=>"str" |.all=>"all"
noncomputable def Bi.v:Bi->av
 |.bytes=>.type "bytes" |.bytearray=>.type "bytearray" |.tuple=>.type "tuple" |.str=>.type "str" |.len=>.builtin "len" |.min=>.builtin "min" |.max=>.builtin "max" |.sum=>.builtin "sum" |.sorted=>.builtin "sorted" |.all=>.builtin "all"
noncomputable def Cn.isExc (C:Cn):aj:=!C.sup.isEmpty
noncomputable def XF:ah av:=[.type "Exception",.type "BaseException",.type "object"]
noncomputable def Bo.op:Bo->ie
 |.add=>.Add |.sub=>.Sub |.mul=>.Mult |.fdiv=>.FloorDiv |.mod=>.Mod |.band=>.BitAnd |.bor=>.BitOr |.shl=>.LShift |.shr=>.RShift |.bxor=>.BitXor
noncomputable def Co.op:Co->CmpOp
 |.eq=>.Eq |.ne=>.NotEq |.lt=>.Lt |.le=>.LtE |.gt=>.Gt |.ge=>.GtE |.is_=>.Is |.lH=>.IsNot
noncomputable def allB:(n:Nat)->((m:Nat)->Nat.ble m n=ag->aj)->aj
 | 0,p=>p 0 rfl
 |n+1,p=>p (n+1) (Nat.ble_self_eq_true _)&&allB n fun m h=>p m (Nat.ble_succ_eq_true h)
noncomputable def EN (x:d9) (f:aj):aj:=if h:x.ctorIdx=0 then PySem.Const.none.elim (motive:=fun _=>aj) x h (f) else ao
noncomputable def EP (x:d9) (f:aj->aj):aj:=if h:x.ctorIdx=1 then PySem.Const.bool.elim (motive:=fun _=>aj) x h (fun a=>f a) else ao
noncomputable def Kf (x:d9) (f:Int->aj):aj:=if h:x.ctorIdx=2 then PySem.Const.int.elim (motive:=fun _=>aj) x h (fun a=>f a) else ao
noncomputable def wW (x:d9) (f:Str->aj):aj:=if h:x.ctorIdx=5 then PySem.Const.str.elim (motive:=fun _=>aj) x h (fun a=>f a) else ao
noncomputable def Ap (x:d9) (f:(ah aA)->aj):aj:=if h:x.ctorIdx=6 then PySem.Const.bytes.elim (motive:=fun _=>aj) x h (fun a=>f a) else ao
noncomputable def Ar (x:ay) (f:BoolOp->(ah ay)->aj):aj:=if h:x.ctorIdx=0 then PySem.Expr.BoolOp.elim (motive_1:=fun _=>aj) x h (fun a b _=>f a b) else ao
noncomputable def ER (x:ay) (f:ay->ie->ay->aj):aj:=if h:x.ctorIdx=2 then PySem.Expr.BinOp.elim (motive_1:=fun _=>aj) x h (fun a b d _=>f a b d) else ao
noncomputable def s6 (x:ay) (f:UnaryOp->ay->aj):aj:=if h:x.ctorIdx=3 then PySem.Expr.UnaryOp.elim (motive_1:=fun _=>aj) x h (fun a b _=>f a b) else ao
noncomputable def EM (x:ay) (f:ay->ay->ay->aj):aj:=if h:x.ctorIdx=5 then PySem.Expr.IfExp.elim (motive_1:=fun _=>aj) x h (fun a b d _=>f a b d) else ao
noncomputable def Kc (x:ay) (f:(ah (aB ay))->(ah ay)->aj):aj:=if h:x.ctorIdx=6 then PySem.Expr.Dict.elim (motive_1:=fun _=>aj) x h (fun a b _=>f a b) else ao
noncomputable def uu (x:ay) (f:ay->(ah Comprehension)->bY->aj):aj:=if h:x.ctorIdx=8 then PySem.Expr.ListComp.elim (motive_1:=fun _=>aj) x h (fun a b d _=>f a b d) else ao
noncomputable def s7 (x:ay) (f:ay->(ah CmpOp)->(ah ay)->aj):aj:=if h:x.ctorIdx=15 then PySem.Expr.Compare.elim (motive_1:=fun _=>aj) x h (fun a b d _=>f a b d) else ao
noncomputable def uv (x:ay) (f:ay->(ah ay)->(ah Keyword)->Pos->aj):aj:=if h:x.ctorIdx=16 then PySem.Expr.Call.elim (motive_1:=fun _=>aj) x h (fun a b d p=>f a b d p) else ao
noncomputable def kK (x:ay) (f:ay->Int->(aB ay)->aj):aj:=if h:x.ctorIdx=17 then PySem.Expr.FormattedValue.elim (motive_1:=fun _=>aj) x h (fun a b d _=>f a b d) else ao
noncomputable def rl (x:ay) (f:(ah ay)->aj):aj:=if h:x.ctorIdx=18 then PySem.Expr.JoinedStr.elim (motive_1:=fun _=>aj) x h (fun a _=>f a) else ao
noncomputable def gh (x:ay) (f:d9->aj):aj:=if h:x.ctorIdx=19 then PySem.Expr.Constant.elim (motive_1:=fun _=>aj) x h (fun a _ _=>f a) else ao
noncomputable def lD (x:ay) (f:ay->Str->Pos->aj):aj:=if h:x.ctorIdx=20 then PySem.Expr.Attribute.elim (motive_1:=fun _=>aj) x h (fun a b p=>f a b p) else ao
noncomputable def iP (x:ay) (f:ay->ay->aj):aj:=if h:x.ctorIdx=21 then PySem.Expr.Subscript.elim (motive_1:=fun _=>aj) x h (fun a b _=>f a b) else ao
noncomputable def EK (x:ay) (f:Str->aj):aj:=if h:x.ctorIdx=23 then PySem.Expr.Name.elim (motive_1:=fun _=>aj) x h (fun a _=>f a) else ao
noncomputable def Kb (x:ay) (f:(ah ay)->aj):aj:=if h:x.ctorIdx=24 then PySem.Expr.List.elim (motive_1:=fun _=>aj) x h (fun a _=>f a) else ao
noncomputable def vD (x:ay) (f:(ah ay)->aj):aj:=if h:x.ctorIdx=25 then PySem.Expr.Tuple.elim (motive_1:=fun _=>aj) x h (fun a _ _=>f a) else ao
noncomputable def EG (x:ay) (f:(aB ay)->(aB ay)->(aB ay)->aj):aj:=if h:x.ctorIdx=26 then PySem.Expr.Slice.elim (motive_1:=fun _=>aj) x h (fun a b d _=>f a b d) else ao
noncomputable def pE (x:aY) (f:(aB ay)->aj):aj:=if h:x.ctorIdx=3 then PySem.Stmt.Return.elim (motive_2:=fun _=>aj) x h (fun a _=>f a) else ao
noncomputable def wV (x:aY) (f:(ah ay)->ay->aj):aj:=if h:x.ctorIdx=5 then PySem.Stmt.Assign.elim (motive_2:=fun _=>aj) x h (fun a b _=>f a b) else ao
noncomputable def jY (x:aY) (f:ay->ie->ay->aj):aj:=if h:x.ctorIdx=7 then PySem.Stmt.AugAssign.elim (motive_2:=fun _=>aj) x h (fun a b d _=>f a b d) else ao
noncomputable def EI (x:aY) (f:ay->ay->(ah aY)->(ah aY)->aj):aj:=if h:x.ctorIdx=9 then PySem.Stmt.For.elim (motive_2:=fun _=>aj) x h (fun a b d e _=>f a b d e) else ao
noncomputable def Am (x:aY) (f:ay->(ah aY)->(ah aY)->aj):aj:=if h:x.ctorIdx=11 then PySem.Stmt.While.elim (motive_2:=fun _=>aj) x h (fun a b d _=>f a b d) else ao
noncomputable def QL (x:aY) (f:ay->(ah aY)->(ah aY)->aj):aj:=if h:x.ctorIdx=12 then PySem.Stmt.If.elim (motive_2:=fun _=>aj) x h (fun a b d _=>f a b d) else ao
noncomputable def An (x:aY) (f:(aB ay)->(aB ay)->aj):aj:=if h:x.ctorIdx=16 then PySem.Stmt.Raise.elim (motive_2:=fun _=>aj) x h (fun a b _=>f a b) else ao
noncomputable def J7 (x:aY) (f:(ah aY)->(ah ExceptHandler)->(ah aY)->(ah aY)->aj):aj:=if h:x.ctorIdx=17 then PySem.Stmt.Try.elim (motive_2:=fun _=>aj) x h (fun a b d e _=>f a b d e) else ao
noncomputable def EJ (x:aY) (f:PySem.Expr->aj):aj:=if h:x.ctorIdx=24 then PySem.Stmt.Expr.elim (motive_2:=fun _=>aj) x h (fun a _=>f a) else ao
noncomputable def EH (x:aY) (f:aj):aj:=if h:x.ctorIdx=25 then PySem.Stmt.Pass.elim (motive_2:=fun _=>aj) x h (fun _=>f) else ao
noncomputable def Ao (x:aY) (f:aj):aj:=if h:x.ctorIdx=26 then PySem.Stmt.Break.elim (motive_2:=fun _=>aj) x h (fun _=>f) else ao
noncomputable def oX (sc:bY) (id:Str):aj:=sc.names.lookup id==aa .globalImplicit
noncomputable def qm (sc:bY) (n:Str) (k:d8):aj:=sc.names.lookup n==aa k
noncomputable def tO (sc:bY) (x:Nm):aj:=qm sc (dP x) .local || qm sc (dP x) .cell
noncomputable def Av (x:ay):aj:=!uv x fun f _ _ _=>EK f fun id=>id==("super":Str)
noncomputable def nu (n:Str) (y:ay):aj:=EK y fun id=>id==n
noncomputable def mO (f:ay->aj) (yL:aj):aB ay->aj
 |none=>yL
 |some x=>!yL&&f x
noncomputable def wY:ah Nm->ah ay->aj
 |[],l=>l0 l
 |n::ns,l=>match l with
  |[]=>ao
  |x::r=>nu (dP n) x&&wY ns r
noncomputable def abF (n:Nm) (o:aB ay):aj:=o1 o fun x=>gh x fun c=>wW c fun s=>s==dP n
noncomputable def HS:ah Nm->ah (aB ay)->aj
 |[],l=>l0 l
 |n::ns,l=>match l with
  |[]=>ao
  |x::r=>abF n x&&HS ns r
noncomputable def Km (tup:aj) (fL:ah Nm) (y:ay):aj:=cond tup (vD y fun xs=>wY fL xs) (l1 fL fun n=>nu (dP n) y)
noncomputable def fP (sc gx:bY):bY:={gx with names:=gx.names.map fun(n,k)=>if (k==.free&&sc.kind==.function&&sc.names.lookup n==aa .cell)=ag then(n,.cell) else(n,k)}
noncomputable def Fp (sc gx:bY) (fv fL:ah Nm):aj:=fv.all (fun x=>qm (fP sc gx) (dP x) .free || qm (fP sc gx) (dP x) .cell)&&fL.all (fun x=>qm (fP sc gx) (dP x) .local)&&
 gx.names.all (fun p=>p.2 != .cell&&(p.2 != .free || qm sc p.1 .cell || qm sc p.1 .free)&&(p.2 != .local || qm (fP sc gx) p.1 .local))&&
 fv.all (fun x=>!fL.contains x)
noncomputable def s8 (n:Str) (y:ay) (g:ah ay->aj):aj:=uv y fun f xs Kq _=>nu n f&&l0 Kq&&g xs
noncomputable def E.part:E->aj
 |.cK=>ag
 |.fmt _=>ag
 |_=>ao
noncomputable def Es.parts:Es->aj
 |.nil=>ag
 |.cons e es=>e.part&&es.parts
mutual
noncomputable def mE (sc:bY):E->ay->aj
 |.none,y=>gh y fun c=>EN c ag
 |.bool b,y=>gh y fun c=>EP c fun d=>d==b
 |.int i,y=>gh y fun c=>Kf c fun d=>d==i
 |.cK,y=>gh y fun c=>wW c fun s=>decide (s.length<=1000)
 |.bytes bs,y=>gh y fun c=>Ap c fun d=>d==bs.map UInt8.ofNat
 |.aC x,y=>nu (dP x) y
 |.glob g,y=>nu (dP g) y&&oX sc (dP g)
 |.bR op a b,y=>ER y fun l o r=>o==op.op&&mE sc a l&&mE sc b r
 |.neg a,y=>s6 y fun o x=>o==.USub&&mE sc a x
 |.kL a,y=>s6 y fun o x=>o==.Not&&mE sc a x
 |.b7 k es,y=>Ar y fun o xs=>o==cond k .And .Or&&u1 sc es xs
 |.ite c a b,y=>EM y fun t x z=>mE sc c t&&mE sc a x&&mE sc b z
 |.cB a op b,y=>s7 y fun l os rs=>l1 os fun o=>l1 rs fun r=>o==op.op&&mE sc a l&&mE sc b r&&!behindInMarks op.op r
 |.KN a op b Vu d,y=>s7 y fun l os rs=>l2 os fun o o2=>l2 rs fun r r2=>o==op.op&&o2==Vu.op&&mE sc a l&&mE sc b r&&mE sc d r2&&!behindInMarks Vu.op r2
 |.aV e f,y=>lD y fun v a _=>a==dP f&&mE sc e v&&Av v
 |.key e k,y=>iP y fun v sl=>(gh sl fun c=>wW c fun s=>s==dP k)&&mE sc e v
 |.idx e i,y=>iP y fun v sl=>mE sc e v&&mE sc i sl
 |.slice _ e lo hi,y=>iP y fun v sl=>EG sl fun l h st=>o0 st&&mE sc e v&&mO (mE sc lo) lo.yL l&&mO (mE sc hi) hi.yL h
 |.list _ es,y=>Kb y fun xs=>u1 sc es xs
 |.tuple es,y=>vD y fun xs=>u1 sc es xs
 |.dict ks es,y=>Kc y fun keys vals=>HS ks keys&&u1 sc es vals&&decide (keys.length=vals.length)&&decide (keys.length<=15)&&decide (1<=keys.length)&&decide (ks.length<=15/\ks.Nodup)
 |.bL f es,y=>s8 (Str.ofString f.s) y fun xs=>f.top&&oX sc (Str.ofString f.s)&&u1 sc es xs
 |.new _ C es,y=>s8 (Str.ofString C.s) y fun xs=>oX sc (Str.ofString C.s)&&(rC C).isSome&&u1 sc es xs
 |.bc b es,y=>s8 (Str.ofString b.s) y fun xs=>oX sc (Str.ofString b.s)&&u1 sc es xs
 |.bk e m es,y=>uv y fun f xs Kq pos=>lD f fun v a apos=>l0 Kq&&a==dP m&&mE sc e v&&Av v&&apos.endLine==pos.line&&decide (xs.length < 20)&&u1 sc es xs
 |.comp _ elt tup fL it c fv,y=>uu y fun x gs gx=>l1 gs fun g=>g.is_async==0&&g.iter.ctorIdx != 7&&mE sc it g.iter&&Km tup fL g.target&&mE (fP sc gx) elt x&&gx.kind==.function&&Fp sc gx fv fL&&
   cond c.yL (l0 g.ifs) (l1 g.ifs fun t=>mE (fP sc gx) c t)
 |.gO es,y=>rl y fun xs=>u1 sc es xs&&decide (2<=xs.length)&&decide (xs.length<=16)&&es.parts
 |.fmt e,y=>kK y fun v k sp=>o0 sp&&mE sc e v&&k==-1
 |.skip,y=>uv y fun _ _ _ _=>ag
noncomputable def u1 (sc:bY):Es->ah ay->aj
 |.nil,l=>l0 l
 |.cons e es,l=>match l with
  |[]=>ao
  |x::xs=>x.ctorIdx != 22&&mE sc e x&&u1 sc es xs
end
noncomputable def zy (x:ay):aj:=x.ctorIdx != 8&&x.ctorIdx != 9&&x.ctorIdx != 10
noncomputable def QW (x:ay):aj:=x.ctorIdx != 25
noncomputable def E.isC (e:E):aj:=by cases e with
 |comp=>exact ag
 |_=>exact ao
noncomputable def S.VQ (s:S):aj:=by cases s with
 |freeze=>exact ag
 |_=>exact ao
noncomputable def Q9 (sc:bY) (C:Cn) (x:ay):aj:=nu (Str.ofString C.s) x&&oX sc (Str.ofString C.s)&&C.isExc
noncomputable def mTy (sc:bY) (tup:aj) (cs:ah Cn) (ty:ay):aj:=cond tup (vD ty fun xs=>l2 cs fun C D=>l2 xs fun x y=>Q9 sc C x&&Q9 sc D y) (l1 cs fun C=>Q9 sc C ty)
noncomputable def Q8 (sc:bY) (lo hi:E) (y:ay):aj:=s8 ("range":Str) y fun xs=>oX sc ("range":Str)&&cond lo.yL (u1 sc (.cons hi .nil) xs) (u1 sc (.cons lo (.cons hi .nil)) xs)
noncomputable def J5 (n:Str) (x:ay) (f:ay->aj):aj:=iP x fun o i=>(gh i fun c=>wW c fun s=>s==n)&&f o
noncomputable def ES (n:Str) (x:ay) (f:ay->aj):aj:=lD x fun o a _=>a==n&&f o
noncomputable def Dr (y:aY) (f:ay->ay->aj):aj:=wV y fun ts v=>l1 ts fun t=>f t v
noncomputable def Dn (h:PySem.ExceptHandler) (f:ay->ah aY->aj):aj:=match h with
 |.ExceptHandler ty nm b _=>o0 nm&&o1 ty fun t=>f t b
noncomputable def mH (sc:bY):Hr->ah aY->aj
 |.Qp b,l=>l1 l fun y=>pE y fun o=>o1 o fun x=>mE sc (.bool b) x
 |.setB x b,l=>l1 l fun y=>Dr y fun t v=>nu (dP x) t&&tO sc x&&mE sc (.bool b) v
 |.other,_=>ag
noncomputable def lc {α:Type} (l:ah α) (f:α->aj) (g:ah α->aj):aj:=match l with
 |[]=>ao
 |x::r=>f x&&g r
mutual
noncomputable def mS (sc:bY):S->aY->aj
 |.expr e,y=>EJ y fun v=>mE sc e v&&zy v
 |.bz x e,y=>Dr y fun t v=>nu (dP x) t&&tO sc x&&mE sc e v&&(zy v || e.isC)
 |.jA xs e,y=>Dr y fun t v=>Km ag xs t&&xs.all (tO sc)&&mE sc e v&&QW v&&zy v
 |.setAttr e f v,y=>Dr y fun t w=>ES (dP f) t fun o=>mE sc e o&&mE sc v w
 |.c4 e f v,y=>Dr y fun t w=>J5 (dP f) t fun o=>mE sc e o&&mE sc v w
 |.aug x op e,y=>jY y fun t o v=>nu (dP x) t&&o==op.op&&tO sc x&&mE sc e v
 |.ic e f op v,y=>jY y fun t o w=>ES (dP f) t fun u=>o==op.op&&mE sc e u&&mE sc v w
 |.sm e f op v,y=>jY y fun t o w=>J5 (dP f) t fun u=>o==op.op&&mE sc e u&&mE sc v w
 |.dp d a b,y=>QL y fun t u v=>mE sc d t&&OB sc a u&&OB sc b v
 |.kD d b,y=>Am y fun t u v=>l0 v&&mE sc d t&&OB sc b u
 |.uE x e b,y=>EI y fun t it u v=>l0 v&&nu (dP x) t&&tO sc x&&it.ctorIdx != 7&&mE sc e it&&OB sc b u
 |.forR x lo hi b,y=>EI y fun t it u v=>l0 v&&nu (dP x) t&&tO sc x&&Q8 sc lo hi it&&OB sc b u
 |.ret e,y=>pE y fun o=>o1 o (mE sc e)
 |.yH,y=>pE y o0
 |.cC C e,y=>An y fun a b=>o0 b&&o1 a fun x=>uv x fun f xs Kq _=>Q9 sc C f&&l0 Kq&&u1 sc (.cons e .nil) xs
 |.Eh b tup cs h,y=>J7 y fun body hs oe fin=>l0 oe&&l0 fin&&l1 hs fun hd=>Dn hd fun ty hb=>mTy sc tup cs ty&&OB sc b body&&mH sc h hb
 |.brk,y=>Ao y ag
 |.pass,y=>EH y ag
 |.freeze _,_=>ao
noncomputable def OB (sc:bY):Ss->ah aY->aj
 |.nil,ys=>l0 ys
 |.cons s r,ys=>cond s.VQ (OB sc r ys) (lc ys (mS sc s) (OB sc r))
end
noncomputable def P0:Nat->Nat->ah Nat
 | 0,_=>[]
 |k+1,c=>(c % 2048)::P0 k (c / 2048)
noncomputable def aaf:ah Nat:=P0 24 0x148260460800e81a02e0500880e01601f9c32c238b9f696b894aa4f458798d395a
noncomputable def uZ:ah Nat:=P0 113 0x557aa552ea253da714c696525a414668950ba093fe7d4f39d937a6bcd098529a4fc9891520e3e4678c116625c4487b0da17c21835031fbbf07d2f6de6bc677eee1d8b9571cde5b936b6c8d7599b2c64ac5d88309604bd16fad85a2b2961abc55ca9d5027d4de9a130a5a48a8f914a1441a7fcfc1f13c6738e39b9364690cb18f3105ccb61572924ec9311f230424760e51bc35c680c91842ec5a0ad
noncomputable def Q2:ah Nat:=P0 277 0x557aad54aa8d4ba95512a1d3da794e29bd31a614b295d25a494828fd19a3144a88d0ba1541281cff9fd3ea7ccf39e53b275ce19c137a6ecd79ad34267cc29832c257ca694b27e4f49892f22a44c839051f23dc718e119e334608bf1662c44b89511221c3d8790da1ac2f85d0861041a83303205bf77ecfc1f7be97d0f6ded3cd798f19e2bbf77cee1dbbb1760e7dcf395728e39c6b796f0dc9b8b6b6d4d91b1b5d6b8d2da5333664cb195b25648c5d8b31061ec2584302602bd179ae25c2b7d6f2d85aeb45682ca592b0d612bc576ab956aa754ca814fa955289f53e26f4dc9a133a614c09692ca4f49c9152223e47a8b115a2945085109a0d4187fcff1f83ee7c4f81e63ca78cf11ce39a71ce31b93706c8d89a734c690d199632a63cc718830e5ccb916c2d6568ac9572ac524a413b2744989291f23c4608b911212420760eb1ca3906f0dd1ae358680cf192320610c11762e85a0b315a2b0520a313025c4608b1001fc3a0730d019c2e05b0a013c220430700dc1602b03e07801800
noncomputable def dR:Tab:=⟨fun C=>ux aaf C.n 0,fun f=>ux uZ f.n 0⟩
noncomputable def VP (o:aB (aB av)) (v:av):aj:=o==aa (aa v)
noncomputable def isI (o:aB (aB av)) (i:Int):aj:=o1 o fun o=>o1 o fun v=>EF v fun j _=>j==i
noncomputable def VZ (K:cW) (C:Cn):aj:=VP (findIn K (.ref (dR.cA C)) "__getattribute__") (.builtin "object.__getattribute__")&&VP (findIn K (.ref (dR.cA C)) "__setattr__") (.builtin "object.__setattr__")&&findIn K (.ref (dR.cA C)) "__getattr__"==aa au&&
 plainOver K (dR.cA C)&&(clsIn K (dR.cA C)).any (·.hasDict)&&(fieldsOf C).all (fun f=>findIn K (.ref (dR.cA C)) (dP f)==aa au)&&makesIn K (dR.cA C)&&(rC C).all (fun f=>VP (findIn K (.ref (dR.cA C)) "__init__") (.ref (dR.fA f)))&&
 (ux EY C.n []).all (fun p=>VP (findIn K (.ref (dR.cA C)) (dP p.1)) (.ref (dR.fA p.2)))&&keepIn K (.ref (dR.cA C))
noncomputable def M4 (K:cW) (C:Cn):aj:=ZG K (dR.cA C) XF "Exception.__new__"&&keepIn K (.ref (dR.cA C))&&allB 23 fun m h=>!Cn.isExc ⟨m,h⟩ || exmOne K (.ref (dR.cA C)) (.ref (dR.cA ⟨m,h⟩))==aa (C.under ⟨m,h⟩)
noncomputable def Ic (K:cW) (C:Cn):aj:=((fieldsOf C).isEmpty || VZ K C)&&(!C.isExc || M4 K C)&&VP (nsIn K mainGlobals (Str.ofString C.s)) (.ref (dR.cA C))
noncomputable def V5:ah Nat->ah Nat->aj
 |[],b=>b.isEmpty
 |x::a,b=>match b with
  |[]=>ao
  |y::b=>Nat.beq x y&&V5 a b
noncomputable def Ib (K:cW) (cd:av) (q:Str):aj:=Al cd fun c=>o1 (K.lookup c) fun o=>QP o.data fun vs=>o1 vs[1]? fun v=>JZ v fun q' _=>V5 q'.cps.toList q.cps.toList
noncomputable def M5 (K:cW) (f:Fn) (v:av):aj:=(f.dflt.isEmpty&&v==.none) || Al v fun d=>o1 (K.lookup d) fun o=>Kd o.data fun ds _=>l1 ds.toList fun w=>EF w fun i _=>l1 f.dflt fun x=>o1 (kq x) fun j=>i==j
noncomputable def Rx (K:cW) (f:Fn) (fd:eR):aj:=fd.globals==mainGlobals&&fd.builtins==builtinsNs&&fd.closure.isEmpty&&M5 K f fd.defaults&&Ib K fd.code fd.qualname
abbrev Inf:Type:=bY×Arguments×ah aY
noncomputable def Ks (fd:eR):aB Inf:=match fd.body with
 |.stmts b=>aa (fd.scope,fd.params,b)
 |.expr _=>au
noncomputable def bodyOf (d:gW):aB Inf:=if h:d.ctorIdx=7 then PySem.Data.func.elim (motive:=fun _=>aB Inf) d h Ks else au
noncomputable def XS (K:cW) (a:ax):aB Inf:=match K.lookup a with
 |none=>au
 |some o=>bodyOf o.data
noncomputable def rD (f:Fn) (x:Inf):aj:=OB x.1 f.body x.2.2&&x.1.kind==.function&&!x.1.isCoroutine&&!x.1.isGenerator&&
 x.2.1.posonlyargs.isEmpty&&x.2.1.args.map (·.arg)==f.ps.map dP&&x.2.1.vararg.isNone&&x.2.1.kwonlyargs.isEmpty&&x.2.1.kwarg.isNone&&decide f.ps.Nodup&&
 f.ps.all (tO x.1)&&x.1.names.all (fun p=>p.2 != .free)
noncomputable def w8 (K:cW) (f:Fn):aj:=isFn K (.ref (dR.fA f))&&keepIn K (.ref (dR.fA f))&&(!f.top || VP (nsIn K mainGlobals (Str.ofString f.s)) (.ref (dR.fA f)))&&o1 (K.lookup (dR.fA f)) fun o=>QO o.data fun fd=>Rx K f fd
noncomputable def XC (K:cW) (b:Bi):aj:=nsIn K mainGlobals (Str.ofString b.s)==aa au&&VP (nsIn K builtinsNs (Str.ofString b.s)) b.v
noncomputable def M3 (K:cW):aj:=M6.all (fun p=>isI (nsIn K mainGlobals (dP p.1)) p.2)&&[Bi.len,.bytes,.bytearray,.min,.max,.sum,.sorted,.tuple,.str,.all].all (XC K)&&
 nsIn K mainGlobals "range"==aa au&&VP (nsIn K builtinsNs "range") (.type "range")
noncomputable def acg (K:cW):aj:=allB 23 (fun m h=>Ic K ⟨m,h⟩)&&allB 112 (fun m h=>w8 K ⟨m,h⟩)&&M3 K
noncomputable def good (K:cW):aj:=acg K&&allB 112 fun m h=>o1 (XS K (dR.fA ⟨m,h⟩)) (rD ⟨m,h⟩)
noncomputable def acZ (n:Nat) (x:Inf) (f:Nat->ah (aB Inf)):ah (aB Inf):=cond (Nat.beq (n % 2) 1) (aa x::f (n / 2)) (f (n / 2))
noncomputable def defsIn (k:Nat->ah (aB Inf)):ah aY->Nat->ah (aB Inf)
 |[],n=>k n
 |x::r,n=>match x with
  |.FunctionDef _ a b _ _ _ sc _ _ _=>acZ n (sc,a,b) (defsIn k r)
  |_=>defsIn k r n
noncomputable def defsOf:ah aY->Nat->ah (aB Inf)
 |[],_=>[]
 |x::r,n=>match x with
  |.FunctionDef _ a b _ _ _ sc _ _ _=>acZ n (sc,a,b) (defsOf r)
  |.ClassDef _ _ _ b _ _ _ _ _ _ _=>defsIn (defsOf r) b n
  |_=>defsOf r n
noncomputable def pick:Nat->ah Nat->ah Obj->cW
 |_,_,[]=>[]
 |i,as,o::os=>match as with
  |[]=>[]
  |a::as=>cond (Nat.beq i a) (cond o.isFreed (pick (i+1) as os) ((a,o)::pick (i+1) as os)) (pick (i+1) (a::as) os)
open _root_.PySem _root_.PySem.W _root_.PySem.Calls PyProof.Rows
noncomputable def Sd (P:Params):BT:=((boot_heap P).objs.toList.foldl (fun(x:BT×Nat) o=>(x.1.ins x.2 o,x.2+1)) (BT.nil,0)).1
noncomputable def Sf (w:dQ) (os:iQ):SharedT:=⟨Sd w.params,11,(boot_heap w.params).life,#[],boot_drawn,boot_toks,os⟩
noncomputable def VH (p q:dx) (loose:ah Str) (Xt Y:aF->aj) (P:Params) (r:iR×SharedT×fj×Pos):=
 (staticsOk (importedModules p.main.body) (boot_heap P) r.2.1.abs.heap&&namesBound p r.2.1.abs.heap&&gensDone r.2.1.abs&&laidKept (boot_heap P) r.2.1.abs.heap,openSeen q loose (importedModules p.main.body) Xt ag r.2.1.abs,Y r.2.1.abs)
noncomputable abbrev vj:dx:=PySem.Challenge.rw_xm0842_01.row.toRowW.prog
noncomputable def sS:dx:=view vj [100]
noncomputable def vk:ah Str:=vj.boundNames
noncomputable def P6 (s:aF):aj:=xlAt sS [] s&&recOk PySem.Challenge.rw_xm0842_01.row.toRowW.records s
noncomputable def Oa (s:aF):cW:=pick 0 Q2 s.heap.objs.toList
noncomputable def P7 (w:dQ) (os:iQ):aB (iR×SharedT×fj×Pos):=PySem.W.Fast.tw10110043849684766642 PySem.W.Fast.tw14364793385576792824 vj w 11 (aa (.ref 6)) 0 10200 (Sf w os) (topStub vj)
theorem adU:∀ (w:dQ) (os:iQ),(P7 w os).map (fun r=>((staticsOk (importedModules vj.main.body) (boot_heap w.params) r.2.1.abs.heap&&namesBound vj r.2.1.abs.heap&&gensDone r.2.1.abs&&laidKept (boot_heap w.params) r.2.1.abs.heap,openSeen sS vk (importedModules vj.main.body) P6 ag r.2.1.abs),allB 23 fun m h=>Ic (Oa r.2.1.abs) ⟨m,h⟩))=aa ((ag,openGood sS vk),ag):=fun w os=>by kernel_rfl
noncomputable def m9:ah (aB Inf):=defsOf vj.main.body 0x3ffffebf77da75f67c77bff1f73f3ee753c7fe
theorem adT:∀ (w:dQ) (os:iQ),(P7 w os).map (fun r=>(allB 112 (fun m h=>w8 (Oa r.2.1.abs) ⟨m,h⟩)&&M3 (Oa r.2.1.abs),uZ.map (XS (Oa r.2.1.abs))))=aa (ag,m9):=fun w os=>by kernel_rfl
noncomputable def I7 (lo hi:Nat):aj:=allB 112 fun m h=>(Nat.blt m lo || Nat.ble hi m) || o1 (ux m9 m au) (rD ⟨m,h⟩)
theorem aeN:I7 0 60=ag:=by kernel_rfl
theorem aeM:I7 60 96=ag:=by kernel_rfl
theorem aeL:I7 96 108=ag:=by kernel_rfl
theorem aeK:I7 108 200=ag:=by kernel_rfl
noncomputable abbrev Cq:OpenLaw:=PySem.Challenge.rw_xm0842_01
noncomputable abbrev vI:dx:=Cq.row.toRowW.prog
theorem abk:namesResolve vI=ag:=by kernel_rfl
theorem abj:namesMeet vI vI.main.body (fun _ n=>attrL n)=ag:=by kernel_rfl
theorem Ab {lk:Look}:∀ {n:Nat}{l:ah aY},noRoadLSs lk (l.take n)=ag->noRoadLSs lk (l.drop n)=ag->noRoadLSs lk l=ag
 | 0,_,_,h=>h
 |_+1,[],_,_=>rfl
 |n+1,s::l,h,h'=>by
  have h:=ed.mp (show(noRoadLS lk s&&noRoadLSs lk (l.take n))=ag from h)
  exact ed.mpr ⟨h.1,Ab h.2 h'⟩
theorem acD:(["vars","dir","locals"]:ah Str).filter (readsOut vI vI.main.body)=[]:=by kernel_rfl
theorem U2:(!(importedModules vI.main.body).all cThrough.contains)=ao:=by kernel_rfl
theorem abq:noRoadLSs {strict:=false,foot:=none,bare:=[]} (vI.main.body.take 58)=ag:=by kernel_rfl
theorem abp:noRoadLSs {strict:=false,foot:=none,bare:=[]} ((vI.main.body.drop 58).take 12)=ag:=by kernel_rfl
theorem abo:noRoadLSs {strict:=false,foot:=none,bare:=[]} ((vI.main.body.drop 58).drop 12)=ag:=by kernel_rfl
theorem abi:noRoadLSs {strict:=!(importedModules vI.main.body).all cThrough.contains,foot:=none,bare:=(["vars","dir","locals"]:ah Str).filter (readsOut vI vI.main.body)} vI.main.body=ag:=by
 rw[U2,acD]
 exact Ab abq (Ab abp abo)
theorem abh:noRoadLSs {strict:=true,foot:=some Cq.bound',writes:=Cq.writes,may:=Cq.may} Cq.footing=ag:=by kernel_rfl
theorem abg:namesMeet Cq.prog Cq.above (fun _ n=>!Cq.own.contains n)=ag:=by kernel_rfl
theorem abf:looksOpen vI=ag:=by
 unfold looksOpen
 rw[abk,abj,abi]
 kernel_rfl
theorem abe:Cq.row.wellSaid=ag:=by
 unfold OpenRow.wellSaid OpenRow.partSaid
 rw[abf]
 kernel_rfl
theorem adS:Cq.wellSaid=ag:=by
 unfold OpenLaw.wellSaid
 rw[abe,abh,abg]
 kernel_rfl
section
variable {n n':Nat->Nat}{z:Nat->Int}
theorem tf (f:Nat->Int) (m:Int):∀ (l:ah Int) (i s:Nat),dot f s (wx l i m)=m*f (s+i)+dot f s l
 |[],0,s=>rfl
 |[],i+1,s=>by
  show 0*f s+dot f (s+1) (wx [] i m)=_
  rw[tf f m [] i (s+1),LP,Tb,iD];rfl
 |x::r,0,s=>(aW (· +dot f (s+1) r) (Int.add_mul x m (f s))).trans (by rw[Gi (x*f s),nS];rfl)
 |x::r,i+1,s=>by
  show x*f s+dot f (s+1) (wx r i m)=m*f (s+(i+1))+(x*f s+dot f (s+1) r)
  rw[tf f m r i (s+1),BY,iD];rfl
theorem NT.dh:∀ (a:NT) (m:Int) (p:PL),(a.acc m p).den n z=m*(a.den n:Int)+p.den n z
 |.v i,m,p=>by
  show p.c+(dot _ 0 (wx p.n i m)+dot z 0 p.z)=_
  rw[tf,jF,nS (m*_),BY];rfl
 |.k c,m,p=>by
  show p.c+m*_+_=_
  rw[Gi p.c,nS];rfl
 |.add a b,m,p=>by
  show(a.acc m (b.acc m p)).den n z=m*((a.den n+b.den n:Nat):Int)+_
  rw[dh a,dh b,TH,SV,nS]
 |.ml c a,m,p=>(dh a _ p).trans (by rw[Gl];rfl)
 |.mr a c,m,p=>(dh a _ p).trans (by rw[Gl,Ta (Int.ofNat c)];rfl)
theorem ZT.dh:∀ (a:ZT) (m:Int) (p:PL),(a.acc m p).den n z=m*a.den n z+p.den n z
 |.v i,m,p=>by
  show p.c+(dot _ 0 p.n+dot z 0 (wx p.z i m))=_
  rw[tf,jF,BY (dot _ 0 p.n),BY];rfl
 |.k c,m,p=>by
  show p.c+m*_+_=_
  rw[Gi p.c,nS];rfl
 |.add a b,m,p=>by
  show(a.acc m (b.acc m p)).den n z=m*(a.den n z+b.den n z)+_
  rw[dh a,dh b,SV,nS]
 |.sub a b,m,p=>by
  show(a.acc m (b.acc (-m) p)).den n z=m*(a.den n z-b.den n z)+_
  rw[dh a,dh b,LJ,SU,Me,nS]
 |.ml c a,m,p=>(dh a _ p).trans (by rw[Gl];rfl)
 |.mr a c,m,p=>(dh a _ p).trans (by rw[Gl,Ta (Int.ofNat c)];rfl)
 |.neg a,m,p=>(dh a _ p).trans (by rw[SU,<- Int.mul_neg];rfl)
 |.cast a,m,p=>a.dh m p
def FHd (n:Nat->Nat) (z:Nat->Int) (f:aj×Pr):Prop:=cond f.1 (f.2.den n z) (¬ f.2.den n z)
def All (n:Nat->Nat) (z:Nat->Int) (G:Fs):Prop:=∀ f∈G,FHd n z f
theorem oK:∀ m,0<=clip m
 |.ofNat m=>gw m
 |.negSucc _=>Gf 0
theorem zJ {p:PL}{m:Int}:(p.con m).den n z=m+p.den n z:=(aW (· +_) (Gi p.c m)).trans (nS ..)
theorem up {m x y q r:Int} (hm:0<=m) (h:x<=y) (hq:0<=q) (e:r=m*y+(-m*x+q)):0<=r:=by
 rw[e,<- nS,<- Yb,<- Me,<- LJ]
 exact Int.add_nonneg (Int.mul_nonneg hm (Int.sub_nonneg_of_le h)) hq
theorem up1 {m x y q r:Int} (hm:0<=m) (h:x < y) (hq:0<=q) (e:r=-m+(m*y+(-m*x+q))):0<=r:=
 up hm (Int.le_sub_one_of_lt h) hq (by rw[e,LJ,Int.mul_one,BY,<- nS,Me])
theorem up0 {m x y q r:Int} (h:x=y) (hq:0<=q) (e:r=m*y+(-m*x+q)):0<=r:=by
 rw[e,h,<- Yb,Int.add_neg_cancel_left];exact hq
theorem Y_ {t:aj}{p:Pr}{m:Int}{q:PL} (h:FHd n z (t,p)) (hq:0<=q.den n z):0<=(Pu t p m q).den n z:=by
 cases t with
 |true=>cases p with
  |le x y=>exact up (oK m) (uT.mpr h) hq (by unfold Pu;rw[NT.dh,NT.dh])
  |lt x y=>exact up1 (oK m) (sE.mpr h) hq (by unfold Pu;rw[zJ,NT.dh,NT.dh])
  |eq x y=>exact up0 (aW Int.ofNat h) hq (by unfold Pu;rw[NT.dh,NT.dh];rfl)
  |Xj x y=>exact up (oK m) h hq (by unfold Pu;rw[ZT.dh,ZT.dh])
  |UN x y=>exact up1 (oK m) h hq (by unfold Pu;rw[zJ,ZT.dh,ZT.dh])
  |XG x y=>exact up0 h hq (by unfold Pu;rw[ZT.dh,ZT.dh])
  |_=>exact hq
 |false=>cases p with
  |le x y=>exact up1 (oK m) (sE.mpr (Gw h)) hq (by unfold Pu;rw[zJ,NT.dh,NT.dh])
  |lt x y=>exact up (oK m) (uT.mpr (iC h)) hq (by unfold Pu;rw[NT.dh,NT.dh])
  |Xj x y=>exact up1 (oK m) (SQ.mp h) hq (by unfold Pu;rw[zJ,ZT.dh,ZT.dh])
  |UN x y=>exact up (oK m) (Gb.mp h) hq (by unfold Pu;rw[ZT.dh,ZT.dh])
  |_=>exact hq
theorem HU:∀ (ms:ah Int){G:Fs}{q:PL},All n z G->0<=q.den n z->0<=(Rd ms G q).den n z
 |[],_,_,_,hq=>hq
 |_::_,[],_,_,hq=>hq
 |_::ms,f::_,_,h,hq=>HU ms (fun g hg=>h g (.tail _ hg)) (Y_ (t:=f.1) (p:=f.2) (h f (.head _)) hq)
theorem abx:∀ {c:Int}{x:Nat},Zd c=ag->c*(x:Int)<=0
 |.negSucc c,x,_=>Int.mul_nonpos_of_nonpos_of_nonneg (xv (Um c)) (gw x)
 |.ofNat c,x,h=>by rw[Jd h];exact Int.le_of_eq (LP _)
theorem RQ (f:Nat->Nat):∀ (l:ah Int) (s:Nat),allI Zd l=ag->dot (fun i=>(f i:Int)) s l<=0
 |[],_,_=>Gf 0
 |_::r,s,h=>Int.add_nonpos (abx (ed.mp h).1) (RQ f r (s+1) (ed.mp h).2)
theorem adP:∀ {c:Int},isZ c=ag->c=0
 |.negSucc _,h=>by cases h
 |.ofNat _,h=>aW Int.ofNat (Jd h)
theorem XI (f:Nat->Int):∀ (l:ah Int) (s:Nat),allI isZ l=ag->dot f s l=0
 |[],_,_=>rfl
 |x::r,s,h=>by
  show x*f s+dot f (s+1) r=0
  rw[adP (ed.mp h).1,XI f r (s+1) (ed.mp h).2,LP];rfl
theorem Y5:∀ {c:Int},isNeg c=ag->c < 0
 |.negSucc c,_=>Um c
 |.ofNat _,h=>by cases h
theorem Z2 {q:PL} (h:q.bad=ag) (hq:0<=q.den n z):False:=by
 have h:=ed.mp h
 have g:=ed.mp h.2
 refine Int.lt_irrefl 0 (Int.lt_of_le_of_lt hq (Int.add_neg_of_neg_of_nonpos (Y5 h.1) ?_))
 rw[XI z _ 0 g.2,S_]
 exact RQ n _ 0 g.1
theorem all_nil:All n z []:=fun _ h=>nomatch h
theorem all_cons {f:aj×Pr}{G:Fs} (h:FHd n z f) (g:All n z G):All n z (f::G):=fun x hx=>match hx with
 |.head _=>h
 |.tail _ q=>g x q
theorem F9 {G G':Fs} (h:All n z G) (g:All n z G'):All n z (G++G'):=fun x hx=>(iS.mp hx).elim (h x) (g x)
theorem all1 {f:aj×Pr} (h:FHd n z f):All n z [f]:=all_cons h all_nil
theorem all2 {f g:aj×Pr} (h:FHd n z f) (h':FHd n z g):All n z [f,g]:=all_cons h (all1 h')
def Alt (n:Nat->Nat) (z:Nat->Int) (x:Fs×aB Fs):Prop:=All n z x.1∨∃ b,x.2=aa b/\All n z b
theorem P2 {x:Fs×aB Fs}{G:Fs}{l r:Fs->aj} (a:Alt n z x) (g:All n z G) (hl:∀ G,All n z G->l G=ag->False) (hr:∀ G,All n z G->r G=ag->False) (h:two x G l r=ag):False:=by
 obtain⟨x,y⟩:=x
 rcases a with a |⟨b,e,a⟩
 ·cases y with
  |none=>exact hl _ (F9 g a) h
  |some=>exact hl _ (F9 g a) (ed.mp h).1
 ·cases e
  exact hr _ (F9 g a) (ed.mp h).2
theorem ph {f:Fs}{y:aB Fs} (h:All n z f):Alt n z (f,y):=.inl h
theorem BA {x f:Fs} (h:All n z f):Alt n z (x,aa f):=.inr ⟨_,rfl,h⟩
open Classical in
theorem Z1 {t:aj}{p:Pr} (h:FHd n z (t,p)):Alt n z (brs t p):=by
 cases t with
 |true=>cases p with
  |no p=>exact ph (all1 h)
  |an p q=>exact ph (all2 (f:=(ag,p)) (g:=(ag,q)) h.1 h.2)
  |or p q=>exact h.elim (fun h=>ph (all1 h)) fun h=>BA (all1 h)
  |im p q=>exact(em (p.den n z)).elim (fun x=>BA (all1 (h x))) fun x=>ph (all1 x)
  |iff p q=>exact(em (p.den n z)).elim (fun x=>ph (all2 (f:=(ag,p)) (g:=(ag,q)) x (h.mp x))) fun x=>BA (all2 (f:=(ao,p)) (g:=(ao,q)) x fun y=>x (h.mpr y))
  |_=>exact ph all_nil
 |false=>cases p with
  |no p=>exact ph (all1 (f:=(ag,p)) (not_not.mp h))
  |an p q=>exact(em (p.den n z)).elim (fun x=>BA (all1 (f:=(ao,q)) fun y=>h ⟨x,y⟩)) fun x=>ph (all1 x)
  |or p q=>exact ph (all2 (f:=(ao,p)) (g:=(ao,q)) (fun x=>h (.inl x)) fun x=>h (.inr x))
  |im p q=>exact ph (all2 (f:=(ag,p)) (g:=(ao,q)) (not_imp.mp h).1 (not_imp.mp h).2)
  |iff p q=>exact(em (p.den n z)).elim (fun x=>ph (all2 (f:=(ag,p)) (g:=(ao,q)) x fun y=>h ⟨fun _=>y,fun _=>x⟩)) fun x=>BA (all2 (f:=(ao,p)) (g:=(ag,q)) x (byContradiction fun y=>h ⟨fun w=>absurd w x,fun w=>absurd w y⟩))
  |eq a b=>exact(Nat.lt_or_gt_of_ne h).elim (fun x=>ph (all1 x)) fun x=>BA (all1 x)
  |XG a b=>exact(Int.lt_or_gt_of_ne h).elim (fun x=>ph (all1 x)) fun x=>BA (all1 x)
  |_=>exact ph all_nil
theorem V7 {d:Df}{w:Nat} (h1:n w=d.d1 n z) (h2:n (w+1)=d.d2 n) (b0:Nat) (hk:d.ok b0=ag):Alt n z (d.brs w):=by
 cases d with
 |sub a b=>exact(Gg (a.den n) (b.den n)).elim (fun x=>BA (all2 (f:=(ag,.lt a b)) (g:=(ag,.eq (.v w) (.k 0))) x (h1.trans (NJ (fH x))))) fun x=>ph (all2 (f:=(ag,.le b a)) (g:=(ag,.eq a (.add (.v w) b))) x ((Nat.sub_add_cancel x).symm.trans (aW (· +b.den n) h1.symm)))
 |dm a c=>
  have e:a.den n=c*n w+n (w+1):=by rw[h1,h2];exact(Gu ..).symm
  exact ph (all2 (f:=(ag,.eq a (.add (.ml c (.v w)) (.v (w+1))))) (g:=(ag,.lt (.v (w+1)) (.k c))) e (by
   show n (w+1) < c
   rw[h2];exact dD _ (aT (ed.mp hk).2)))
 |min a b=>exact(BN (a.den n) (b.den n)).elim (fun x=>ph (all2 (f:=(ag,.le a b)) (g:=(ag,.eq (.v w) a)) x (h1.trans (dK x)))) fun x=>BA (all2 (f:=(ag,.le b a)) (g:=(ag,.eq (.v w) b)) x (h1.trans (qz x)))
 |max a b=>exact(BN (a.den n) (b.den n)).elim (fun x=>ph (all2 (f:=(ag,.le a b)) (g:=(ag,.eq (.v w) b)) x (h1.trans (BV x)))) fun x=>BA (all2 (f:=(ag,.le b a)) (g:=(ag,.eq (.v w) a)) x (h1.trans (xD x)))
 |nat a=>exact(Int.lt_or_le (a.den n z) 0).elim (fun x=>BA (all2 (f:=(ag,.UN a (.k 0))) (g:=(ag,.eq (.v w) (.k 0))) x (h1.trans (Int.toNat_of_nonpos (xv x))))) fun x=>ph (all2 (f:=(ag,.Xj (.k 0) a)) (g:=(ag,.XG (.cast (.v w)) a)) x ((aW Int.ofNat h1).trans (Int.toNat_of_nonneg x)))
theorem DF {α β γ:Type} (f:α->β->γ){a a':α}{b b':β} (h:a=a') (k:b=b'):f a b=f a' b':=congr (aW f h) k
theorem Le {i b:Nat} (h:i≠b):Nat.beq i b=ao:=Bool.eq_false_iff.mpr fun q=>h (Jd q)
theorem NT.same {b:Nat} (h:∀ i,i < b->n i=n' i):∀ (a:NT),a.lt b=ag->a.den n=a.den n'
 |.v i,q=>h i (aT q)
 |.k _,_=>rfl
 |.add x y,q=>DF HAdd.hAdd (same h x (ed.mp q).1) (same h y (ed.mp q).2)
 |.ml c a,q=>aW (c* ·) (same h a q)
 |.mr a c,q=>aW (· *c) (same h a q)
theorem ZT.same {b:Nat} (h:∀ i,i < b->n i=n' i):∀ (a:ZT),a.lt b=ag->a.den n z=a.den n' z
 |.v _,_=>rfl
 |.k _,_=>rfl
 |.add x y,q=>DF HAdd.hAdd (same h x (ed.mp q).1) (same h y (ed.mp q).2)
 |.sub x y,q=>DF HSub.hSub (same h x (ed.mp q).1) (same h y (ed.mp q).2)
 |.ml c a,q=>aW (Int.ofNat c* ·) (same h a q)
 |.mr a c,q=>aW (· *Int.ofNat c) (same h a q)
 |.neg a,q=>aW (- ·) (same h a q)
 |.cast a,q=>aW Int.ofNat (a.same h q)
theorem Df.same {b:Nat} (h:∀ i,i < b->n i=n' i){d:Df} (hd:d.ok b=ag):d.d1 n z=d.d1 n' z/\d.d2 n=d.d2 n':=by
 cases d with
 |sub x y=>exact⟨DF HSub.hSub (x.same h (ed.mp hd).1) (y.same h (ed.mp hd).2),rfl⟩
 |dm a c=>exact⟨aW (· / c) (a.same h (ed.mp hd).1),aW (· % c) (a.same h (ed.mp hd).1)⟩
 |min x y=>exact⟨DF Min.min (x.same h (ed.mp hd).1) (y.same h (ed.mp hd).2),rfl⟩
 |max x y=>exact⟨DF Max.max (x.same h (ed.mp hd).1) (y.same h (ed.mp hd).2),rfl⟩
 |nat a=>exact⟨aW Int.toNat (a.same h hd),rfl⟩
theorem YF {b x y i:Nat} (h:i < b):n i=upd n b x y i:=by
 unfold upd
 rw[show Nat.beq i b=ao from Le (sD h),show Nat.beq i (b+1)=ao from Le (sD (Gz h))];rfl
theorem Fi:∀ (D:ah Df){n:Nat->Nat}{b i:Nat},i < b->n i=ext z D n b i
 |[],_,_,_,_=>rfl
 |_::r,_,_,_,h=>(YF h).trans (Fi r (Gz (Gz h)))
theorem RK:∀ (D:ah Df){n:Nat->Nat}{b:Nat},RO D b=ag->∀ (j:Nat){d:Df},D[j]? =aa d->∃ b0,d.ok b0=ag/\ext z D n b (b+2*j)=d.d1 (ext z D n b) z/\ext z D n b (b+2*j+1)=d.d2 (ext z D n b)
 |[],_,_,_,_,_,e=>by cases e
 |d::r,n,b,h,0,_,e=>by
  cases e
  have h:=ed.mp h
  have s:=Df.same (z:=z) (n':=ext z (d::r) n b) (fun i q=>Fi (z:=z) (d::r) q) h.1
  refine⟨b,h.1,?_,?_⟩
  ·rw[<- s.1]
   refine(Fi r (i:=b) (Gz (nU _))).symm.trans ?_
   unfold upd;rw[S9];rfl
  ·rw[<- s.2]
   refine(Fi r (i:=b+1) (nU _)).symm.trans ?_
   unfold upd;rw[show Nat.beq (b+1) b=ao from Le (TU b),S9];rfl
 |d::r,n,b,h,j+1,_,e=>by
  have q:=RK r (n:=upd n b (d.d1 n z) (d.d2 n)) (ed.mp h).2 j e
  rw[show b+2*(j+1)=b+2+2*j from by rw[S5,iD,dU]]
  exact q
theorem QV {α:Type}{d:α}:∀ (l:ah α) (i:Nat),l[i]? =aa (ux l i d)∨ux l i d=d
 |[],_=>.inr rfl
 |_::_,0=>.inl rfl
 |_::r,i+1=>QV r i
theorem HK {D:ah Df}{b:Nat}{n0:Nat->Nat} (hD:RO D b=ag) (hn:n=ext z D n0 b):∀ (x:Ct){G:Fs},All n z G->x.ok D b G=ag->False
 |.leaf ms,G,g,h=>Z2 h (HU ms g (Gf 0))
 |.cs i l r,G,g,h=>by
  refine P2 (x:=brs (ux G i (ag,.ff)).1 (ux G i (ag,.ff)).2) ?_ g (fun G g=>HK hD hn l g) (fun G g=>HK hD hn r g) h
  rcases QV (d:=(ag,Pr.ff)) G i with q |q
  ·exact Z1 (g _ (BE q))
  ·rw[q];exact ph all_nil
 |.df j l r,G,g,h=>by
  refine P2 (x:=dAt D[j]? (b+2*j)) ?_ g (fun G g=>HK hD hn l g) (fun G g=>HK hD hn r g) h
  cases q:D[j]? with
  |none=>exact ph all_nil
  |some d=>
   obtain⟨b0,h0,h1,h2⟩:=RK (z:=z) (n:=n0) D hD j q
   subst hn
   exact V7 h1 h2 b0 h0
end
theorem aQ:ag=ag:=rfl
noncomputable def dN (c:Nat):Nat×Nat:=(c / 16 % 256 ^ (c % 16),c / 16 / 256 ^ (c % 16))
noncomputable def dI (c:Nat):Int×Nat:=cond (Nat.blt (c % 16) 8) (Int.ofNat (c / 16 % 256 ^ (c % 16)),c / 16 / 256 ^ (c % 16)) (-Int.ofNat (c / 16 % 256 ^ (c % 16-8)),c / 16 / 256 ^ (c % 16-8))
noncomputable def dL:Nat->Nat->ah Int×Nat
 | 0,c=>([],c)
 |k+1,c=>((dI c).1::(dL k (dI c).2).1,(dL k (dI c).2).2)
noncomputable def sel {α:Type}:ah α->α->Nat->α
 |[],d,_=>d
 |x::r,d,k=>cond (Nat.beq k 0) x (sel r d (k-1))
noncomputable def fs {α β γ:Type} (f:α->β) (x:α×γ):β×γ:=(f x.1,x.2)
noncomputable def DD:Nat->Nat->NT×Nat
 | 0,c=>(.k 0,c)
 |f+1,c=>sel [(.v (c / 16 % 16),c / 256),(.v (16+c / 16 % 16),c / 256),(.k (c / 16 % 16),c / 256),fs .k (dN (c / 16)),
   (.add (DD f (c / 16)).1 (DD f (DD f (c / 16)).2).1,(DD f (DD f (c / 16)).2).2),(.ml (dN (c / 16)).1 (DD f (dN (c / 16)).2).1,(DD f (dN (c / 16)).2).2)] (.mr (DD f (c / 16)).1 (dN (DD f (c / 16)).2).1,(dN (DD f (c / 16)).2).2) (c % 16)
noncomputable def DC:Nat->Nat->ZT×Nat
 | 0,c=>(.k 0,c)
 |f+1,c=>sel [(.v (c / 16 % 16),c / 256),fs .cast (DD f (c / 16)),(.k (c / 16 % 16),c / 256),fs .k (dN (c / 16)),
   (.add (DC f (c / 16)).1 (DC f (DC f (c / 16)).2).1,(DC f (DC f (c / 16)).2).2),(.ml (dN (c / 16)).1 (DC f (dN (c / 16)).2).1,(DC f (dN (c / 16)).2).2),(.mr (DC f (c / 16)).1 (dN (DC f (c / 16)).2).1,(dN (DC f (c / 16)).2).2),
   (.sub (DC f (c / 16)).1 (DC f (DC f (c / 16)).2).1,(DC f (DC f (c / 16)).2).2)] (fs .neg (DC f (c / 16))) (c % 16)
noncomputable def bi {α β:Type} (k:α->α->β) (d:Nat->α×Nat) (c:Nat):β×Nat:=(k (d c).1 (d (d c).2).1,(d (d c).2).2)
noncomputable def US:Nat->Nat->Pr×Nat
 | 0,c=>(.ff,c)
 |f+1,c=>sel [bi .le (DD f) (c / 16),bi .lt (DD f) (c / 16),bi .eq (DD f) (c / 16),bi .Xj (DC f) (c / 16),bi .UN (DC f) (c / 16),bi .XG (DC f) (c / 16),
   fs .no (US f (c / 16)),bi .an (US f) (c / 16),bi .or (US f) (c / 16),bi .im (US f) (c / 16),bi .iff (US f) (c / 16)] (.ff,c / 16) (c % 16)
noncomputable def dDf (c:Nat):Df×Nat:=sel [bi .sub (DD 20) (c / 16),bi .min (DD 20) (c / 16),bi .max (DD 20) (c / 16),(.dm (DD 20 (c / 16)).1 (dN (DD 20 (c / 16)).2).1,(dN (DD 20 (c / 16)).2).2)] (fs .nat (DC 20 (c / 16))) (c % 16)
noncomputable def dDs:Nat->Nat->ah Df
 | 0,_=>[]
 |k+1,c=>(dDf c).1::dDs k (dDf c).2
noncomputable def PA:Nat->Nat->Ct×Nat
 | 0,c=>(.leaf [],c)
 |f+1,c=>sel [(.leaf (dL (c / 16 % 256) (c / 4096)).1,(dL (c / 16 % 256) (c / 4096)).2),(.cs (c / 16 % 256) (PA f (c / 4096)).1 (PA f (PA f (c / 4096)).2).1,(PA f (PA f (c / 4096)).2).2)]
   (.df (c / 16 % 16) (PA f (c / 256)).1 (PA f (PA f (c / 256)).2).1,(PA f (PA f (c / 256)).2).2) (c % 16)
noncomputable def eN (D:Nat) (l:ah Nat) (z:ah Int):Nat->Nat:=ext (fun i=>ux z i 0) (dDs (D / 256 % 16) (D / 4096)) (fun i=>ux l i 0) (D % 256)
def hP (D:Nat) (l:ah Nat) (z:ah Int) (c:Nat):Prop:=(US 20 c).1.den (eN D l z) fun i=>ux z i 0
noncomputable def V' (D x g:Nat) (hs:ah Nat):aj:=RO (dDs (D / 256 % 16) (D / 4096)) (D % 256)&&(PA 20 x).1.ok (dDs (D / 256 % 16) (D / 4096)) (D % 256) ((ao,(US 20 g).1)::hs.map fun h=>(ag,(US 20 h).1))
section
variable {l:ah Nat}{z:ah Int}{D x g:Nat}
theorem mB {G:Fs} (h:(RO (dDs (D / 256 % 16) (D / 4096)) (D % 256)&&(PA 20 x).1.ok (dDs (D / 256 % 16) (D / 4096)) (D % 256) ((ao,(US 20 g).1)::G))=ag) (a:All (eN D l z) (fun i=>ux z i 0) G):hP D l z g:=
 have h:=ed.mp h
 Ys fun q=>HK h.1 rfl _ (all_cons (f:=(ao,(US 20 g).1)) q a) h.2
end
section
variable (z:ah Int) (D:Nat) (l:ah Nat) (x g:Nat)
theorem lT (e:V' D x g []=ag):hP D l z g:=mB e all_nil
variable (a:Nat)
theorem gg (h:hP D l z a) (e:V' D x g [a]=ag):hP D l z g:=mB e (all1 h)
variable (b:Nat)
theorem nt (h:hP D l z a) (i:hP D l z b) (e:V' D x g [a,b]=ag):hP D l z g:=mB e (all2 h i)
variable (c:Nat)
theorem EU (h:hP D l z a) (i:hP D l z b) (j:hP D l z c) (e:V' D x g [a,b,c]=ag):hP D l z g:=mB e (all_cons h (all2 i j))
variable (d:Nat)
theorem nl4 (h:hP D l z a) (i:hP D l z b) (j:hP D l z c) (k:hP D l z d) (e:V' D x g [a,b,c,d]=ag):hP D l z g:=mB e (all_cons h (all_cons i (all2 j k)))
variable (s:Nat)
theorem nl5 (h:hP D l z a) (i:hP D l z b) (j:hP D l z c) (k:hP D l z d) (m:hP D l z s) (e:V' D x g [a,b,c,d,s]=ag):hP D l z g:=mB e (all_cons h (all_cons i (all_cons j (all2 k m))))
variable (t:Nat)
theorem nl6 (h:hP D l z a) (i:hP D l z b) (j:hP D l z c) (k:hP D l z d) (m:hP D l z s) (n:hP D l z t) (e:V' D x g [a,b,c,d,s,t]=ag):hP D l z g:=mB e (all_cons h (all_cons i (all_cons j (all_cons k (all2 m n)))))
variable (u:Nat)
theorem nl7 (h:hP D l z a) (i:hP D l z b) (j:hP D l z c) (k:hP D l z d) (m:hP D l z s) (n:hP D l z t) (o:hP D l z u) (e:V' D x g [a,b,c,d,s,t,u]=ag):hP D l z g:=mB e (all_cons h (all_cons i (all_cons j (all_cons k (all_cons m (all2 n o))))))
variable (v:Nat)
theorem nl8 (h:hP D l z a) (i:hP D l z b) (j:hP D l z c) (k:hP D l z d) (m:hP D l z s) (n:hP D l z t) (o:hP D l z u) (p:hP D l z v) (e:V' D x g [a,b,c,d,s,t,u,v]=ag):hP D l z g:=mB e (all_cons h (all_cons i (all_cons j (all_cons k (all_cons m (all_cons n (all2 o p)))))))
end
def lE:=@lT [] 0
def cw:=@gg [] 0
def fw:=@nt [] 0
def GR:=@EU [] 0
def Y4:=@nl4 [] 0
def nm5:=@nl5 [] 0
def nm6:=@nl6 [] 0
def nm7:=@nl7 [] 0
def Yx (C:CC):Prop:=∀ f vs H (Q Q':PV) (X X':PX),(∀ v H,Q v H->Q' v H)->(∀ c H,X c H->X' c H)->C f vs H Q X->C f vs H Q' X'
theorem Got.bT {α:Type}{o:aB α}{k k':α->Prop} (f:∀ v,k v->k' v):Got o k->Got o k'
 |.mk v h q=>.mk v h (f v q)
theorem IsI.bT {x:V}{k k':Int->Prop} (f:∀ v,k v->k' v):IsI x k->IsI x k'
 |.mk v h q=>.mk v h (f v q)
theorem fV {a b c:Prop} (f:b->c) (h:a/\b):a/\c:=⟨h.1,f h.2⟩
theorem j9 {d a b c:Prop} (f:b->c) (h:d/\a/\b):d/\a/\c:=⟨h.1,h.2.1,f h.2.2⟩
theorem fO {x y:V}{k k':Int->Int->Prop} (f:∀ i j,k i j->k' i j) (h:oY x y k):oY x y k':=h.bT fun i=>Got.bT fun j=>f i j
theorem yB.bT {H:Hp}{x y:V}{k k':ah V->Prop} (f:∀ v,k v->k' v):yB H x y k->yB H x y k'
 |.mk xs ys a b c q=>.mk xs ys a b c (f _ q)
theorem nB {t:aj}{a b a' b':Prop} (f:a->a') (g:b->b') (h:cond t a b):cond t a' b':=match t,h with
 |true,h=>f h
 |false,h=>g h
theorem Idx.bT {α:Type}{xs:ah α}{i:Int}{k k':α->Prop} (f:∀ v,k v->k' v):Idx xs i k->Idx xs i k'
 |.mk a b c d e q=>.mk a b c d e (f _ q)
theorem Sl.bT {α:Type}{xs:ah α}{i j:V}{k k':ah α->Prop} (f:∀ v,k v->k' v):Sl xs i j k->Sl xs i j k'
 |.mk a b c d e q=>.mk a b c d e (f _ q)
theorem jo {vs:ah V}{k k':V->Prop} (f:∀ v,k v->k' v) (h:Kh vs k):Kh vs k':=match vs,h with
 |[],h=>h
 |[_],h=>f _ h
 |_::_::_,h=>h
theorem HI {vs:ah V}{k k':V->V->Prop} (f:∀ v w,k v w->k' v w) (h:on2 vs k):on2 vs k':=match vs,h with
 |[],h=>h
 |_::_,h=>jo (f _) h
section
variable {H:Hp}{Q Q':PV} (q:∀ v H,Q v H->Q' v H)
include q
theorem Ld {op:Bo}{x y:V} (h:binOp op x y H Q):binOp op x y H Q':=by
 cases op with
 |add=>cases x with
  |int=>exact Got.bT (fun j=>q _ _) h
  |bytes=>exact Got.bT (fun j=>fV (q _ _)) h
  |str=>exact Got.bT (fun j=>fV fun h s hs=>q _ _ (h s hs)) h
  |bE=>exact yB.bT (fun j=>q _ _) h
  |ref=>exact yB.bT (fun j=>q _ _) h
  |_=>exact h
 |sub=>exact fO (fun _ _=>q _ _) h
 |mul=>cases x with
  |int=>exact Got.bT (fun j=>j9 (q _ _)) h
  |bytes=>exact Got.bT (fun j=>j9 (j9 (q _ _))) h
  |_=>exact h
 |fdiv=>exact fO (fun _ _=>j9 (q _ _)) h
 |mod=>exact fO (fun _ _=>fV (q _ _)) h
 |band=>exact fO (fun _ _=>j9 (q _ _)) h
 |bor=>exact fO (fun _ _=>j9 (q _ _)) h
 |shl=>exact fO (fun _ _=>j9 (j9 (q _ _))) h
 |shr=>exact fO (fun _ _=>j9 (fV (q _ _))) h
 |bxor=>exact h
theorem zA {fz:aj}{xs:ah V} (h:mk fz xs H Q):mk fz xs H Q':=fV (nB (q _ _) fun h a ha=>q _ _ (h a ha)) h
theorem Kt {x i:V} (h:MX x i H Q):MX x i H Q':=Got.bT (fun i h=>by
 cases x with
 |bytes=>exact Idx.bT (fun _=>q _ _) h
 |tup=>exact Idx.bT (fun _=>q _ _) h
 |bE=>exact Idx.bT (fun _=>q _ _) h
 |ref=>exact Got.bT (fun _=>Idx.bT fun _=>q _ _) h
 |_=>exact h) h
theorem El {fz:aj}{x lo hi:V} (h:vp fz x lo hi H Q):vp fz x lo hi H Q':=by
 cases x with
 |bytes=>exact Sl.bT (fun _=>q _ _) h
 |bE=>exact Sl.bT (fun _=>zA q) h
 |ref=>exact Got.bT (fun _=>Sl.bT fun _=>zA q) h
 |_=>exact h
theorem IA {b:Bi}{vs:ah V} (h:Fq b vs H Q):Fq b vs H Q':=by
 cases b with
 |len=>refine jo (fun v h=>?_) h;cases v with
  |bytes=>exact fV (q _ _) h
  |bE=>exact fV (q _ _) h
  |ref=>exact Got.bT (fun _=>fV (q _ _)) h
  |_=>exact h
 |bytes=>refine jo (fun v h=>?_) h;cases v with
  |int=>exact j9 (q _ _) h
  |bytes=>exact q _ _ h
  |bE=>exact Got.bT (fun _=>Got.bT fun _=>fV (q _ _)) h
  |ref=>exact Got.bT (fun _=>fV (q _ _)) h
  |_=>exact h
 |bytearray=>cases vs with
  |nil=>exact fun a ha=>q _ _ (h a ha)
  |cons=>exact jo (vs:=_::_) (k:=fun x=>Got (I8 x) (Z5 H Q)) (fun v=>Got.bT fun _=>fV fun h a ha=>q _ _ (h a ha)) h
 |min=>exact HI (fun _ _=>fO fun _ _=>q _ _) h
 |max=>exact HI (fun _ _=>fO fun _ _=>q _ _) h
 |sum=>exact jo (fun _=>Got.bT fun _=>fV (q _ _)) h
 |sorted=>exact jo (fun _=>Got.bT fun _=>Got.bT fun _=>fV fun h js a b=>q _ _ (h js a b)) h
 |tuple=>exact jo (fun _=>Got.bT fun _=>fV (q _ _)) h
 |str=>exact jo (fun _=>Got.bT fun _=>fV fun h s a=>q _ _ (h s a)) h
 |all=>exact jo (fun _=>Got.bT fun _=>Got.bT fun _=>q _ _) h
theorem HP {k:aj}{v:V}{m:Nm}{vs:ah V} (h:rq k v m vs H Q):rq k v m vs H Q':=
 Got.bT (fun a=>jo fun x=>nB (fun |.mk a b c=>.mk a b (fV (q _ _) c)) (nB (Got.bT fun _=>fun |.mk a b c=>.mk a b (j9 (fV (q _ _)) c)) (Got.bT fun _=>fun |.mk a b c=>.mk a b (fV (q _ _) c)))) h
end
theorem uF {op:Co}{x y:V}{H:Hp}{k k':aj->Prop} (q:∀ b,k b->k' b) (h:yj op x y H k):yj op x y H k':=by
 cases op with
 |eq=>exact Got.bT q h
 |ne=>exact Got.bT (fun _=>q _) h
 |is_=>exact fV (q _) h
 |lH=>exact fV (q _) h
 |_=>exact fO (fun _ _=>q _) h
theorem uQ {op:Bo}{x y:V}{Q Q':V->Prop} (q:∀ v,Q v->Q' v) (h:Bz op x y Q):Bz op x y Q':=by
 cases op with
 |add=>exact fO (fun _ _=>q _) h
 |sub=>exact fO (fun _ _=>q _) h
 |bor=>exact fO (fun _ _=>j9 (q _)) h
 |shr=>exact fO (fun _ _=>j9 (fV (q _))) h
 |_=>exact h
theorem J4 {k k':ah V->Prop} (q:∀ v,k v->k' v){v:V} (h:MO k v):MO k' v:=by
 cases v with
 |tup=>exact q _ h
 |_=>exact h
theorem K_ {tup:aj}{fL:ah Nm}{v:V}{L:b5}{k k':b5->Prop} (q:∀ L,k L->k' L) (h:qK tup fL v L k):qK tup fL v L k':=
 nB (J4 fun _=>fV (q _)) (fun h=>match fL,h with
  |[],h=>h
  |[_],h=>q _ h
  |_::_::_,h=>h) h
theorem xK.bT {x:V}{H:Hp}{f:Nm}{y:V}{k k':Hp->Prop} (q:∀ v,k v->k' v):xK x H f y k->xK x H f y k'
 |.mk a b c d e f g h=>.mk a b c d e f g (q _ h)
theorem zg.bT {x:V}{H:Hp}{f:Nm}{y:V}{k k':Hp->Prop} (q:∀ v,k v->k' v):zg x H f y k->zg x H f y k'
 |.mk a b c d e f=>.mk a b c d e (q _ f)
theorem JI {k k':b5->Hp->Prop}{Q Q':PO} (f:∀ L H,k L H->k' L H) (q:∀ o L H,Q o L H->Q' o L H):∀ o L H,Mt k Q o L H->Mt k' Q' o L H
 |.next,_,_,h=>f _ _ h
 |.brk,_,_,h=>q _ _ _ h
 |.cont,_,_,h=>q _ _ _ h
 |.ret _,_,_,h=>q _ _ _ h
theorem uz {k:b5->Hp->Prop}{Q Q':PO} (q:∀ o L H,Q o L H->Q' o L H):∀ o L H,mj k Q o L H->mj k Q' o L H
 |.next,_,_,h=>h
 |.brk,_,_,h=>q _ _ _ h
 |.cont,_,_,h=>h
 |.ret _,_,_,h=>q _ _ _ h
theorem oF {k k':b5->Hp->Prop}{Q:PO} (q:∀ L H,k L H->k' L H):∀ o L H,mj k Q o L H->mj k' Q o L H
 |.next,_,_,h=>q _ _ h
 |.brk,_,_,h=>h
 |.cont,_,_,h=>q _ _ h
 |.ret _,_,_,h=>h
section
variable {C:CC} (M:Yx C)
include M
mutual
theorem cz:∀ (e:E){L:b5}{H:Hp}{Q Q':PV}{X X':PX},(∀ v H,Q v H->Q' v H)->(∀ c H,X c H->X' c H)->wE C e L H Q X->wE C e L H Q' X'
 |.none,_,_,_,_,_,_,q,_,h=>q _ _ h
 |.bool _,_,_,_,_,_,_,q,_,h=>q _ _ h
 |.int _,_,_,_,_,_,_,q,_,h=>q _ _ h
 |.cK,_,_,_,_,_,_,q,_,h=>fun s hs=>q _ _ (h s hs)
 |.bytes _,_,_,_,_,_,_,q,_,h=>q _ _ h
 |.aC _,_,_,_,_,_,_,q,_,h=>Got.bT (fun _=>q _ _) h
 |.glob _,_,_,_,_,_,_,q,_,h=>Got.bT (fun _=>q _ _) h
 |.bR _ a b,_,_,_,_,_,_,q,x,h=>cz a (fun _ _=>cz b (fun _ _=>Ld q) x) x h
 |.neg a,_,_,_,_,_,_,q,x,h=>cz a (fun _ _=>IsI.bT fun _=>q _ _) x h
 |.kL a,_,_,_,_,_,_,q,x,h=>cz a (fun _ _=>Got.bT fun _=>q _ _) x h
 |.b7 _ es,_,_,_,_,_,_,q,x,h=>Mr es q x h
 |.ite c a b,_,_,_,_,_,_,q,x,h=>cz c (fun _ _=>Got.bT fun _=>nB (cz a q x) (cz b q x)) x h
 |.cB a _ b,_,_,_,_,_,_,q,x,h=>cz a (fun _ _=>cz b (fun _ _=>uF fun _=>q _ _) x) x h
 |.KN a _ b _ c,_,_,_,_,_,_,q,x,h=>cz a (fun _ _=>cz b (fun _ _=>uF fun _=>nB (cz c (fun _ _=>uF fun _=>q _ _) x) (q _ _)) x) x h
 |.aV e _,_,_,_,_,_,_,q,x,h=>cz e (fun _ _=>Got.bT fun _=>q _ _) x h
 |.key e _,_,_,_,_,_,_,q,x,h=>cz e (fun _ _=>Got.bT fun _=>q _ _) x h
 |.idx e i,_,_,_,_,_,_,q,x,h=>cz e (fun _ _=>cz i (fun _ _=>Kt q) x) x h
 |.slice _ e lo hi,_,_,_,_,_,_,q,x,h=>cz e (fun _ _=>cz lo (fun _ _=>cz hi (fun _ _=>El q) x) x) x h
 |.list _ es,_,_,_,_,_,_,q,x,h=>jk es (fun _ _=>zA q) x h
 |.tuple es,_,_,_,_,_,_,q,x,h=>jk es (fun _ _=>fV (q _ _)) x h
 |.dict _ es,_,_,_,_,_,_,q,x,h=>jk es (fun _ _=>fV fun h a ha=>q _ _ (h a ha)) x h
 |.bL _ es,_,_,_,_,_,_,q,x,h=>jk es (fun _ _=>M _ _ _ _ _ _ _ q x) x h
 |.new _ _ es,_,_,_,_,_,_,q,x,h=>jk es (fun _ _=>Got.bT fun _ h a ha=>M _ _ _ _ _ _ _ (fun _ _=>fV (nB (fun |.mk a b c=>.mk a b (q _ _ c)) (q _ _))) x (h a ha)) x h
 |.bk e _ es,_,_,_,_,_,_,q,x,h=>cz e (fun v H h=>by
   cases e1:A6 H v with
   |none=>
    rw[e1] at h
    exact Got.bT (fun _=>fV (jk es (fun _ _=>HP q) x)) h
   |some D=>
    rw[e1] at h
    exact Got.bT (fun _=>jk es (fun _ _=>M _ _ _ _ _ _ _ q x) x) h) x h
 |.bc _ es,_,_,_,_,_,_,q,x,h=>jk es (fun _ _=>IA q) x h
 |.comp _ elt _ _ it c _,_,_,_,_,_,_,q,x,h=>cz it (fun _ _=>Got.bT fun _=>fV fun
   |.mk J h0 hd hs=>.mk J h0 (fun acc H h=>fV (zA q) (hd acc H h)) hs) x h
 |.gO es,_,_,_,_,_,_,q,x,h=>jk es (fun _ _ h s hs=>q _ _ (h s hs)) x h
 |.fmt e,_,_,_,_,_,_,q,x,h=>cz e (fun _ _=>IsI.bT fun _=>fV fun h s hs=>q _ _ (h s hs)) x h
 |.skip,_,_,_,_,_,_,_,_,h=>h
theorem jk:∀ (es:Es){L:b5}{H:Hp}{Q Q':ah V->Hp->Prop}{X X':PX},(∀ v H,Q v H->Q' v H)->(∀ c H,X c H->X' c H)->wEs C es L H Q X->wEs C es L H Q' X'
 |.nil,_,_,_,_,_,_,q,_,h=>q _ _ h
 |.cons e es,_,_,_,_,_,_,q,x,h=>cz e (fun _ _=>jk es (fun _ _=>q _ _) x) x h
theorem Mr:∀ (es:Es){k:aj}{L:b5}{H:Hp}{Q Q':PV}{X X':PX},(∀ v H,Q v H->Q' v H)->(∀ c H,X c H->X' c H)->wB C k es L H Q X->wB C k es L H Q' X'
 |.nil,_,_,_,_,_,_,_,_,_,h=>h
 |.cons e es,_,_,_,_,_,_,_,q,x,h=>by
  have ih:=fun{k L H}=>Mr es (k:=k) (L:=L) (H:=H) q x
  cases es with
  |nil=>exact cz e q x h
  |cons e2 RL=>exact cz e (fun _ _=>Got.bT fun _=>nB ih (q _ _)) x h
end
mutual
theorem Mq:∀ (s:S){rz:aj}{L:b5}{H:Hp}{Q Q':PO}{X X':fk},(∀ o L H,Q o L H->Q' o L H)->(∀ c L H,X c L H->X' c L H)->wS C rz s L H Q X->wS C rz s L H Q' X'
 |.expr e,_,_,_,_,_,_,_,q,x,h=>cz M e (fun _ _=>fV (q _ _ _)) (fun c H=>x c _ H) h
 |.bz _ e,_,_,_,_,_,_,_,q,x,h=>cz M e (fun _ _=>q _ _ _) (fun c H=>x c _ H) h
 |.jA _ e,_,_,_,_,_,_,_,q,x,h=>cz M e (fun _ _=>K_ fun _=>q _ _ _) (fun c H=>x c _ H) h
 |.setAttr e _ v,_,_,_,_,_,_,_,q,x,h=>cz M v (fun _ _=>cz M e (fun _ _=>xK.bT fun _=>q _ _ _) fun c H=>x c _ H) (fun c H=>x c _ H) h
 |.c4 e _ v,_,_,_,_,_,_,_,q,x,h=>cz M v (fun _ _=>cz M e (fun _ _=>zg.bT fun _=>q _ _ _) fun c H=>x c _ H) (fun c H=>x c _ H) h
 |.aug _ _ e,_,_,_,_,_,_,_,q,x,h=>Got.bT (fun _=>cz M e (fun _ _=>uQ fun _=>q _ _ _) fun c H=>x c _ H) h
 |.ic e _ _ v,_,_,_,_,_,_,_,q,x,h=>cz M e (fun _ _=>Got.bT fun _=>cz M v (fun _ _=>uQ fun _=>xK.bT fun _=>q _ _ _) fun c H=>x c _ H) (fun c H=>x c _ H) h
 |.sm e _ _ v,_,_,_,_,_,_,_,q,x,h=>cz M e (fun _ _=>Got.bT fun _=>cz M v (fun _ _=>uQ fun _=>zg.bT fun _=>q _ _ _) fun c H=>x c _ H) (fun c H=>x c _ H) h
 |.dp d a b,_,_,_,_,_,_,_,q,x,h=>cz M d (fun _ _=>Got.bT fun _=>nB (dG a q x) (dG b q x)) (fun c H=>x c _ H) h
 |.kD d b,_,_,_,_,_,_,_,q,x,.mk J k h0 hs=>.mk J k h0 fun k L H h=>cz M d (fun _ _=>Got.bT fun _=>nB (dG b (uz q) x) (q _ _ _)) (fun c H=>x c _ H) (hs k L H h)
 |.uE _ e b,_,_,_,_,_,_,_,q,x,h=>cz M e (fun _ _=>Got.bT fun _=>fun
   |.mk J h0 hd hs=>.mk J h0 (fun L H h=>fV (q _ _ _) (hd L H h)) fun v r L H h=>fV (dG b (uz q) x) (hs v r L H h)) (fun c H=>x c _ H) h
 |.forR _ lo hi b,_,_,_,_,_,_,_,q,x,h=>cz M lo (fun _ _=>cz M hi (fun _ _=>fun
   |.mk i j a1 a2 a3 a4 a5 a6 h=>.mk i j a1 a2 a3 a4 a5 a6 (match h with
    |.mk J h0 hd hs=>.mk J h0 (fun i L H h=>q _ _ _ (hd i L H h)) fun m i L H h=>dG b (uz q) x (hs m i L H h))) fun c H=>x c _ H) (fun c H=>x c _ H) h
 |.ret e,_,_,_,_,_,_,_,q,x,h=>cz M e (fun _ _=>q _ _ _) (fun c H=>x c _ H) h
 |.yH,_,_,_,_,_,_,_,q,_,h=>q _ _ _ h
 |.cC _ e,_,_,_,_,_,_,_,_,x,h=>cz M e (fun _ _=>j9 (x _ _ _)) (fun c H=>x c _ H) h
 |.Eh b _ _ hd,_,_,_,_,_,_,_,q,_,h=>dG b q (fun _ _ _=>fV fun h=>match hd,h with
   |.Qp _,h=>q _ _ _ h
   |.setB _ _,h=>q _ _ _ h
   |.other,h=>h) h
 |.brk,_,_,_,_,_,_,_,q,_,h=>q _ _ _ h
 |.pass,_,_,_,_,_,_,_,q,_,h=>q _ _ _ h
 |.freeze _,_,_,_,_,_,_,_,q,_,.mk a b c d h=>.mk a b c d (q _ _ _ h)
theorem dG:∀ (ss:Ss){rz:aj}{L:b5}{H:Hp}{Q Q':PO}{X X':fk},(∀ o L H,Q o L H->Q' o L H)->(∀ c L H,X c L H->X' c L H)->wSs C rz ss L H Q X->wSs C rz ss L H Q' X'
 |.nil,_,_,_,_,_,_,_,q,_,h=>q _ _ _ h
 |.cons s r,_,_,_,_,_,_,_,q,x,h=>Mq s (JI (fun _ _=>dG r q x) q) x h
end
end
theorem dj:∀ n,Yx (aM n)
 | 0=>fun _ _ _ _ _ _ _ _ _ h=>h
 |n+1=>fun f vs H Q Q' X X' q x h=>Got.bT (fun ws h=>dG (dj n) _ (fun
   |.next,_,_,h=>q _ _ h
   |.brk,_,_,h=>h
   |.cont,_,_,h=>h
   |.ret _,_,_,h=>q _ _ h) (fun c L H=>x c H) h) h
inductive dF {α β:Type} (R:α->β->Prop):ah α->ah β->Prop
 |nil:dF R [] []
 |cons {a b l m}:R a b->dF R l m->dF R (a::l) (b::m)
namespace dF
variable {α β:Type}{R R':α->β->Prop}{l:ah α}{m:ah β}
theorem bT (h:∀ a b,R a b->R' a b) (x:dF R l m):dF R' l m:=by
 induction x with
 |nil=>exact .nil
 |cons x _ ih=>exact .cons (h _ _ x) ih
theorem length (x:dF R l m):l.length=m.length:=by
 induction x with
 |nil=>rfl
 |cons _ _ ih=>exact aW Nat.succ ih
theorem append {l':ah α}{m':ah β} (x:dF R l m) (y:dF R l' m'):dF R (l++l') (m++m'):=by
 induction x with
 |nil=>exact y
 |cons x _ ih=>exact .cons x ih
theorem drop (x:dF R l m):∀ n,dF R (l.drop n) (m.drop n):=by
 induction x with
 |nil=>exact fun n=>by rw[BP,BP];exact .nil
 |cons x y ih=>exact fun n=>match n with
  | 0=>.cons x y
  |n+1=>ih n
theorem take (x:dF R l m):∀ n,dF R (l.take n) (m.take n):=by
 induction x with
 |nil=>exact fun n=>by rw[xA,xA];exact .nil
 |cons x _ ih=>exact fun n=>match n with
  | 0=>.nil
  |n+1=>.cons x (ih n)
theorem get {b:β} (x:dF R l m):∀ {i:Nat},m[i]? =aa b->∃ a,l[i]? =aa a/\R a b:=by
 induction x with
 |nil=>exact fun h=>by contradiction
 |cons x _ ih=>exact fun{i} h=>match i,h with
  | 0,h=>⟨_,rfl,eS h▸x⟩
  |_+1,h=>ih h
theorem get' {a:α} (x:dF R l m):∀ {i:Nat},l[i]? =aa a->∃ b,m[i]? =aa b/\R a b:=by
 induction x with
 |nil=>exact fun h=>by contradiction
 |cons x _ ih=>exact fun{i} h=>match i,h with
  | 0,h=>⟨_,rfl,eS h▸x⟩
  |_+1,h=>ih h
noncomputable def Un (R:α->β->Prop) (l:ah α):ah β->Prop
 |[]=>l=[]
 |b::m=>∃ a l',l=a::l'/\R a b/\dF R l' m
theorem un (x:dF R l m):Un R l m:=by
 cases x with
 |nil=>exact rfl
 |cons x y=>exact⟨_,_,rfl,x,y⟩
theorem ad3 (x:dF R l []):l=[]:=un x
theorem XJ {b:β} (x:dF R l (b::m)):∃ a l',l=a::l'/\R a b/\dF R l' m:=un x
end dF
structure Gh where
 Z:ax->aB V
 D:ax->aB ax
structure Gh.le (g g':Gh):Prop where
 z:∀ a x,g.Z a=aa x->g'.Z a=aa x
 d:∀ d a,g.D d=aa a->g'.D d=aa a
theorem Gh.le.refl (g:Gh):g.le g:=⟨fun _ _ h=>h,fun _ _ h=>h⟩
theorem Gh.le.trans {a b c:Gh} (x:a.le b) (y:b.le c):a.le c:=⟨fun _ _ h=>y.z _ _ (x.z _ _ h),fun _ _ h=>y.d _ _ (x.d _ _ h)⟩
structure Sx where
 s:aF
 g:Gh
 H:Hp
noncomputable abbrev Sx.get (σ:Sx) (a:ax):aB Obj:=σ.s.heap.get? a
noncomputable abbrev Sx.up (σ:Sx) (h:bB) (tk:Nat):Sx:=⟨{σ.s with heap:=h,toks:=tk},σ.g,σ.H⟩
inductive Ji (g:Gh) (x:V) (v:av):Prop
 |mk (a:ax) (e:v=.ref a) (z:g.Z a=aa x)
noncomputable def er (g:Gh) (v:av):V->Prop
 |.none=>v=.none
 |.bool b=>v=.bool b
 |.int i=>∃ t,v=.int i t
 |.str s=>∃ t,v=.str s t
 |.bytes b=>∃ t,v=.bytes b.toArray t
 |.ref a=>v=.ref a
 |.tup xs=>Ji g (.tup xs) v
 |.bE xs=>Ji g (.bE xs) v
 |.obj C fs=>Ji g (.obj C fs) v
theorem er.le {g g':Gh}{v:av}{x:V} (e:er g v x) (l:g.le g'):er g' v x:=by
 have k:∀ {x},Ji g x v->Ji g' x v:=fun⟨a,e,z⟩=>⟨a,e,l.z _ _ z⟩
 cases x with
 |tup=>exact k e
 |bE=>exact k e
 |obj=>exact k e
 |_=>exact e
structure Cx where
 prog:dx
 w:dQ
 az:bB
 T:Tab
inductive SeqAt (σ:Sx) (a:ax) (cls:b_) (xs:ah V):Prop
 |mk (vs:bS av) (n:Nat) (h:σ.get a=aa ⟨.type cls,au,.seq vs n,#[]⟩) (r:dF (er σ.g) vs.toList xs)
structure zj (c:Cx) (σ:Sx) (e:cI) (kv:Nm×V):Prop where
 key:∃ t,e.key=.str (dP kv.1) t
 hash:e.hash=PyData.keyHash c.w.params (dP kv.1)
 val:er σ.g e.val kv.2
inductive DictAt (c:Cx) (σ:Sx) (d:ax) (fs:ah (Nm×V)):Prop
 |mk (es:bS cI) (n:Nat) (h:σ.get d=aa ⟨.type "dict",au,.dict es n,#[]⟩) (r:dF (zj c σ) es.toList fs) (nd:(fs.map (·.1)).Nodup)
inductive iZ (c:Cx) (σ:Sx) (a:ax) (C:Cn) (fs:ah (Nm×V)):Prop
 |mk (d:ax) (h:σ.get a=aa ⟨.ref (c.T.cA C),aa d,.plain,#[]⟩) (o:σ.g.D d=aa a) (k:DictAt c σ d fs) (f:∀ p∈fs,p.1∈fieldsOf C)
inductive UL (σ:Sx) (a:ax) (bs:ah aA):Prop
 |mk (h:σ.get a=aa ⟨.type "bytearray",au,.bytearray bs.toArray 0,#[]⟩)
noncomputable def Ww (c:Cx) (σ:Sx) (a:ax):V->Prop
 |.tup xs=>SeqAt σ a "tuple" xs
 |.bE xs=>SeqAt σ a "list" xs
 |.obj C fs=>iZ c σ a C fs
 |.none=>False |.bool _=>False |.int _=>False |.str _=>False |.bytes _=>False |.ref _=>False
noncomputable def UG (c:Cx) (σ:Sx) (a:ax):Mo->Prop
 |.bE xs=>SeqAt σ a "list" xs
 |.inst C fs=>iZ c σ a C fs
 |.i_ fs=>DictAt c σ a fs
 |.ba bs=>UL σ a bs
structure Sx.Off (σ:Sx) (b:ax):Prop where
 z:σ.g.Z b=au
 h:σ.H b=au
 d:∀ a,σ.g.D b≠aa a
structure Rep (c:Cx) (σ:Sx):Prop where
 yC:∀ a x,σ.g.Z a=aa x->Ww c σ a x
 yJ:∀ a o,σ.H a=aa o->UG c σ a o
 zm:∀ a x,σ.g.Z a=aa x->σ.H a=au
 dz:∀ d a,σ.g.D d=aa a->σ.g.Z d=au/\σ.H d=au
 Js:∀ d a,σ.g.D d=aa a->∃ o,σ.get d=aa o
 stays:c.az.StaysIn σ.s.heap
 EV:∀ b o,σ.H b=aa o->c.az.get? b=au
 newD:∀ b a,σ.g.D b=aa a->c.az.get? b=au
section
variable {c:Cx}{σ τ:Sx}
structure Cb (σ τ:Sx) (a:ax):Prop where
 l:σ.g.le τ.g
 at_:∀ o,σ.get a=aa o->τ.get a=aa o
 d:∀ d o,σ.g.D d=aa a->σ.get d=aa o->τ.get d=aa o
theorem SeqAt.bT {a:ax}{cl:b_}{xs:ah V} (z:SeqAt σ a cl xs) (k:Cb σ τ a):SeqAt τ a cl xs:=match z with
 |.mk vs n h r=>.mk vs n (k.at_ _ h) (r.bT fun _ _ e=>e.le k.l)
theorem DictAt.bT {a:ax}{fs:ah (Nm×V)} (z:DictAt c σ a fs) (l:σ.g.le τ.g) (k:∀ o,σ.get a=aa o->τ.get a=aa o):DictAt c τ a fs:=match z with
 |.mk es n h r nd=>.mk es n (k _ h) (r.bT fun _ _ e=>⟨e.key,e.hash,e.val.le l⟩) nd
theorem iZ.bT {a:ax}{C:Cn}{fs:ah (Nm×V)} (z:iZ c σ a C fs) (k:Cb σ τ a):iZ c τ a C fs:=match z with
 |.mk d h o q f=>.mk d (k.at_ _ h) (k.l.d _ _ o) (q.bT k.l fun x=>k.d d x o) f
theorem Ww.bT {a:ax}{x:V} (z:Ww c σ a x) (k:Cb σ τ a):Ww c τ a x:=by
 cases x with
 |tup=>exact SeqAt.bT z k
 |bE=>exact SeqAt.bT z k
 |obj=>exact iZ.bT z k
 |_=>exact z
theorem UG.bT {a:ax}{x:Mo} (z:UG c σ a x) (k:Cb σ τ a):UG c τ a x:=by
 cases x with
 |bE=>exact SeqAt.bT z k
 |inst=>exact iZ.bT z k
 |i_=>exact DictAt.bT z k.l k.at_
 |ba=>exact match z with |.mk h=>.mk (k.at_ _ h)
theorem Ww.there {a:ax}{x:V} (z:Ww c σ a x):∃ o,σ.get a=aa o:=by
 have s:∀ {cl xs},SeqAt σ a cl xs->∃ o,σ.get a=aa o:=fun⟨_,_,h,_⟩=>⟨_,h⟩
 cases x with
 |tup=>exact s z
 |bE=>exact s z
 |obj=>cases z;exact⟨_,‹_›⟩
 |_=>exact z.elim
theorem UG.there {a:ax}{x:Mo} (z:UG c σ a x):∃ o,σ.get a=aa o:=by
 cases x with
 |bE=>cases z;exact⟨_,‹_›⟩
 |inst=>cases z;exact⟨_,‹_›⟩
 |i_=>cases z;exact⟨_,‹_›⟩
 |ba=>cases z;exact⟨_,‹_›⟩
theorem lj {α:Type}{o:aB α} (h:∀ x,o≠aa x):o=au:=match o,h with
 |none,_=>rfl
 |some x,h=>absurd rfl (h x)
theorem bP {α:Type}{o:aB α}{x:α}{p:Prop} (h:o=au) (k:o=aa x):p:=by rw[h] at k;contradiction
theorem Rep.fresh (R:Rep c σ){b:ax} (e:σ.get b=au):σ.Off b where
 z:=lj fun x h=>(R.yC b x h).there.elim fun _=>bP e
 h:=lj fun x h=>(R.yJ b x h).there.elim fun _=>bP e
 d:=fun x h=>(R.Js b x h).elim fun _=>bP e
theorem Rep.keeps (R:Rep c σ){s':aF} (k:∀ b o,σ.get b=aa o->¬ σ.Off b->s'.heap.get? b=aa o) (st:c.az.StaysIn s'.heap):Rep c ⟨s',σ.g,σ.H⟩:=
 have kd:∀ a d o,σ.g.D d=aa a->σ.get d=aa o->s'.heap.get? d=aa o:=fun a d o q h=>k d o h fun f=>f.d a q
 {R with
  yC:=fun a x e=>(R.yC a x e).bT ⟨.refl _,fun o h=>k a o h fun f=>bP f.z e,kd a⟩
  yJ:=fun a x e=>(R.yJ a x e).bT ⟨.refl _,fun o h=>k a o h fun f=>bP f.h e,kd a⟩
  Js:=fun d a q=>(R.Js d a q).elim fun o h=>⟨o,kd a d o q h⟩
  stays:=st}
theorem Rep.az (R:Rep c σ){a:ax} (h:σ.get a=au):c.az.get? a=au:=lj fun o e=>bP h (R.stays a o e)
noncomputable def Gh.yF (g:Gh) (a:ax) (x:V):Gh:={g with Z:=fun b=>if b=a then aa x else g.Z b}
noncomputable def Gh.Oi (g:Gh) (d a:ax):Gh:={g with D:=fun b=>if b=d then aa a else g.D b}
theorem Gh.sV {g:Gh}{a b:ax}{x:V} (n:b≠a):(g.yF a x).Z b=g.Z b:=bb n
theorem Gh.Eo {g:Gh}{a b d:ax} (n:b≠d):(g.Oi d a).D b=g.D b:=bb n
theorem Gh.ll {g:Gh}{a:ax}{x:V} (e:g.Z a=au):g.le (g.yF a x):=
 ⟨fun b y h=>(sV fun q:b=a=>bP e (q▸h)).trans h,fun _ _ h=>h⟩
theorem Gh.MU {g:Gh}{a d:ax} (e:∀ a,g.D d≠aa a):g.le (g.Oi d a):=
 ⟨fun _ _ h=>h,fun b y h=>(Eo fun q:b=d=>e y (q▸h)).trans h⟩
theorem c7 {α:Type}{p:Prop} [cN p] {a b c:α} (h:(if p then a else b)=c){q:Prop} (x:p->a=c->q) (y:¬ p->b=c->q):q:=
 if hp:p then x hp ((a8 hp).symm.trans h) else y hp ((bb hp).symm.trans h)
theorem Hp.zY {H:Hp}{a b:ax} (o:Mo) (e:b≠a):(H.set a o) b=H b:=bb e
theorem Hp.zH {H:Hp}{a b:ax} (e:b≠a):(H.drop a) b=H b:=bb e
theorem Nd (H:Hp) (a:ax):∀ b o,H.drop a b=aa o->b≠a/\H b=aa o:=fun b o e=>c7 e (fun _ h=>by contradiction) fun n h=>⟨n,h⟩
theorem uC {H:Hp}{a:ax} (h:H a=au):H.drop a=H:=funext fun b=>if e:b=a then(a8 e).trans (e▸h.symm) else bb e
structure Put (c:Cx) (σ:Sx) (s':aF) (a:ax):Prop where
 z:σ.g.Z a=au
 d:∀ b,σ.g.D a≠aa b
 b:c.az.get? a=au
 k:∀ b o,b≠a->σ.g.D b≠aa a->σ.get b=aa o->s'.heap.get? b=aa o
 th:∀ b,σ.g.D b=aa a->∃ o,s'.heap.get? b=aa o
theorem Rep.put (R:Rep c σ){s':aF}{a:ax}{o:Mo} (p:Put c σ s' a) (m:UG c ⟨s',σ.g,σ.H.set a o⟩ a o):Rep c ⟨s',σ.g,σ.H.set a o⟩:=
 have kf:∀ {b},b≠a->(∀ x,σ.g.D b≠aa x)->Cb σ ⟨s',σ.g,σ.H.set a o⟩ b:=fun{b} n nd=>⟨.refl _,fun x h=>p.k b x n (nd a) h,fun d x q h=>p.k d x (fun e=>p.d b (e▸q)) (fun e=>n (eS (q.symm.trans e))) h⟩
 have dn:∀ {b x},σ.g.Z b=aa x->∀ y,σ.g.D b≠aa y:=fun h y q=>bP (R.dz _ _ q).1 h
 {yC:=fun b x e=>(R.yC b x e).bT (kf (fun q=>bP p.z (q▸e)) (dn e))
  yJ:=fun b x e=>c7 e (fun q h=>by cases h;exact q▸m) fun n h=>(R.yJ b x h).bT (kf n fun y q=>bP (R.dz _ _ q).2 h)
  zm:=fun b x e=>(Hp.zY o fun q=>bP p.z (q▸e)).trans (R.zm b x e)
  dz:=fun d b q=>⟨(R.dz d b q).1,(Hp.zY o fun e:d=a=>p.d b (e▸q)).trans (R.dz d b q).2⟩
  Js:=fun d b q=>if e:b=a then p.th d (e▸q) else(R.Js d b q).elim fun o h=>⟨o,p.k d o (fun e=>p.d b (e▸q)) (fun w=>e (eS (q.symm.trans w))) h⟩
  stays:=fun b o h=>p.k b o (fun e=>bP p.b (e▸h)) (fun q=>bP (R.newD _ _ q) h) (R.stays b o h)
  EV:=fun b o e=>c7 e (fun q _=>q▸p.b) fun _ h=>R.EV b o h
  newD:=R.newD}
theorem Rep.JS (R:Rep c σ){s':aF}{a:ax}{x:V} (z:σ.g.Z a=au) (d:∀ b,σ.g.D a≠aa b) (k:∀ b o,σ.get b=aa o->s'.heap.get? b=aa o)
  (m:Ww c ⟨s',σ.g.yF a x,σ.H.drop a⟩ a x):Rep c ⟨s',σ.g.yF a x,σ.H.drop a⟩:=
 have kf:∀ {b},Cb σ ⟨s',σ.g.yF a x,σ.H.drop a⟩ b:=⟨Gh.ll z,k _,fun d x _=>k d x⟩
 {yC:=fun b y e=>c7 e (fun q h=>by cases h;exact q▸m) fun _ h=>(R.yC b y h).bT kf
  yJ:=fun b o e=>(R.yJ b o (Nd _ _ b o e).2).bT kf
  zm:=fun b y e=>c7 e (fun q _=>a8 q) fun n h=>(bb n).trans (R.zm b y h)
  dz:=fun w b q=>have n:w≠a:=fun e=>d b (e▸q);⟨(Gh.sV n).trans (R.dz w b q).1,(Hp.zH n).trans (R.dz w b q).2⟩
  Js:=fun w b q=>(R.Js w b q).elim fun o h=>⟨o,k w o h⟩
  stays:=fun b o h=>k b o (R.stays b o h)
  EV:=fun b o e=>R.EV b o (Nd _ _ b o e).2
  newD:=R.newD}
theorem Rep.putD (R:Rep c σ){s':aF}{d a:ax} (f:σ.get d=au) (k:∀ b o,σ.get b=aa o->s'.heap.get? b=aa o) (t:∃ o,s'.heap.get? d=aa o):Rep c ⟨s',σ.g.Oi d a,σ.H⟩:=
 have F:=R.fresh f
 have kf:∀ {b},Cb σ ⟨s',σ.g.Oi d a,σ.H⟩ b:=⟨Gh.MU F.d,k _,fun d x _=>k d x⟩
 {yC:=fun b y e=>(R.yC b y e).bT kf
  yJ:=fun b o e=>(R.yJ b o e).bT kf
  zm:=R.zm
  dz:=fun w b q=>c7 (q:=σ.g.Z w=au/\σ.H w=au) q (fun e _=>e▸⟨F.z,F.h⟩) fun _ q=>R.dz w b q
  Js:=fun w b q=>c7 q (fun e _=>e▸t) fun _ q=>(R.Js w b q).elim fun o h=>⟨o,k w o h⟩
  stays:=fun b o h=>k b o (R.stays b o h)
  EV:=R.EV
  newD:=fun w b q=>c7 q (fun e _=>e▸R.az f) fun _ q=>R.newD w b q}
end
structure sM (frs:ah ax) (b:ax) (o:Obj) (h':bB):Prop where
 k:b∉frs->h'.get? b=aa o
 slots:∃ sl,h'.get? b=aa {o with slots:=sl}
theorem sM.refl {frs:ah ax}{h:bB}{b:ax}{o:Obj} (e:h.get? b=aa o):sM frs b o h:=⟨fun _=>e,o.slots,e⟩
structure Rel (c:Cx) (frs own:ah ax) (σ τ:Sx):Prop where
 le:σ.g.le τ.g
 rep:Rep c τ
 keep:∀ b o,σ.get b=aa o->σ.Off b->b∉own->sM frs b o τ.s.heap
 off:∀ b o,σ.get b=aa o->σ.Off b->τ.Off b
 gens:τ.s.gens=σ.s.gens
 drawn:τ.s.drawn=σ.s.drawn
 os:τ.s.os=σ.s.os
section
variable {c:Cx}{frs own:ah ax}{σ τ ρ:Sx}
theorem Rel.refl (R:Rep c σ):Rel c frs own σ σ:=⟨.refl _,R,fun _ _ e _ _=>.refl e,fun _ _ _ f=>f,rfl,rfl,rfl⟩
theorem sM.trans {h h':bB}{b:ax}{o:Obj} (x:sM frs b o h) (y:∀ o,h.get? b=aa o->sM frs b o h'):sM frs b o h':=
 ⟨fun m=>(y o (x.k m)).k m,x.slots.elim fun _ e=>(y _ e).slots⟩
theorem Rel.trans (x:Rel c frs own σ τ) (y:Rel c frs own τ ρ) (no:∀ b∈own,ρ.Off b):Rel c frs own σ ρ where
 le:=x.le.trans y.le
 rep:=y.rep
 keep b o e nf nb:=(x.keep b o e nf nb).trans fun o' e'=>y.keep b o' e' (x.off b o e nf) nb
 off b o e nf:=if nb:b∈own then no b nb else(x.keep b o e nf nb).slots.elim fun _ e'=>y.off b _ e' (x.off b o e nf)
 gens:=y.gens.trans x.gens
 drawn:=y.drawn.trans x.drawn
 os:=y.os.trans x.os
theorem Rel.wide (x:Rel c frs [] σ τ):Rel c frs own σ τ:={x with keep:=fun b o e nf _=>x.keep b o e nf nofun}
theorem Rel.turn (R:Rep c σ) (r:Rel c frs own σ τ){L:ah ax}{h':bB}{tk:Nat} (na:∀ a∈L,σ.get a=au) (nf:∀ a∈L,τ.Off a) (k:∀ b o,b∉L->τ.get b=aa o->h'.get? b=aa o):Rel c frs own σ (τ.up h' tk):=
 have ne:∀ {b o},σ.get b=aa o->b∉L:=fun e q=>bP (na _ q) e
 {r with
  rep:=r.rep.keeps (fun b o e f=>k b o (fun q=>f (nf b q)) e) fun b o e=>k b o (fun q=>bP (R.az (na b q)) e) (r.rep.stays b o e)
  keep:=fun b o e f nb=>(r.keep b o e f nb).trans fun o' e'=>.refl (k b o' (ne e) e')
  off:=fun b o e f=>have w:=r.off b o e f;⟨w.z,w.h,w.d⟩}
theorem Rel.grow (R:Rep c σ){h':bB}{tk:Nat} (k:∀ b o,σ.get b=aa o->h'.get? b=aa o):Rel c frs own σ (σ.up h' tk):=
 .turn R (.refl R) (L:=[]) nofun nofun fun b o _=>k b o
theorem Rel.tok (R:Rep c σ){tk:Nat}:Rel c frs own σ (σ.up σ.s.heap tk):=.grow R fun _ _ e=>e
theorem Rel.put (r:Rel c frs own σ τ){h':bB}{tk:Nat}{a:ax}{o:Mo} (no:∀ o,σ.get a=aa o->¬ σ.Off a) (ud:∀ b o,σ.get b=aa o->σ.Off b->∀ x,τ.g.D b≠aa x) (p:Put c τ (τ.up h' tk).s a)
  (m:UG c ⟨(τ.up h' tk).s,τ.g,τ.H.set a o⟩ a o):Rel c frs own σ ⟨(τ.up h' tk).s,τ.g,τ.H.set a o⟩:=
 {r with
  rep:=r.rep.put p m
  keep:=fun b x e f nb=>(r.keep b x e f nb).trans fun x' e'=>.refl (p.k b x' (fun q=>no x (q▸e) (q▸f)) (ud b x e f a) e')
  off:=fun b x e f=>have w:=r.off b x e f;⟨w.z,(Hp.zY o fun q:b=a=>no x (q▸e) (q▸f)).trans w.h,w.d⟩}
theorem Rel.Ox (r:Rel c frs own σ τ):∀ b o,σ.get b=aa o->σ.Off b->∀ x,τ.g.D b≠aa x:=fun b o e f=>(r.off b o e f).d
end
noncomputable def exP:{F:av->fj×Pos->aj // ∀ v,Builtin.Bytes.exported v=stack>>=fun l=>Pure.pure (l.any (F v))}:=⟨_,fun _=>rfl⟩
def rn (c:fj):Prop:=∀ v p,exP.1 v (c,p)=ao
def NP (l:ah (fj×Pos)):Prop:=∀ x∈l,∀ v,exP.1 v x=ao
def h_ {α:Type} (M:eE) (A:bF) (t:Sem α) (Q:α->aF->Prop) (E:av->aF->Prop) (s:aF):Prop:=
 ∀ Γ p,Γ.In A->rn Γ.code->NP Γ.below->Sem.wp M Γ t (fun a _ s'=>Q a s') (fun e _ s'=>E e s') p s
def iI (M:eE) (A:bF) (c:fj) (R:fq->aF->Prop) (s:aF):Prop:=
 ∀ Γ p,Γ.code=c->Γ.Below A->NP Γ.below->wpCode M Γ R p s
section
variable {α β:Type}{M:eE}{A:bF}{E:av->aF->Prop}{s:aF}
theorem fW {c:Prop} [cN c] {a b:Sem α}{Q:α->aF->Prop} (hc:¬ c) (h:aO M A b Q E s):aO M A (if c then a else b) Q E s:=(bb hc).symm▸h
theorem Ut {c:Prop} [cN c] {a b:Sem α}{Q:α->aF->Prop} (hc:c) (h:aO M A a Q E s):aO M A (if c then a else b) Q E s:=(a8 hc).symm▸h
theorem pZ {m:Sem α}{a:α}{f:α->Sem β}{Q:β->aF->Prop} (e:m=Pure.pure a) (h:aO M A (f a) Q E s):aO M A (m>>=f) Q E s:=e▸bf (bW h)
end
namespace I
section
variable {α β:Type}{M:eE}{A:bF}{E:av->aF->Prop}{s:aF}{env:Env}
theorem any {t:Sem α}{Q:α->aF->Prop} (h:aO M A t Q E s):h_ M A t Q E s:=fun Γ p hΓ _ _=>h Γ p hΓ
theorem anyC {c:fj}{R:fq->aF->Prop} (h:codeAny M A c R s):iI M A c R s:=fun Γ p hc hΓ _=>h Γ p hc hΓ
theorem pure {a:α}{Q:α->aF->Prop} (h:Q a s):h_ M A (Pure.pure a) Q E s:=any (bW h)
theorem bT {t:Sem α}{Q Q':α->aF->Prop}{E':av->aF->Prop} (h:h_ M A t Q E s) (hQ:∀ a s,Q a s->Q' a s) (hE:∀ e s,E e s->E' e s):h_ M A t Q' E' s:=
 fun Γ p hΓ h1 h2=>BJ M Γ t (fun a _ s=>hQ a s) (fun e _ s=>hE e s) p s (h Γ p hΓ h1 h2)
theorem bind {m:Sem α}{f:α->Sem β}{Q:β->aF->Prop} (h:h_ M A m (fun a s'=>h_ M A (f a) Q E s') E s):h_ M A (m>>=f) Q E s:=fun Γ p hΓ h1 h2=>by
 rw[SY]
 exact BJ M Γ m (fun a p' s' h'=>h' Γ p' hΓ h1 h2) (fun _ _ _ h'=>h') p s (h Γ p hΓ h1 h2)
theorem leaf {m:Sem α}{f:α->Sem β}{Q:β->aF->Prop} (h:aO M A m (fun a s'=>h_ M A (f a) Q E s') E s):h_ M A (m>>=f) Q E s:=bind (any h)
theorem standAt {pos:Pos}{Q:cR->aF->Prop} (h:Q () s):h_ M A (PySem.standAt pos) Q E s:=any (BO h)
theorem cY {pos:Pos}{f:cR->Sem β}{Q:β->aF->Prop} (h:h_ M A (f ()) Q E s):h_ M A (PySem.standAt pos>>=f) Q E s:=bind (standAt h)
theorem holding {vs:ah av}{m:Sem α}{Q:α->aF->Prop} (h:h_ M A m Q E s):h_ M A (PySem.holding vs m) Q E s:=
 fun Γ p hΓ h1 h2=>by rw[Sem.wp_holding];exact h Γ p hΓ h1 h2
theorem operate {vs:ah av}{m:Sem av}{Q:av->aF->Prop} (h:h_ M A m Q E s):h_ M A (PySem.operate vs m) Q E s:=
 fun Γ p hΓ h1 h2=>by rw[Sem.wp_operate];exact h Γ p hΓ h1 h2
theorem keep {vs:ah av}{m:Sem α}{Q:α->aF->Prop} (h:h_ M A m Q E s):h_ M A (m.keep vs) Q E s:=
 fun Γ p hΓ h1 h2=>by rw[Sem.wp_keep];exact h Γ p hΓ h1 h2
theorem onRaise {m:Sem α}{k:av->Sem cR}{Q:α->aF->Prop} (h:h_ M A m Q (fun e s'=>h_ M A (k e) (fun _ JQ=>E e JQ) E s') s):h_ M A (m.onRaise k) Q E s:=fun Γ p hΓ h1 h2=>by
 rw[Sem.wp_onRaise]
 exact BJ M Γ m (fun _ _ _ h'=>h') (fun e p' s' h'=>h' Γ p' hΓ h1 h2) p s (h Γ p hΓ h1 h2)
theorem attempt {m:Sem α}{Q:Except av α->aF->Prop} (h:h_ M A m (fun a=>Q (.ok a)) (fun e=>Q (.error e)) s):h_ M A m.attempt Q E s:=fun Γ p hΓ h1 h2=>by
 rw[Sem.wp_attempt];exact h Γ p hΓ h1 h2
theorem HY {c:Prop} [cN c] {a b:Sem α}{Q:α->aF->Prop} (hc:¬ c) (h:h_ M A b Q E s):h_ M A (if c then a else b) Q E s:=(bb hc).symm▸h
theorem ifT {c:Prop} [cN c] {a b:Sem α}{Q:α->aF->Prop} (hc:c) (h:h_ M A a Q E s):h_ M A (if c then a else b) Q E s:=(a8 hc).symm▸h
theorem eq {m:Sem α}{a:α}{f:α->Sem β}{Q:β->aF->Prop} (e:m=Pure.pure a) (h:h_ M A (f a) Q E s):h_ M A (m>>=f) Q E s:=e▸bind (pure h)
theorem point {Q:cR->aF->Prop} (h:Q () s):h_ M A PySem.point Q E s:=any (wpAny_point h)
theorem uD {Γ:Ctx}{p:Pos} (h1:rn Γ.code) (h2:NP Γ.below):NP ((Γ.code,p)::Γ.below):=fun x hx v=>(dT.mp hx).elim (fun e=>e▸h1 v p) fun hx=>h2 x hx v
theorem pN {c:fj}{R R':fq->aF->Prop} (h:iI M A c R s) (hR:∀ r s,R r s->R' r s):iI M A c R' s:=fun Γ p hc hΓ hg=>wpCode_mono hR (h Γ p hc hΓ hg)
theorem run {c:fj}{h:aB av}{Q:iR->aF->Prop} (hnb:h≠aa byPass) (hc:iI M (A.mark h) c (fun r s'=>match r with |.ok f=>Q f s' |.error e=>E e s') s):
  h_ M A (PySem.run c h) Q E s:=fun Γ p hΓ h1 h2=>by rw[Sem.wp_run];exact hc _ p rfl (hΓ.enter c h p hnb) (uD h1 h2)
theorem runValue {c:fj}{Q:av->aF->Prop} (hc:iI M A c (fun r s'=>match r with |.ok (.ret v)=>Q v s' |.ok _=>False |.error e=>E e s') s):h_ M A (PySem.runValue c) Q E s:=
 fun Γ p hΓ h1 h2=>by rw[Sem.wp_runValue];exact hc _ p rfl (hΓ.enter c au p (by intro x;contradiction)) (uD h1 h2)
theorem call {f:av}{pos:ah av}{kw:ah (Str×av)}{Q:av->aF->Prop} (hc:iI M A (.call f ⟨pos,kw⟩) (fun r s'=>match r with |.ok (.ret v)=>Q v s' |.ok _=>False |.error e=>E e s') s):
  h_ M A (PySem.call f pos kw) Q E s:=runValue hc
theorem runOwn {c:fj}{h:aB av}{Q:iR->aF->Prop} (hnb:h≠aa byPass)
  (hc:iI M (A.mark h) c (fun r s'=>match r with |.ok f=>Q f s' |.error e=>cameBackBy M A env E e s') s):h_ M A (PySem.runOwn c env h) Q E s:=by
 unfold PySem.runOwn
 exact onRaise (bT (run hnb hc) (fun _ _ z=>z) fun _ _ z=>any z)
theorem tree {c:fj}{R:fq->aF->Prop} (hd:rn c)
  (h:h_ M (A.under c) (M.den c) (fun fin s'=>match fin with |.done f=>R (.ok f) s' |.again c'=>c'.quiet=ag/\iI M A c' R s') (fun e s'=>R (.error e) s') s):iI M A c R s:=fun Γ p hc hΓ hg=>by
 rw[wpCode_iff_wp,hc]
 refine BJ M Γ _ (fun fin p' s' h'=>?_) (fun _ _ _ h'=>h') p s (h Γ p (hc▸hΓ.in) (hc▸hd) hg)
 cases fin with
 |done f=>exact h'
 |again c'=>exact⟨h'.1,h'.2 (Γ.goto c') p' rfl (hΓ.goto c') hg⟩
theorem loop {c:fj}{R:fq->aF->Prop} (hq:c.quiet=ag) (hd:rn c) (J:Nat->aF->Prop)
  (turn:∀ n s,J n s->h_ M (A.under c) (M.den c) (fun fin s'=>match fin with |.done f=>R (.ok f) s' |.again c'=>c'=c/\∃ m,m < n/\J m s') (fun e s'=>R (.error e) s') s)
  (n:Nat) (h:J n s):iI M A c R s:=by
 induction n using Nat.strongRecOn generalizing s with
 |ind n ih=>
  refine tree hd (bT (turn n s h) (fun fin s' hf=>?_) fun _ _ h'=>h')
  cases fin with
  |done f=>exact hf
  |again c'=>obtain⟨rfl,m,hm,hI⟩:=hf;exact⟨hq,ih m hm hI⟩
theorem release {vs keep:ah av}{Q:cR->aF->Prop} (h:Q () s):h_ M A (PySem.release vs keep) Q E s:=any (wpAny_release' h)
theorem bindName {x:Str}{v:av}{Q:cR->aF->Prop} (h:aO M A (storeName env x v) Q E s):h_ M A (PySem.bindName env x v) Q E s:=any (Tz h)
theorem exported {v:av}{Q:aj->aF->Prop} (h:Q ao s):h_ M A (Builtin.Bytes.exported v) Q E s:=fun Γ p hΓ h1 h2=>by
 rw[exP.2 v,SY]
 show Q _ s
 rw[T7.mpr fun x hx=>uY (uD (p:=p) h1 h2 x hx v)]
 exact h
end
end I
namespace I
section
variable {M:eE}{A:bF}{E:av->aF->Prop}{s:aF}{env:Env}{pos:Pos}
theorem evalArgs_plain {f:av}{x:Sem av}{rest:ah (aj×Sem av)}{Q:Args->aF->Prop} (h:h_ M A (spliced ((ao,x)::rest)) (fun vs s'=>Q ⟨vs,[]⟩ s') E s):h_ M A (evalArgs f ag ((ao,x)::rest) []) Q E s:=by
 unfold evalArgs
 show h_ M A (spliced ((ao,x)::rest)>>=_) Q E s
 refine bind (bT h (fun vs s' h'=>?_) fun _ _ x=>x)
 refine holding ?_
 exact bind (pure (bind (pure (pure h'))))
theorem abO {α:Type}{c:Prop} [cN c] {a b:Sem α}{Q:α->aF->Prop} (h:h_ M A a Q E s) (h':h_ M A b Q E s):h_ M A (if c then a else b) Q E s:=by
 by_cases x:c
 ·rw[a8 x];exact h
 ·rw[bb x];exact h'
theorem callWith_of {f:av} {first:ah av}{Q:av->aF->Prop}{P:bB->Prop}{args:ah (aj×Sem av)} (Kz:args.any (·.1)=ao)
  (hk:∀ h,P h->∃ k,(k=Keeper.frame∨k=Keeper.machine∨k=Keeper.boundFrame)/\Looks M h (keeperOf f) k)
  (h:h_ M A (evalArgs f ag args []) (fun a s₁=>P s₁.heap/\h_ M A (PySem.call f (first++a.pos) a.kw) Q E s₁) E s):h_ M A (callWith pos f first args []) Q E s:=by
 unfold callWith
 refine bind (holding (bT h (fun a s₁ h₁=>bind (standAt ?_)) fun _ _ x=>x))
 obtain⟨k,Zp,L⟩:=hk _ h₁.1
 rw[Kz]
 refine bind (any (L.here ?_))
 have tail:∀ {t:Sem av},h_ M A t Q E s₁->h_ M A (t>>=fun r=>PySem.holding [r] PySem.point>>=fun _=>Pure.pure r) Q E s₁:=
  fun ht=>bind (bT ht (fun r s₂ hr=>bind (holding (point (pure hr)))) fun _ _ x=>x)
 have marked (mk:av):h_ M A (callMarked mk f (first++a.pos) a.kw) Q E s₁:=by unfold callMarked;exact keep h₁.2
 rcases Zp with rfl |rfl |rfl
 ·exact abO (tail h₁.2) (tail (marked _))
 ·exact tail h₁.2
 ·exact abO (tail h₁.2) (tail (marked _))
theorem callWith_builtin {f:av} {first:ah av}{Q:av->aF->Prop}{args:ah (aj×Sem av)} (Kz:args.any (·.1)=ao) (hf:∀ a,f≠.ref a)
  (h:h_ M A (evalArgs f ag args []) (fun a s₁=>h_ M A (PySem.call f (first++a.pos) a.kw) Q E s₁) E s):h_ M A (callWith pos f first args []) Q E s:=by
 unfold callWith
 refine bind (holding (bT h (fun a s₁ h₁=>bind (standAt ?_)) fun _ _ x=>x))
 rw[Kz]
 refine bind ?_
 have hk:keeperOf f=Pure.pure .machine:=by cases f<;>first |rfl |exact absurd rfl (hf _)
 rw[hk]
 exact pure (bind (bT h₁ (fun r s₂ hr=>bind (holding (point (pure hr)))) fun _ _ x=>x))
end
end I
namespace I
section
variable {prog:dx}{w:dQ}{A:bF}{C:ax}{R:fq->aF->Prop}{h:bB}{g:bS GenState}{d:Drawn}{t:Nat}{os:iQ}
theorem Eg (C:ax) (rest:ah av):Builtin.«type.__call__» ⟨.ref C::rest,[]⟩=(do
  if (<- mroOf (.ref C)).isEmpty then rule "type.call.half-made";raiseError "TypeError" s!"cannot create '{← typeName (.ref C)}' instances"
  let new <- match <- Bind.madeBy (.ref C) with
   |some id=>Pure.pure (.builtin id)
   |none=>getAttr (.ref C) "__new__"
  let obj <- PySem.holding [new] (PySem.call new (.ref C::rest) [])
  if !(<- isInstance obj (.ref C)) then rule "type.call.new-gave-other-type";return <- ret obj
  match <- PySem.holding [obj] (callSpecial? obj "__init__" rest []) with
  |none=>ret obj
  |some r=>
   if r != .none then
    rule "type.call.init-returned-value"
    raiseError "TypeError" s!"__init__() should return None, not '{← typeNameOf r}'"
   ret obj):=rfl
theorem builtin {id:b_}{args:Args}{b:sr}{s:aF} (hb:entryFor table id=aa b) (hd:rn (.builtin id args))
  (h:h_ (model prog w) (A.under (.builtin id args)) (b args) (fun fin s'=>match fin with |.done f=>R (.ok f) s' |.again c'=>c'.quiet=ag/\iI (model prog w) A c' R s') (fun e s'=>R (.error e) s') s):
  iI (model prog w) A (.builtin id args) R s:=by
 refine tree hd ?_
 show h_ _ _ (match entryFor table id with |some b=>b args |none=>unsupported ((withoutEnding? id "#data").getD id)) _ _ s
 rw[hb];exact h
theorem pF {id:b_}{v:av}{r:ah av}{kw:ah (Str×av)} (h:Builtin.Bytes.decodersThatHold.contains id=ao) (e:∀ w p,exP.1 w (.builtin id ⟨v::r,kw⟩,p)=(Builtin.Bytes.sameRef v w&&Builtin.Bytes.decodersThatHold.contains id)):rn (.builtin id ⟨v::r,kw⟩):=
 fun w p=>(e w p).trans (by rw[h];exact L4 _)
theorem make_core {rest:ah av}{init:av} (Y:Makes (model prog w) h C) (hi:Looks (model prog w) h (typeLookup (.ref C) "__init__") (aa init))
  (hb:∀ self,Looks (model prog w) h (bindSpecial init self) (init,[self])) (Dx:(aa init != aa (Value.builtin "object.__init__"))=ag)
  (hq:iI (model prog w) (A.under (.builtin "type.__call__" ⟨.ref C::rest,[]⟩)) (.call init ⟨.ref (h.objs.size+1)::rest,[]⟩) (InitBack (h.objs.size+1) R) ⟨(h.push emptyDict).push (instObj C h.objs.size),g,d,t,os⟩):
  iI (model prog w) A (.call (.ref C) ⟨rest,[]⟩) R ⟨h,g,d,t,os⟩:=by
 have Y':=Y
 obtain⟨⟨oc,od,cd,sl,hC,e1,e2,e4⟩,made,az,self,top,acz,typ⟩:=Y
 --the class is called:type.ac0
 have p1:∀ A' E,aO (model prog w) A' (callAny (.ref C) ⟨rest,[]⟩) (fun fin s'=>fin=.again (.call (.builtin "type.__call__") ⟨.ref C::rest,[]⟩)/\s'=⟨h,g,d,t,os⟩) E ⟨h,g,d,t,os⟩:=by
  intro A' E
  refine nd_load hC ?_
  show aO _ _ (callAny.viaDunder (.ref C) _) _ _ _
  unfold callAny.viaDunder
  refine bf (acz.at ?_)
  dsimp only
  rw[tc_bind]
  exact bf (bW (bf (bW (bW ⟨rfl,rfl⟩))))
 refine tree (fun _ _=>rfl) (bT (any (p1 _ _)) (fun fin s' z=>?_) fun _ _ z=>z)
 obtain⟨rfl,rfl⟩:=z
 refine⟨rfl,tree (fun _ _=>rfl) ?_⟩
 show h_ _ _ (do checkBuiltinCall "type.__call__" ⟨.ref C::rest,[]⟩;again (.builtin "type.__call__" ⟨.ref C::rest,[]⟩)) _ _ _
 refine bind (any (check_slot tc_kind tc_split typ (tc_args _ _ _) ?_))
 refine pure ⟨Ug _ (by decide+kernel),builtin entry_typeCall (pF (by decide+kernel) fun _ _=>rfl) ?_⟩
 rw[Eg]
 have hm:Looks (model prog w) h (mroOf (.ref C)) cd.mro:=((Lx (part:=none) hC).andThen .now).andThen .now
 refine bind (any (hm.here ?_))
 rw[e4]
 simp only[Ue,if_false]
 refine bind (any (made.here ?_))
 refine bind (pure ?_)
 refine bind (holding (call (anyC (new_K Y' hi (.inl Dx) ?_))))
 have k:∀ b o,h.get? b=aa o->((h.push emptyDict).push (instObj C h.objs.size)).get? b=aa o:=fun b o e=>jN _ (jN _ e)
 have hx:((h.push emptyDict).push (instObj C h.objs.size)).get? (h.objs.size+1)=aa (instObj C h.objs.size):=by
  have:=jg (h.push emptyDict) (o:=instObj C h.objs.size) rfl
  rwa [LZ] at this
 have t1:Looks (model prog w) ((h.push emptyDict).push (instObj C h.objs.size)) (typeOf (.ref (h.objs.size+1))) (.ref C):=(Lx hx).andThen .now
 have s1:=self.keeps k
 have i1:=hi.keeps k
 have b1:=(hb (.ref (h.objs.size+1))).keeps k
 unfold isInstance callSpecial? specialOf
 refine bind (any (bf (t1.at (s1.at ?_))))
 simp only[To,Ue,if_false]
 refine bind (holding (bind (bind (any (t1.at (any (i1.at ?_)))))))
 refine holding (bind (any (b1.at ?_)))
 refine bind (call ?_)
 refine pN hq fun r s' z=>?_
 rcases r with e |(_ |_ |_ |v)
 ·exact z
 ·exact z.elim
 ·exact z.elim
 ·exact z.elim
 ·obtain⟨rfl,z⟩:=z
  exact pure (pure z)
end
end I
theorem aU {a b:aj} (h:(a&&b)=ag):a=ag:=(ed.mp h).1
theorem bx {a b:aj} (h:(a&&b)=ag):b=ag:=(ed.mp h).2
theorem ir {a b c d e:aj} (h:((((a&&b)&&c)&&d)&&e)=ag):a=ag:=aU (aU (aU (aU h)))
theorem not_of {a:aj} (h:(!a)=ag):a=ao:=(Gy a).mp h
section
variable {α:Type}
@[elab_as_elim] theorem tw {P:ah α->Prop}{l:ah α} (h:l0 l=ag) (K:P []):P l:=match l,h with
 |[],_=>K
 |_::_,h=>by contradiction
@[elab_as_elim] theorem rA {P:ah α->Prop}{l:ah α}{f:α->aj} (h:l1 l f=ag) (K:∀ x,f x=ag->P [x]):P l:=match l,h with
 |[],h=>by contradiction
 |x::r,h=>tw (P:=fun r=>P (x::r)) (bx h) (K x (aU h))
@[elab_as_elim] theorem OI {P:ah α->Prop}{l:ah α}{f:α->α->aj} (h:l2 l f=ag) (K:∀ x y,f x y=ag->P [x,y]):P l:=match l,h with
 |[],h=>by contradiction
 |x::r,h=>rA (P:=fun r=>P (x::r)) h (K x)
@[elab_as_elim] theorem QU {P:aB α->Prop}{o:aB α} (h:o0 o=ag) (K:P au):P o:=match o,h with
 |none,_=>K
 |some _,h=>by contradiction
@[elab_as_elim] theorem uw {P:aB α->Prop}{o:aB α}{f:α->aj} (h:o1 o f=ag) (K:∀ x,f x=ag->P (aa x)):P o:=match o,h with
 |none,h=>by contradiction
 |some x,h=>K x h
end
@[elab_as_elim] theorem HB {f:Int->Tok->aj}{P:av->Prop}{x:av} (h:EF x f=ag) (K:∀ i t,f i t=ag->P (.int i t)):P x:=
 if q:x.ctorIdx=4 then PySem.Value.int.elim (motive:=fun x=>EF x f=ag->P x) x q (fun i t h=>K i t h) h else absurd ((da q).symm.trans h) cj
@[elab_as_elim] theorem QI {f:Str->Tok->aj}{P:av->Prop}{x:av} (h:JZ x f=ag) (K:∀ q t,f q t=ag->P (.str q t)):P x:=
 if q:x.ctorIdx=6 then PySem.Value.str.elim (motive:=fun x=>JZ x f=ag->P x) x q (fun q t h=>K q t h) h else absurd ((da q).symm.trans h) cj
@[elab_as_elim] theorem Oq {f:b_->aj}{P:av->Prop}{x:av} (h:EE x f=ag) (K:∀ n,f n=ag->P (.type n)):P x:=
 if q:x.ctorIdx=8 then PySem.Value.type.elim (motive:=fun x=>EE x f=ag->P x) x q (fun n h=>K n h) h else absurd ((da q).symm.trans h) cj
@[elab_as_elim] theorem Vv {f:b_->aj}{P:av->Prop}{x:av} (h:QJ x f=ag) (K:∀ n,f n=ag->P (.builtin n)):P x:=
 if q:x.ctorIdx=9 then PySem.Value.builtin.elim (motive:=fun x=>QJ x f=ag->P x) x q (fun n h=>K n h) h else absurd ((da q).symm.trans h) cj
@[elab_as_elim] theorem Ak {f:ax->aj}{P:av->Prop}{x:av} (h:Al x f=ag) (K:∀ a,f a=ag->P (.ref a)):P x:=
 if q:x.ctorIdx=10 then PySem.Value.ref.elim (motive:=fun x=>Al x f=ag->P x) x q (fun a h=>K a h) h else absurd ((da q).symm.trans h) cj
@[elab_as_elim] theorem QN {f:(bS av)->Nat->aj}{P:gW->Prop}{x:gW} (h:Kd x f=ag) (K:∀ xs n,f xs n=ag->P (.seq xs n)):P x:=
 if q:x.ctorIdx=2 then PySem.Data.seq.elim (motive:=fun x=>Kd x f=ag->P x) x q (fun xs n h=>K xs n h) h else absurd ((da q).symm.trans h) cj
@[elab_as_elim] theorem Vy {f:eR->aj}{P:gW->Prop}{x:gW} (h:QO x f=ag) (K:∀ fd,f fd=ag->P (.func fd)):P x:=
 if q:x.ctorIdx=7 then PySem.Data.func.elim (motive:=fun x=>QO x f=ag->P x) x q (fun fd h=>K fd h) h else absurd ((da q).symm.trans h) cj
@[elab_as_elim] theorem QQ {f:ClassData->aj}{P:gW->Prop}{x:gW} (h:Ke x f=ag) (K:∀ cd,f cd=ag->P (.cls cd)):P x:=
 if q:x.ctorIdx=8 then PySem.Data.cls.elim (motive:=fun x=>Ke x f=ag->P x) x q (fun cd h=>K cd h) h else absurd ((da q).symm.trans h) cj
@[elab_as_elim] theorem Vz {f:(bS av)->aj}{P:gW->Prop}{x:gW} (h:QP x f=ag) (K:∀ vs,f vs=ag->P (.fields vs)):P x:=
 if q:x.ctorIdx=9 then PySem.Data.fields.elim (motive:=fun x=>QP x f=ag->P x) x q (fun vs h=>K vs h) h else absurd ((da q).symm.trans h) cj
@[elab_as_elim] theorem OF {α:Type}{P:ah α->Prop}{l:ah α}{f:α->ah α->aj} (h:lk l f=ag) (K:∀ x r,f x r=ag->P (x::r)):P l:=by
 cases l with
 |nil=>contradiction
 |cons x r=>exact K x r h
noncomputable def jM (fr:ah Env):ah ax:=fr.filterMap (·.frame)
noncomputable def ownOf (env:Env):ah ax:=env.locals::env.cells.map (·.2)
structure ac7 (K:cW) (T:Tab) (C:Cn):Prop where
 ga:findIn K (.ref (T.cA C)) "__getattribute__"=aa (aa (.builtin "object.__getattribute__"))
 sa:findIn K (.ref (T.cA C)) "__setattr__"=aa (aa (.builtin "object.__setattr__"))
 ng:findIn K (.ref (T.cA C)) "__getattr__"=aa au
 pl:plainOver K (T.cA C)=ag
 hd:(clsIn K (T.cA C)).any (·.hasDict)=ag
 fld:∀ f∈fieldsOf C,findIn K (.ref (T.cA C)) (dP f)=aa au
 mks:makesIn K (T.cA C)=ag
 ini:∀ f,rC C=aa f->findIn K (.ref (T.cA C)) "__init__"=aa (aa (.ref (T.fA f)))
 bk:∀ m f,rp C m=aa f->findIn K (.ref (T.cA C)) (dP m)=aa (aa (.ref (T.fA f)))
 clk:keepIn K (.ref (T.cA C))=ag
structure Gd (c:Cx) (K:cW):Prop where
 inb:K.In c.az
 cls:∀ C,fieldsOf C≠[]->ac7 K c.T C
 fnk:∀ f,isFn K (.ref (c.T.fA f))=ag/\keepIn K (.ref (c.T.fA f))=ag
 gk:∀ n i,Ry n=aa i->∃ t,nsIn K mainGlobals (dP n)=aa (aa (.int i t))
 gf:∀ f,f.top=ag->nsIn K mainGlobals (Str.ofString f.s)=aa (aa (.ref (c.T.fA f)))
 gc:∀ C,nsIn K mainGlobals (Str.ofString (Cn.s C))=aa (aa (.ref (c.T.cA C)))
 gb:∀ b:Bi,nsIn K mainGlobals (Str.ofString b.s)=aa au/\nsIn K builtinsNs (Str.ofString b.s)=aa (aa b.v)
 gr:nsIn K mainGlobals "range"=aa au/\nsIn K builtinsNs "range"=aa (aa (.type "range"))
 exc:∀ C:Cn,C.isExc=ag->ZG K (c.T.cA C) XF "Exception.__new__"=ag
 exk:∀ C:Cn,C.isExc=ag->keepIn K (.ref (c.T.cA C))=ag
 exm:∀ C D:Cn,C.isExc=ag->D.isExc=ag->exmOne K (.ref (c.T.cA C)) (.ref (c.T.cA D))=aa (C.under D)
inductive B6 (env:Env) (h:bB) (n:Str) (u:av):Prop
 |loc (k:env.kindOf n=aa .local) (m:Str->aB av) (hn:h.Ns env.locals m) (e:m n=aa u)
 |cell (k:env.kindOf n=aa .cell∨env.kindOf n=aa .free) (a:ax) (e:env.cells.lookup n=aa a) (hc:h.IsCell a (aa u))
structure Th (c:Cx) (frs:ah ax) (σ τ:Sx) (s':aF):Prop where
 le:σ.g.le τ.g
 rep:Rep c τ
 k:∀ b o,σ.get b=aa o->σ.Off b->b∉frs->τ.get b=aa o
 sl:∀ b o,σ.get b=aa o->σ.Off b->b∈frs->∃ sl,s'.heap.get? b=aa {o with slots:=sl}
 off:∀ b o,σ.get b=aa o->σ.Off b->τ.Off b
 gens:s'.gens=σ.s.gens
 drawn:s'.drawn=σ.s.drawn
 os:s'.os=σ.s.os
inductive OkC (c:Cx) (fr:ah Env) (σ:Sx) (Q:PV) (v:av) (s':aF):Prop
 |mk (g:Gh) (H:Hp) (x:V) (e:er g v x) (r:Rel c (jM fr) [] σ ⟨s',g,H⟩) (q:Q x H)
inductive ExC (c:Cx) (fr:ah Env) (σ:Sx) (X:PX) (e:av) (s':aF):Prop
 |mk (ea:ax) (a0:av) (D:Cn) (τ:Sx) (he:e=.ref ea) (t:Th c (jM fr) σ τ s') (f:Heap.FlyingW τ.s.heap fr ea (.ref (c.T.cA D)) a0 s'.heap) (x:X D τ.H)
structure Yy (A:bF) (n:Nat):Prop where
 depth:A.depth+6*n<=900
 units:A.units+60*n+60<=cLine
structure W4 (A:bF) (n:Nat):Prop where
 depth:A.depth+6*n<=903
 units:A.units+60*n+40<=cLine
theorem Yy.call {A:bF}{n:Nat} (h:Yy A n):W4 A n:=⟨aK h.depth (by decide),aK (dX (by decide) _) h.units⟩
theorem Yy.u {A:bF}{n:Nat} (hb:Yy A n):A.units+6 < cLine:=ma (Nat.add_lt_add_of_le_of_lt (fu _ _) (by decide)) hb.units
def Back (Q:av->aF->Prop) (E:av->aF->Prop) (r:fq) (s':aF):Prop:=match r with
 |.ok f=>match f with
  |.ret v=>Q v s'
  |.next=>False
  |.brk=>False
  |.cont=>False
 |.error e=>E e s'
structure Ca (A:bF) (fr:ah Env):Prop where
 hd:A.handled=au
 gd:A.guards=aa []
 frames:A.frames=aa fr
 top:∃ f l,fr=f::l/\∃ a,f.frame=aa a
structure Fm (c:Cx) (fr:ah Env) (σ:Sx):Prop where
 ff:σ.s.heap.FunFrames c.az fr
 ffn:∀ b∈jM fr,σ.Off b
def sP (c:Cx) (n:Nat) (C:CC):Prop:=∀ f vs σ Q X,C f vs σ.H Q X->∀ (A:bF) (fr:ah Env) (us:ah av),W4 A n->Ca A fr->Rep c σ->Fm c fr σ->
 dF (er σ.g) us vs->iI (model c.prog c.w) A (.call (.ref (c.T.fA f)) ⟨us,[]⟩) (Back (OkC c fr σ Q) (ExC c fr σ X)) σ.s
structure Kx where
 c:Cx
 K:cW
 D:Gd c K
 A:bF
 env:Env
 fr:ah Env
 C:CC
 n:Nat
 own:ah ax
 st:Sx
 hC:sP c n C
 hb:Yy A n
 ca:Ca A fr
 sub:∀ a∈own,a∈ownOf env
 kind:env.scope.kind=.function
 gl:env.globals=mainGlobals
 bl:env.builtins=builtinsNs
 ob:∀ b∈ownOf env,c.az.get? b=au
 apart:∀ n n' a,(n,a)∈env.cells->(n',a)∈env.cells->n=n'
 lc:∀ n a,(n,a)∈env.cells->a≠env.locals
 co:∀ n,env.kindOf n=aa .cell∨env.kindOf n=aa .free->∃ a,env.cells.lookup n=aa a
 ef:∀ f l,fr=f::l->env.frame=f.frame
noncomputable abbrev Kx.M (k:Kx):eE:=model k.c.prog k.c.w
noncomputable abbrev Kx.frs (k:Kx):ah ax:=jM k.fr
noncomputable abbrev Kx.sc (k:Kx):bY:=k.env.scope
structure At (k:Kx) (L:b5) (σ:Sx):Prop where
 rel:Rel k.c k.frs k.own k.st σ
 fm:Fm k.c k.fr σ
 loc:∀ x v,L x=aa v->∃ u,er σ.g u v/\B6 k.env σ.s.heap (dP x) u
 own:∀ b∈ownOf k.env,σ.Off b
 ns:∃ m,σ.s.heap.Ns k.env.locals m
 cl:∀ n a,(n,a)∈k.env.cells->∃ v,σ.s.heap.IsCell a v
theorem Au {h h':bB}{a:ax}{m:Str->aB av} (hn:h.Ns a m) (k:∀ o,h.get? a=aa o->∃ sl,h'.get? a=aa {o with slots:=sl}):h'.Ns a m:=
 have⟨o,es,ep,ho,hd,r⟩:=hn
 have⟨_,e⟩:=k o ho
 ⟨_,es,ep,e,hd,r⟩
theorem uJ {h h':bB}{a:ax}{v:aB av} (hn:h.IsCell a v) (k:∀ o,h.get? a=aa o->∃ sl,h'.get? a=aa {o with slots:=sl}):h'.IsCell a v:=
 have⟨o,ho,hd⟩:=hn
 have⟨_,e⟩:=k o ho
 ⟨_,e,hd⟩
theorem jK {env:Env}{n:Str}{a:ax} (h:(n,a)∈env.cells):a∈ownOf env:=.tail _ (l9.mpr ⟨_,h,rfl⟩)
theorem B6.step {env:Env}{h h':bB}{n:Str}{u:av} (x:B6 env h n u) (k:∀ b∈ownOf env,∀ o,h.get? b=aa o->∃ sl,h'.get? b=aa {o with slots:=sl}):B6 env h' n u:=match x with
 |.loc a m hn e=>.loc a m (Au hn (k _ (.head _))) e
 |.cell a cc e hc=>.cell a cc e (uJ hc (k _ (jK (mem_of_lookup e))))
theorem vK {f:Env}{l:ah Env}{La:ax} (hf:f.frame=aa La):jM (f::l)=La::jM l:=NL hf
theorem nA {az h h':bB}:∀ {l:ah Env},h.FunFrames az l->(∀ b∈jM l,∀ o,h.get? b=aa o->∃ sl,h'.get? b=aa {o with slots:=sl})->h'.FunFrames az l
 |[],_,_=>trivial
 |env::r,⟨a,⟨L,o,hf,hn,ho,hd⟩,b⟩,k=>
  have hm:=vK (l:=r) hf
  have⟨sl,e⟩:=k L (hm▸.head _) o ho
  ⟨a,⟨L,_,hf,hn,e,hd⟩,nA b fun b hb o e=>k b (hm▸.tail _ hb) o e⟩
theorem Fm.step {c:Cx}{fr:ah Env}{σ τ:Sx} (f:Fm c fr σ) (k:∀ b∈jM fr,∀ o,σ.get b=aa o->∃ sl,τ.get b=aa {o with slots:=sl}) (nf:∀ b∈jM fr,∀ o,σ.get b=aa o->τ.Off b):Fm c fr τ:=
 ⟨nA f.ff k,fun b hb=>have⟨_,o,e,_⟩:=f.ff.mem hb;nf b hb o e⟩
section
variable {k:Kx}{L:b5}{σ τ:Sx}
theorem At.rep (z:At k L σ):Rep k.c σ:=z.rel.rep
theorem At.there (z:At k L σ):∀ b∈ownOf k.env,∃ o,σ.get b=aa o:=fun b hb=>(dT.mp hb).elim (fun e=>have⟨m,o,es,ep,ho,_⟩:=z.ns;⟨o,e▸ho⟩) fun hb=>
 have⟨⟨n,a⟩,hm,e⟩:=l9.mp hb
 have⟨v,o,ho,_⟩:=z.cl n a hm
 ⟨o,(show a=b from e)▸ho⟩
theorem At.move (z:At k L σ) (rel:Rel k.c k.frs k.own k.st τ) (le:σ.g.le τ.g) (kp:∀ b,b∈k.frs∨b∈ownOf k.env->σ.Off b->∀ o,σ.get b=aa o->(∃ sl,τ.get b=aa {o with slots:=sl})/\τ.Off b):At k L τ where
 rel:=rel
 fm:=z.fm.step (fun b hb o e=>(kp b (.inl hb) (z.fm.ffn b hb) o e).1) fun b hb o e=>(kp b (.inl hb) (z.fm.ffn b hb) o e).2
 loc x v e:=have⟨u,a,w⟩:=z.loc x v e;⟨u,a.le le,w.step fun b hb o e=>(kp b (.inr hb) (z.own b hb) o e).1⟩
 own b hb:=have⟨o,e⟩:=z.there b hb;(kp b (.inr hb) (z.own b hb) o e).2
 ns:=have⟨m,hn⟩:=z.ns;⟨m,Au hn fun o e=>(kp _ (.inr (.head _)) (z.own _ (.head _)) o e).1⟩
 cl n a e:=have⟨v,h⟩:=z.cl n a e;⟨v,uJ h fun o e'=>(kp _ (.inr (jK e)) (z.own _ (jK e)) o e').1⟩
theorem At.step (z:At k L σ) (r:Rel k.c k.frs [] σ τ):At k L τ:=
 z.move (z.rel.trans r.wide fun b hb=>have⟨o,e⟩:=z.there b (k.sub b hb);r.off b o e (z.own b (k.sub b hb))) r.le fun b _ f o e=>⟨(r.keep b o e f nofun).slots,r.off b o e f⟩
theorem At.zz (z:At k L σ){a:ax} (h:σ.get a=au):a∉ownOf k.env:=fun m=>(z.there a m).elim fun _=>bP h
theorem At.MT (z:At k L σ){a:ax} (h:σ.get a=au):a∉k.frs:=fun m=>have⟨_,o,e,_⟩:=z.fm.ff.mem m;bP h e
structure Kx.Jv (k:Kx) (a:ax):Prop where
 st:∀ o,k.st.get a=aa o->¬ k.st.Off a
 az:k.c.az.get? a=au
 no:∀ b,b∈k.frs∨b∈ownOf k.env->b≠a
theorem At.new (z:At k L σ){a:ax} (h:σ.get a=au):k.Jv a where
 st o e f:=(z.rel.keep a o e f fun m=>z.zz h (k.sub a m)).slots.elim fun _=>bP h
 az:=z.rep.az h
 no b m e:=m.elim (fun m=>z.MT h (e▸m)) fun m=>z.zz h (e▸m)
theorem Kx.Jv.turn {a:ax} (n:k.Jv a) (w:At k L τ) (nf:τ.Off a){h':bB}{tk:Nat} (hs:∀ b o,b≠a->τ.get b=aa o->h'.get? b=aa o):At k L (τ.up h' tk):=
 w.move ⟨w.rel.le,w.rel.rep.keeps (fun b o e f=>hs b o (fun q=>f (q▸nf)) e) fun b o e=>hs b o (fun q=>bP n.az (q▸e)) (w.rel.rep.stays b o e),fun b o e f nb=>(w.rel.keep b o e f nb).trans fun o' e'=>.refl (hs b o' (fun q=>n.st o (q▸e) (q▸f)) e'),fun b o e f=>have v:=w.rel.off b o e f;⟨v.z,v.h,v.d⟩,w.rel.gens,w.rel.drawn,w.rel.os⟩
  (.refl _) fun b m f o e=>⟨⟨o.slots,hs b o (n.no b m) e⟩,f.z,f.h,f.d⟩
theorem Kx.Jv.adopt {a:ax} (n:k.Jv a) (w:At k L τ) (nf:τ.Off a){h':bB}{tk:Nat}{o:Mo} (hs:∀ b,b≠a->h'.get? b=τ.get b) (m:UG k.c ⟨(τ.up h' tk).s,τ.g,τ.H.set a o⟩ a o):At k L ⟨(τ.up h' tk).s,τ.g,τ.H.set a o⟩:=by
 refine w.move (Rel.put w.rel n.st w.rel.Ox ⟨nf.z,nf.d,n.az,fun b o n _ e=>(hs b n).trans e,fun b q=>(w.rep.Js b a q).elim fun x e=>⟨x,(hs b fun q'=>nf.d _ (q'▸q)).trans e⟩⟩ m) (.refl _) fun b m f x e=>?_
 have n:=n.no b m
 exact⟨⟨x.slots,(hs b n).trans e⟩,f.z,(Hp.zY o n).trans f.h,f.d⟩
theorem At.tok (z:At k L σ){tk:Nat}:At k L (σ.up σ.s.heap tk):=z.step (.tok z.rep)
theorem At.grow (z:At k L σ){h':bB}{tk:Nat} (g:∀ b o,σ.get b=aa o->h'.get? b=aa o):At k L (σ.up h' tk):=z.step (.grow z.rep g)
theorem At.aco (z:At k L σ){L':b5} (h:∀ x v,L' x=aa v->L x=aa v):At k L' σ:={z with loc:=fun x v e=>z.loc x v (h x v e)}
theorem At.here (z:At k L σ):k.K.In σ.s.heap:=k.D.inb.keeps z.rep.stays
end
inductive aaC (k:Kx) (X:fk) (e:av) (s':aF):Prop
 |mk (L:b5) (σ τ:Sx) (D:Cn) (ea:ax) (a0:av) (La:ax) (he:e=.ref ea) (hf:k.env.frame=aa La) (z:At k L σ) (t:Th k.c k.frs σ τ s') (f:Heap.HeldW τ.s.heap k.fr ea (.ref (k.c.T.cA D)) a0 La s'.heap) (x:X D L τ.H)
inductive Jw (k:Kx) (rz:aj) (X:fk) (e:av) (s':aF):Prop
 |ZE (L:b5) (σ:Sx) (z:At k L σ) (f:ExC k.c k.fr σ (lZ X L) e s')
 |held (h:aaC k X e s')
 |made (L:b5) (σ:Sx) (D:Cn) (ea:ax) (vs:ah av) (hr:rz=ag) (he:e=.ref ea) (z:At k L σ) (m:Heap.MadeExcOf σ.s.heap s'.heap ea (.ref (k.c.T.cA D)) vs)
  (gens:s'.gens=σ.s.gens) (drawn:s'.drawn=σ.s.drawn) (os:s'.os=σ.s.os) (x:X D L σ.H)
inductive fM (Q:Sx->Prop) (s:aF):Prop
 |mk (g:Gh) (H:Hp) (q:Q ⟨s,g,H⟩)
def W (k:Kx) (rz:aj){α:Type} (t:Sem α) (Q:α->Sx->Prop) (X:fk) (σ:Sx):Prop:=h_ k.M k.A t (fun a s'=>fM (Q a) s') (Jw k rz X) σ.s
namespace W
variable {k:Kx}{rz:aj}{α β:Type}{X:fk}{σ:Sx}{P:α->Sx->Prop}{Q:β->Sx->Prop}{m:Sem α}{f:α->Sem β}
theorem bind (h:W k rz m P X σ) (K:∀ a τ,P a τ->W k rz (f a) Q X τ):W k rz (m>>=f) Q X σ:=I.bind (I.bT h (fun a s' ⟨g,H,p⟩=>K a ⟨s',g,H⟩ p) fun _ _ z=>z)
theorem bT {P':α->Sx->Prop} (h:W k rz m P X σ) (K:∀ a τ,P a τ->P' a τ):W k rz m P' X σ:=I.bT h (fun a s' ⟨g,H,p⟩=>⟨g,H,K a _ p⟩) fun _ _ z=>z
theorem pure {a:α} (h:P a σ):W k rz (Pure.pure a) P X σ:=I.pure ⟨σ.g,σ.H,h⟩
theorem any (h:aO k.M k.A m (fun a s'=>fM (P a) s') (Jw k rz X) σ.s):W k rz m P X σ:=I.any h
theorem leaf (h:aO k.M k.A m (fun a s'=>fM (fun τ=>W k rz (f a) Q X τ) s') (Jw k rz X) σ.s):W k rz (m>>=f) Q X σ:=bind (any h) fun _ _ h=>h
theorem ae_ (h:h_ k.M k.A m (fun a s'=>fM (fun τ=>W k rz (f a) Q X τ) s') (Jw k rz X) σ.s):W k rz (m>>=f) Q X σ:=bind (P:=fun a τ=>W k rz (f a) Q X τ) h fun _ _ h=>h
theorem cY {pos:Pos}{f:cR->Sem β} (h:W k rz (f ()) Q X σ):W k rz (PySem.standAt pos>>=f) Q X σ:=I.cY h
theorem holding {vs:ah av} (h:W k rz m P X σ):W k rz (PySem.holding vs m) P X σ:=I.holding h
theorem operate {vs:ah av}{m:Sem av}{P:av->Sx->Prop} (h:W k rz m P X σ):W k rz (PySem.operate vs m) P X σ:=I.operate h
theorem point {P:cR->Sx->Prop} (h:P () σ):W k rz PySem.point P X σ:=I.point ⟨σ.g,σ.H,h⟩
theorem release {vs keep:ah av}{P:cR->Sx->Prop} (h:P () σ):W k rz (PySem.release vs keep) P X σ:=I.release ⟨σ.g,σ.H,h⟩
end W
inductive Ok (k:Kx) (L:b5) (σ:Sx) (Q:PV) (v:av) (τ:Sx):Prop
 |mk (x:V) (e:er τ.g v x) (l:σ.g.le τ.g) (z:At k L τ) (q:Q x τ.H)
inductive Oks (k:Kx) (L:b5) (σ:Sx) (Q:ah V->Hp->Prop) (v:ah av) (τ:Sx):Prop
 |mk (x:ah V) (e:dF (er τ.g) v x) (l:σ.g.le τ.g) (z:At k L τ) (q:Q x τ.H)
inductive WW (k:Kx) (L:b5) (σ:Sx) (Q:aj->Hp->Prop) (b:aj) (τ:Sx):Prop
 |mk (l:σ.g.le τ.g) (z:At k L τ) (q:Q b τ.H)
inductive Oku (k:Kx) (L:b5) (σ:Sx) (Q:Hp->Prop) (u:cR) (τ:Sx):Prop
 |mk (l:σ.g.le τ.g) (z:At k L τ) (q:Q τ.H)
section
variable {k:Kx}{L:b5}{σ τ:Sx}{Q:PV}{v:av}{x:V}
theorem Ok.from (l:σ.g.le τ.g){ρ:Sx}:Ok k L τ Q v ρ->Ok k L σ Q v ρ
 |.mk x e l' z q=>.mk x e (l.trans l') z q
theorem At.now (z:At k L σ) (e:er σ.g v x) (q:Q x σ.H):Ok k L σ Q v σ:=.mk x e (.refl _) z q
theorem At.ok (z:At k L σ) (r:Rel k.c k.frs [] σ τ) (e:er τ.g v x) (q:Q x τ.H):Ok k L σ Q v τ:=.mk x e r.le (z.step r) q
theorem At.okN (z:At k L σ) (e:er σ.g v x) (q:Q x σ.H):fM (Ok k L σ Q v) σ.s:=⟨σ.g,σ.H,z.now e q⟩
theorem At.Pt (z:At k L σ){tk:Nat} (e:er σ.g v x) (q:Q x σ.H):fM (Ok k L σ Q v) {σ.s with toks:=tk}:=⟨σ.g,σ.H,z.ok (.tok z.rep) e q⟩
theorem At.okG (z:At k L σ){h':bB}{tk:Nat} (g:∀ b o,σ.get b=aa o->h'.get? b=aa o) (e:er σ.g v x) (q:Q x σ.H):fM (Ok k L σ Q v) {σ.s with heap:=h',toks:=tk}:=⟨σ.g,σ.H,z.ok (.grow z.rep g) e q⟩
theorem At.abv (z:At k L σ){P:aj->Hp->Prop}{b:aj} (q:P b σ.H):fM (WW k L σ P b) σ.s:=⟨σ.g,σ.H,.mk (.refl _) z q⟩
theorem At.adX (z:At k L σ){P:aj->Hp->Prop}{b:aj}{tk:Nat} (q:P b σ.H):fM (WW k L σ P b) {σ.s with toks:=tk}:=⟨σ.g,σ.H,.mk (.refl _) z.tok q⟩
end
theorem di (h:bB):h.get? h.objs.size=au:=lj fun _ e=>absurd (qw e) (sG _)
theorem Cj:sizeLine=line:=by rw[l8];rfl
section
variable {c:Cx}{frs own:ah ax}{σ τ:Sx}
theorem Rel.JS (r:Rel c frs own σ τ){s':aF}{a:ax}{x:V} (no:∀ o,σ.get a=aa o->¬ σ.Off a) (z:τ.g.Z a=au) (d:∀ b,τ.g.D a≠aa b) (k:∀ b o,τ.get b=aa o->s'.heap.get? b=aa o)
  (m:Ww c ⟨s',τ.g.yF a x,τ.H.drop a⟩ a x) (gens:s'.gens=τ.s.gens) (drawn:s'.drawn=τ.s.drawn) (os:s'.os=τ.s.os):Rel c frs own σ ⟨s',τ.g.yF a x,τ.H.drop a⟩ where
 le:=r.le.trans (Gh.ll z)
 rep:=r.rep.JS z d k m
 keep b x e f nb:=(r.keep b x e f nb).trans fun x' e'=>.refl (k b x' e')
 off b x e f:=have w:=r.off b x e f;have n:b≠a:=fun q=>no x (q▸e) (q▸f);⟨(Gh.sV n).trans w.z,(Hp.zH n).trans w.h,w.d⟩
 gens:=gens.trans r.gens
 drawn:=drawn.trans r.drawn
 os:=os.trans r.os
end
section
variable {k:Kx}{rz:aj}{X:fk}{L:b5}{σ:Sx}{Q:PV}{v w:av}{x y:V}{xs:ah V}{A:bF}
theorem At.abA (z:At k L σ){o:Obj}{x:V} (hf:o.isFreed=ao) (e:er (σ.g.yF σ.s.heap.objs.size x) (.ref σ.s.heap.objs.size) x) (m:∀ τ:Sx,σ.g.le τ.g->τ.get σ.s.heap.objs.size=aa o->Ww k.c τ σ.s.heap.objs.size x) (q:Q x σ.H):
  fM (Ok k L σ Q (.ref σ.s.heap.objs.size)) {σ.s with heap:=σ.s.heap.push o}:=
 have F:=z.rep.fresh (di σ.s.heap)
 ⟨_,_,z.ok (Rel.JS (s':={σ.s with heap:=σ.s.heap.push o}) (.refl z.rep) (fun _ e=>bP (di _) e) F.z F.d (fun _ _ h=>jN _ h) (m _ (Gh.ll F.z) (jg _ hf)) rfl rfl rfl) e ((uC F.h).symm▸q)⟩
theorem RM {g:Gh}{a:ax}{xs:ah V}:er (g.yF a (.bE xs)) (.ref a) (.bE xs):=.mk a rfl (a8 rfl)
theorem At.abC (z:At k L σ){fz:aj}{a:ax}{h':bB}{tk n:Nat}{vs:bS av} (na:σ.get a=au) (g:∀ b o,σ.get b=aa o->h'.get? b=aa o) (e:h'.get? a=aa ⟨.type "list",au,.seq vs n,#[]⟩) (r:dF (er σ.g) vs.toList xs) (h:Mine.mk fz xs σ.H Q):
  fM (Ok k L σ Q (.ref a)) {σ.s with heap:=h',toks:=tk}:=
 have F:=z.rep.fresh na
 have no:∀ o,σ.get a=aa o->¬ σ.Off a:=fun _ e=>bP na e
 match fz,h with
 |true,h=>⟨_,_,z.ok (Rel.JS (s':={σ.s with heap:=h',toks:=tk}) (x:=.bE xs) (.refl z.rep) no F.z F.d g (.mk vs n e (r.bT fun _ _ e=>e.le (Gh.ll F.z))) rfl rfl rfl) RM ((uC F.h).symm▸h.2)⟩
 |false,h=>⟨_,_,z.ok (x:=.ref _) (Rel.put (h':=h') (tk:=tk) (o:=.bE xs) (.refl z.rep) no (Rel.Ox (frs:=k.frs) (own:=[]) (.refl z.rep)) ⟨F.z,F.d,z.rep.az na,fun b o _ _=>g b o,fun b q=>(z.rep.Js b _ q).elim fun o e=>⟨o,g b o e⟩⟩ (.mk vs n e r)) rfl (h.2 _ F.h)⟩
theorem At.Q4 (z:At k L σ){fz:aj}{vs:bS av} (r:dF (er σ.g) vs.toList xs) (h:Mine.mk fz xs σ.H Q):fM (Ok k L σ Q (.ref σ.s.heap.objs.size)) {σ.s with heap:=σ.s.heap.push {cls:=.type "list",data:=.seq vs 0}}:=
 z.abC (tk:=σ.s.toks) (di _) (fun _ _ h=>jN _ h) (jg _ rfl) r h
@[elab_as_elim] theorem gI {g:Gh}{G:av->Prop}{p:Int->Prop} (e:er g v x) (h:Got (kq x) p) (K:∀ i t,p i->G (.int i t)):G v:=by
 obtain⟨i,h,q⟩:=h
 cases x with
 |int=>(injection h with h;cases h);obtain⟨t,rfl⟩:=e;exact K _ t q
 |_=>contradiction
@[elab_as_elim] theorem gB {g:Gh}{G:av->Prop}{p:ah aA->Prop} (e:er g v x) (h:Got (I8 x) p) (K:∀ i t,p i->G (.bytes i.toArray t)):G v:=by
 obtain⟨i,h,q⟩:=h
 cases x with
 |bytes=>(injection h with h;cases h);obtain⟨t,rfl⟩:=e;exact K _ t q
 |_=>contradiction
@[elab_as_elim] theorem gS {g:Gh}{G:av->Prop}{p:Str->Prop} (e:er g v x) (h:Got (XU x) p) (K:∀ i t,p i->G (.str i t)):G v:=by
 obtain⟨i,h,q⟩:=h
 cases x with
 |str=>(injection h with h;cases h);obtain⟨t,rfl⟩:=e;exact K _ t q
 |_=>contradiction
@[elab_as_elim] theorem g2 {g:Gh}{G:av->av->Prop}{p:Int->Int->Prop} (e:er g v x) (f:er g w y) (h:oY x y p) (K:∀ i t j u,p i j->G (.int i t) (.int j u)):G v w:=gI (G:=(G · w)) e h fun i t h=>gI f h fun j u h=>K i t j u h
theorem Q_ {H:Hp}{a:ax} (h:(H a).bind Mo.tv=aa xs):H a=aa (.bE xs):=by
 cases e:H a with
 |none=>rw[e] at h;contradiction
 |some o=>rw[e] at h;cases o with
  |bE=>cases h;rfl
  |_=>contradiction
theorem Rep.bE (R:Rep k.c σ){a:ax} (h:(σ.H a).bind Mo.tv=aa xs):SeqAt σ a "list" xs:=R.yJ a _ (Q_ h)
@[elab_as_elim] theorem At.gL (z:At k L σ){G:av->Prop}{p:ah V->Prop} (e:er σ.g v x) (h:Got (listOf σ.H x) p) (K:∀ a xs,SeqAt σ a "list" xs->p xs->G (.ref a)):G v:=by
 obtain⟨xs,h,q⟩:=h
 cases x with
 |bE=>(injection h with h;cases h);obtain⟨a,rfl,h⟩:=e;exact K a xs (z.rep.yC _ _ h) q
 |ref a=>cases(show v=.ref a from e);exact K a xs (z.rep.bE h) q
 |_=>contradiction
theorem SeqAt.list {a:ax} (h:SeqAt σ a "list" xs):∃ vs,σ.s.heap.IsList a vs/\dF (er σ.g) vs.toList xs:=match h with
 |.mk vs n e r=>⟨vs,⟨_,e,rfl,n,rfl⟩,r⟩
theorem SeqAt.tuple {a:ax} (h:SeqAt σ a "tuple" xs):∃ vs,σ.s.heap.IsTuple a vs/\dF (er σ.g) vs.toList xs:=match h with
 |.mk vs n e r=>⟨vs,⟨_,e,rfl,n,rfl⟩,r⟩
theorem SeqAt.typeIs {a:ax}{cl:b_} (h:SeqAt σ a cl xs):σ.s.TypeIs (.ref a) cl:=match h with
 |.mk _ _ e _=>⟨_,e,rfl⟩
theorem uq {i:Int} (h:small i):Builtin.Int.intBits i<=200:=intBits_le_iff.mpr h
theorem uL (x:Int):Builtin.bitNot (Builtin.bitNot x)=x:=by show -(-x-1)-1=x;exact lT [x] 0 [] rN 0x12120087875 aQ
theorem Bk {x:Int} (hx:0<=x):decide (0<=Builtin.bitNot x)=ao:=dW (by show ¬ 0<=-x-1;exact gg [x] 0 [] mF 0x1200870236 35 hx aQ)
theorem v9 {i j:Int} (h:0<=i) (k:0<=j):Builtin.bitOr i j=Int.ofNat (i.toNat |||j.toNat):=by
 unfold Builtin.bitOr Builtin.bitAnd
 rw[Bk h,Bk k]
 show Builtin.bitNot (Builtin.bitNot _)=_
 rw[uL,uL,uL];rfl
theorem CB {i j:Int} (h:0<=i) (k:0<=j):Builtin.bitAnd i j=Int.ofNat (i.toNat&&& j.toNat):=by
 unfold Builtin.bitAnd
 rw[c9 h,c9 k];rfl
theorem JN {i j:Int} (h:0<=i):i*2 ^ j.toNat=Int.ofNat (i.toNat <<< j.toNat):=by
 obtain⟨n,rfl⟩:=Yi h
 rw[TS]
 simp
theorem zX {i j:Int} (h:0<=i):i.fdiv (2 ^ j.toNat)=Int.ofNat (i.toNat >>> j.toNat):=by
 obtain⟨n,rfl⟩:=Yi h
 have p:(2:Int) ^ j.toNat=((2 ^ j.toNat:Nat):Int):=by simp
 rw[p,acK _ (gw _),D5]
 simp
theorem f9 {n:Nat} (h:n<=line):n<=sizeLine:=Cj▸h
theorem At.HL (z:At k L σ){i j:Int}{tk t:Nat} (e:i=j) (q:Q (.int j) σ.H):fM (Ok k L σ Q (.int i t)) {σ.s with toks:=tk}:=z.Pt (x:=.int j) ⟨t,aW (Value.int · t) e⟩ q
theorem At.okB (z:At k L σ){i:bS aA}{j:ah aA}{tk t:Nat} (e:i=j.toArray) (q:Q (.bytes j) σ.H):fM (Ok k L σ Q (.bytes i t)) {σ.s with toks:=tk}:=z.Pt (x:=.bytes j) ⟨t,aW (Value.bytes · t) e⟩ q
theorem At.acX (z:At k L σ){x y:V} (ex:er σ.g v x) (ey:er σ.g w y) (h:yB σ.H x y fun zs=>Q (.bE zs) σ.H):W k rz (binaryOp .Add v w) (Ok k L σ Q) X σ:=by
 obtain⟨xs,ys,h1,h2,h3,h4⟩:=h
 refine z.gL (p:=fun zs=>zs=xs) ex ⟨_,h1,rfl⟩ fun a _ hx e=>?_
 subst e
 refine z.gL (p:=fun zs=>zs=ys) ey ⟨_,h2,rfl⟩ fun b _ hy e=>?_
 subst e
 obtain⟨vs,n,e1,r1⟩:=hx
 obtain⟨ws,m,e2,r2⟩:=hy
 exact W.any (PySem.P.add_list e1 e2 (z.Q4 (fz:=true) (by rw[Array.toList_append];exact r1.append r2) ⟨by rw[bN];exact h3,h4⟩) (f9 (show vs.toList.length+ws.toList.length<=line from r1.length▸r2.length▸h3)))
theorem At.Sj (z:At k L σ){op:Bo} (ex:er σ.g v x) (ey:er σ.g w y) (h:binOp op x y σ.H Q):W k rz (binaryOp op.op v w) (Ok k L σ Q) X σ:=by
 cases op with
 |add=>
  cases x with
  |int i=>obtain⟨t,rfl⟩:=ex;exact gI ey h fun j u q=>W.any (PySem.P.add_int (z.HL rfl q))
  |bytes b=>obtain⟨t,rfl⟩:=ex;exact gB ey h fun c u q=>W.any (KBy.add_bytes (aK q.1 (by decide)) fun t' k=>z.okB (Ul b c) q.2)
  |str a=>
   obtain⟨t,rfl⟩:=ex
   refine gS ey h fun b u q=>W.any (PySem.P.add_str ?_)
   split
   ·exact z.okN (x:=.str b) ⟨u,rfl⟩ (q.2 b (j_ _ _))
   ·split
    ·exact z.okN (x:=.str a) ⟨t,rfl⟩ (q.2 a (fu _ _))
    ·have e:=Mb a b
     exact⟨aK (gX e) (aK q.1 (by rw[l8];decide)),z.Pt (x:=.str _) ⟨_,rfl⟩ (q.2 _ (gX e))⟩
  |bE=>exact z.acX ex ey h
  |ref=>exact z.acX ex ey h
  |_=>exact h.elim
 |sub=>exact g2 ex ey h fun i t j u q=>W.any (PySem.P.sub_int (z.HL rfl q))
 |mul=>
  cases x with
  |int i=>obtain⟨t,rfl⟩:=ex;exact gI ey h fun j u q=>W.any (PySem.P.mul_int (z.HL rfl q.2.2) (IntMulOk.of_le (uq q.1) (uq q.2.1) (by decide)))
  |bytes b=>obtain⟨t,rfl⟩:=ex;exact gI ey h fun j u ⟨h1,h2,h3,h4,q⟩=>W.any (bytes_mul_any h3 (by lia) (by lia) h4 fun t' k=>z.okB rfl q)
  |_=>exact h.elim
 |fdiv=>exact g2 ex ey h fun i t j u ⟨h1,h2,q⟩=>W.any (acW (SX h1) (z.HL (acK _ (xv h1)) q) (.inl (PyProof.noPylong_small (by lia))))
 |mod=>exact g2 ex ey h fun i t j u ⟨h1,q⟩=>W.any (acJ (SX h1) (z.HL (Int.fmod_eq_emod_of_nonneg _ (xv h1)) q))
 |band=>exact g2 ex ey h fun i t j u ⟨h1,h2,q⟩=>W.any (aae (z.HL (CB h1 h2) q))
 |bor=>exact g2 ex ey h fun i t j u ⟨h1,h2,q⟩=>W.any (aab (z.HL (v9 h1 h2) q))
 |shl=>exact g2 ex ey h fun i t j u ⟨h0,h1,h2,h3,q⟩=>W.any (acR h2 (by have:=uq h1;lia) (z.HL (JN h0) q))
 |shr=>exact g2 ex ey h fun i t j u ⟨h0,h1,h2,q⟩=>W.any (acQ h1 (z.HL (zX h0) q))
 |bxor=>exact h.elim
end
theorem Dj {f:V->V->aB aj} (hf:∀ x c,f x x=aa c->c=ag):∀ (xs:ah V){b:aj},oS f xs xs=aa b->b=ag
 |[],b,h=>(eS h).symm
 |x::xs,b,h=>by
  replace h:((f x x).bind fun a=>(oS f xs xs).map (a&& ·))=aa b:=h
  cases e:f x x with
  |none=>rw[e] at h;contradiction
  |some a=>
   cases e2:oS f xs xs with
   |none=>rw[e,e2] at h;contradiction
   |some d=>rw[e,e2] at h;(injection h with h;subst h);rw[hf x a e,Dj hf xs e2];rfl
theorem Hu:∀ (n:Nat) (x:V){b:aj},tM n x x=aa b->b=ag
 | 0,x,b,h=>by contradiction
 |n+1,x,b,h=>by
  have d:∀ {p:Prop} [cN p],p->aa (decide p)=aa b->b=ag:=fun hp h=>by rw[c9 hp] at h;exact(eS h).symm
  have l:∀ {xs:ah V}{o:aB aj},(if xs.length=xs.length then oS (tM n) xs xs else o)=aa b->b=ag:=fun{xs o} h=>Dj (fun x c=>Hu n x) xs ((a8 rfl).symm.trans h)
  cases x with
  |none=>exact(eS h).symm
  |int i=>exact d rfl h
  |bool i=>exact d rfl h
  |bytes i=>exact d rfl h
  |tup=>exact l h
  |bE=>exact l h
  |_=>contradiction
theorem Ht (f:V->V->aB aj):∀ (xs ys:ah V){b:aj},xs.length=ys.length->oS f xs ys=aa b->
  ∃ e:Nat->aj,(List.range xs.length).all e=b/\∀ (j:Nat) (x y:V),xs[j]? =aa x->ys[j]? =aa y->f x y=aa (e j)
 |[],[],b,_,h=>⟨fun _=>ag,eS h,nofun⟩
 |x::xs,y::ys,b,l,h=>by
  replace h:((f x y).bind fun a=>(oS f xs ys).map (a&& ·))=aa b:=h
  cases e:f x y with
  |none=>rw[e] at h;contradiction
  |some a=>
   cases e2:oS f xs ys with
   |none=>rw[e,e2] at h;contradiction
   |some d=>
    rw[e,e2] at h;cases h
    obtain⟨e',h2,h3⟩:=Ht f xs ys (xu l) e2
    refine⟨fun j=>Nat.casesOn j a e',?_,fun j x' y' hx hy=>?_⟩
    ·rw[<- h2,jf,X_,LX,LO];rfl
    ·cases j with
     |zero=>(injection hx with hx;subst hx);(injection hy with hy;subst hy);exact e
     |succ j=>exact h3 j x' y' hx hy
 |[],_::_,_,l,_=>by contradiction
 |_::_,[],_,l,_=>by contradiction
theorem in1_units (A:bF):A.in1.units=A.units+1:=rfl
theorem DY {vs:bS av}{j:Nat} (h:j < vs.size):vs.toList[j]? =aa vs[j]:=by
 rw[BH];exact Array.getElem?_eq_getElem h
theorem fE {α:Type}{R:av->α->Prop}{vs:bS av}{xs:ah α} (r:dF R vs.toList xs):vs.size=xs.length:=r.length
theorem Bh (i j:ah aA):(i.toArray.toList==j.toArray.toList)=decide (i=j):=Gs.mpr (uR.trans Md.symm)
section
variable {c:Cx}{A:bF}{σ:Sx}{g:Gh}
structure Cm (A:bF) (s:aF) (v w:av) (b:aj):Prop where
 eq:(∀ a,v=.ref a->w=.ref a->b=ag)->PySem.SeqAt.EqAt A s v w b
 rc:PySem.SeqAt.RcAt A s v w b
 ne:PySem.SeqAt.RcNeAt A s v w (!b)
theorem Cm.refs {s:aF}{a a':ax}{b:aj} (rc:PySem.SeqAt.RcAt A s (.ref a) (.ref a') b) (ne:PySem.SeqAt.RcNeAt A s (.ref a) (.ref a') (!b)):Cm A s (.ref a) (.ref a') b:=
 ⟨fun h=>if e:a=a' then by
  subst e;rw[h a rfl rfl];exact .same _ else .of_refs e rc,rc,ne⟩
theorem Cm.bytes {s:aF}{i j:ah aA}{t u:Tok}:Cm A s (.bytes i.toArray t) (.bytes j.toArray u) (decide (i=j)) where
 eq _:=fun prog w E Q hq=>by
  unfold PySem.eqBool
  refine Gk ?_
  refine wpAny_ite_split (fun KG=>?_) (fun _=>?_)
  ·have e:i=j:=by have:=eq_of_beq KG;injection this with h;exact aW Array.toList h
   rw[c9 e] at hq
   exact bf (sx (bW hq))
  ·exact bf (eq_bytes (xH (Bh i j▸hq)))
 rc:=fun prog w E Q hq=>eq_bytes (Bh i j▸hq)
 ne:=fun prog w E Q hq=>ne_bytes (by rw[show(i.toArray.toList != j.toArray.toList)=!(i.toArray.toList==j.toArray.toList) from rfl,Bh];exact hq)
noncomputable def ek (σ:Sx) (v:av):V->Prop
 |.bE xs=>∃ a,v=.ref a/\SeqAt σ a "list" xs
 |.none=>er σ.g v .none |.bool b=>er σ.g v (.bool b) |.int i=>er σ.g v (.int i) |.str s=>er σ.g v (.str s) |.bytes b=>er σ.g v (.bytes b) |.ref a=>er σ.g v (.ref a) |.tup xs=>er σ.g v (.tup xs) |.obj C fs=>er σ.g v (.obj C fs)
theorem RN (R:Rep c σ){v:av}{x:V} (e:er σ.g v x):ek σ v x:=by
 cases x with
 |bE=>exact match e with |.mk a e h=>⟨a,e,R.yC _ _ h⟩
 |_=>exact e
theorem Qg {a:ax}{x y:V}{n:Nat}{b:aj} (ex:er g (.ref a) x) (ey:er g (.ref a) y) (h:tM n x y=aa b):b=ag:=by
 have k:∀ {x y:V},Ji g x (.ref a)->Ji g y (.ref a)->x=y:=fun⟨_,e1,h1⟩ ⟨_,e2,h2⟩=>by cases e1;cases e2;exact eS (h1.symm.trans h2)
 have t:x=y->b=ag:=fun e=>by subst e;exact Hu n x h
 cases n with
 |zero=>contradiction
 |succ n=>cases x with
  |tup=>cases y with
   |tup=>exact t (k ex ey)
   |none=>contradiction
   |_=>contradiction
  |bE=>cases y with
   |bE=>exact t (k ex ey)
   |_=>contradiction
  |none=>contradiction
  |bool=>contradiction
  |int=>exact nomatch ex
  |bytes=>exact nomatch ex
  |_=>contradiction
theorem Qu (R:Rep c σ):∀ (n:Nat) (x y:V) (b:aj) (A:bF) (v w:av),tM n x y=aa b->A.units+n < cLine->ek σ v x->ek σ w y->Cm A σ.s v w b
 | 0,_,_,_,_,_,_,h,_,_,_=>by contradiction
 |n+1,x,y,b,A,v,w,h,hu,ex,ey=>by
  have Kv:A.units < cLine:=cE (fu _ _) hu
  have hu1:A.in1.units+n < cLine:=by rw[in1_units,dU,nR 1];exact hu
  have items:∀ {xs ys:ah V}{vs ws:bS av},dF (er σ.g) vs.toList xs->dF (er σ.g) ws.toList ys->xs.length=ys.length->oS (tM n) xs ys=aa b->
    ∃ e:Nat->aj,(List.range vs.size).all e=b/\vs.size=ws.size/\∀ j (h1:j < vs.size) (h2:j < ws.size),PySem.SeqAt.EqAt A.in1 σ.s vs[j] ws[j] (e j):=fun{xs ys vs ws} r r' hl h=>by
   obtain⟨e,h1,h2⟩:=Ht _ _ _ hl h
   refine⟨e,by rw[fE r];exact h1,(fE r).trans (hl.trans (fE r').symm),fun j k1 k2=>?_⟩
   obtain⟨x',hx,q1⟩:=r.get' (DY k1)
   obtain⟨y',hy,q2⟩:=r'.get' (DY k2)
   have h3:=h2 j x' y' hx hy
   exact(Qu R n x' y' (e j) A.in1 _ _ h3 hu1 (RN R q1) (RN R q2)).eq fun a e1 e2=>Qg (e1▸q1) (e2▸q2) h3
  cases x with
  |none=>
   cases(show v=.none from ex)
   cases y with
   |none=>cases(show w=.none from ey);(injection h with h;subst h);exact⟨fun _=>.same _,.none_none,.none_none⟩
   |int=>obtain⟨t,rfl⟩:=ey;(injection h with h;subst h);exact⟨fun _=>.none_int _ _,.none_int _ _,.none_int _ _⟩
   |tup=>
    obtain⟨a,rfl,z⟩:=ey;(injection h with h;subst h)
    obtain⟨vs,hv,_⟩:=(R.yC _ _ z:SeqAt _ _ _ _).tuple
    exact⟨fun _=>.none_tuple hv Kv,.none_tuple hv Kv,.none_tuple hv Kv⟩
   |_=>contradiction
  |int i=>
   obtain⟨t,rfl⟩:=ex
   cases y with
   |none=>cases(show w=.none from ey);(injection h with h;subst h);exact⟨fun _=>.int_none _ _,.int_none _ _,.int_none _ _⟩
   |int=>obtain⟨u,rfl⟩:=ey;(injection h with h;subst h);exact⟨fun _=>.int_int _ _ _ _,.int_int _ _ _ _,.int_int _ _ _ _⟩
   |_=>contradiction
  |bool=>
   cases(show v=.bool _ from ex)
   cases y with
   |bool=>cases(show w=.bool _ from ey);(injection h with h;subst h);exact⟨fun _=>.bool_bool _ _,.bool_bool _ _,.bool_bool _ _⟩
   |_=>contradiction
  |bytes=>
   obtain⟨t,rfl⟩:=ex
   cases y with
   |bytes=>obtain⟨u,rfl⟩:=ey;cases h;exact .bytes
   |_=>contradiction
  |tup xs=>
   obtain⟨a,rfl,z1⟩:=ex
   obtain⟨vs,hv,r⟩:=(R.yC _ _ z1:SeqAt _ _ _ _).tuple
   cases y with
   |none=>cases(show w=.none from ey);(injection h with h;subst h);exact⟨fun _=>.tuple_none hv Kv,.tuple_none hv Kv,.tuple_none hv Kv⟩
   |tup ys=>
    obtain⟨a',rfl,z2⟩:=ey
    obtain⟨ws,hw,r'⟩:=(R.yC _ _ z2:SeqAt _ _ _ _).tuple
    refine c7 h (fun hl h=>?_) fun _ h=>by contradiction
    obtain⟨e,h1,h2,he⟩:=items r r' hl h
    have t1:=acP (e:=e) hv hw Kv he
    have t2:=acV (e:=e) hv hw Kv he
    rw[<- h2,Nat.min_self,TR,Tn,h1] at t1 t2
    exact .refs t1 t2
   |_=>contradiction
  |bE xs=>
   obtain⟨a,rfl,z1⟩:=ex
   obtain⟨vs,hv,r⟩:=z1.list
   cases y with
   |bE ys=>
    obtain⟨a',rfl,z2⟩:=ey
    obtain⟨ws,hw,r'⟩:=z2.list
    refine c7 h (fun hl h=>?_) fun hl h=>?_
    ·obtain⟨e,h1,h2,he⟩:=items r r' hl h
     have t1:=acL (e:=e) hv hw h2 Kv he
     have t2:=acU (e:=e) hv hw h2 Kv he
     rw[h1] at t1 t2
     exact .refs t1 t2
    ·cases h
     have hn:¬ vs.size=ws.size:=fun q=>hl ((fE r).symm.trans (q.trans (fE r')))
     exact .refs (.lists_lengths hv hw (l7.mpr hn) Kv) (.lists_lengths hv hw (l7.mpr hn) Kv)
   |_=>contradiction
  |_=>contradiction
theorem MR (R:Rep c σ){v:av}{x:V} (e:er σ.g v x):ek σ v (norm σ.H x):=by
 cases x with
 |ref a=>
  cases(show v=.ref a from e)
  show ek σ _ (((σ.H a).bind Mo.tv).elim _ _)
  cases h:(σ.H a).bind Mo.tv with
  |none=>exact e
  |some xs=>exact⟨a,rfl,R.yJ _ _ (Q_ h)⟩
 |_=>exact RN R e
end
section
variable {k:Kx}{rz:aj}{X:fk}{L:b5}{σ:Sx}{v w:av}{x y:V}{A':bF}{E:av->aF->Prop}
theorem td {g:Gh} (h:er g v x):(v==.none)=isNone x:=by
 cases x with
 |none=>subst h;rfl
 |bool=>subst h;rfl
 |ref=>subst h;rfl
 |int=>obtain⟨t,rfl⟩:=h;rfl
 |str=>obtain⟨t,rfl⟩:=h;rfl
 |bytes=>obtain⟨t,rfl⟩:=h;rfl
 |tup=>obtain⟨t,rfl,_⟩:=h;rfl
 |bE=>obtain⟨t,rfl,_⟩:=h;rfl
 |obj=>obtain⟨t,rfl,_⟩:=h;rfl
theorem At.rP (z:At k L σ){Q:aj->Prop}{P:av->aF->Prop}{op:Co} (h:yj op x y σ.H Q) (ex:er σ.g v x) (ey:er σ.g w y)
  (q:∀ b,Q b->P (.bool b) σ.s):aO k.M k.A (compareOp op.op v w) P E σ.s:=by
 have cm:∀ {b},tM 6 (norm σ.H x) (norm σ.H y)=aa b->Cm k.A σ.s v w b:=fun{b} h=>Qu z.rep 6 _ _ _ _ _ _ h k.hb.u (MR z.rep ex) (MR z.rep ey)
 cases op with
 |lt=>exact g2 ex ey h fun i t j u h=>lt_int (q _ h)
 |le=>exact g2 ex ey h fun i t j u h=>le_int (q _ h)
 |gt=>exact g2 ex ey h fun i t j u h=>gt_int (q _ h)
 |ge=>exact g2 ex ey h fun i t j u h=>ge_int (q _ h)
 |eq=>exact match h with |.mk b h1 h2=>(cm h1).rc _ _ _ _ (q _ h2)
 |ne=>exact match h with |.mk b h1 h2=>(cm h1).ne _ _ _ _ (q _ h2)
 |is_=>
  cases eq_of_beq ((td ey).trans h.1)
  exact is_none_gen ((td ex).symm▸q _ h.2)
 |lH=>
  cases eq_of_beq ((td ey).trans h.1)
  exact isnot_none_gen (by rw[td ex];exact q _ h.2)
theorem OH {xs:ah V}{t:aj} (h:Ko xs=aa t):xs.length<=line/\(!xs.isEmpty)=t:=c7 h (fun hl e=>⟨hl,eS e⟩) fun _ e=>by contradiction
theorem At.xW (z:At k L σ){a:ax}{xs:ah V}{t:aj} (hz:SeqAt σ a "list" xs) (h:Ko xs=aa t){P:aj->aF->Prop} (q:∀ tk,P t {σ.s with toks:=tk}):aO k.M k.A (truthy (.ref a)) P E σ.s:=by
 obtain⟨vs,hv,r⟩:=hz.list
 obtain⟨hl,rfl⟩:=OH h
 refine wpAny_truthy_list hv (by rw[fE r];unfold line at hl;exact cw [xs.length] bJ 0x8000000000000000830014 pT hl aQ) ?_
 rw[show vs.isEmpty=xs.isEmpty by
  have:=fE r
  cases xs with
  |nil=>exact c9 this
  |cons=>exact dW (this▸nofun)]
 exact q _
theorem At.wN (z:At k L σ){t:aj} (h:truth σ.H x=aa t) (ex:er σ.g v x){P:aj->aF->Prop} (q:∀ tk,P t {σ.s with toks:=tk}):aO k.M k.A (truthy v) P E σ.s:=by
 cases x with
 |none=>subst ex;cases h;exact truthy_none (q σ.s.toks)
 |bool b=>subst ex;cases h;exact xH (q σ.s.toks)
 |int i=>
  obtain⟨u,rfl⟩:=ex;cases h
  refine acO ?_
  rw[show(i != 0)=decide (i≠0) from Gs.mpr (l7.trans Md.symm)]
  exact q σ.s.toks
 |bE xs=>obtain⟨a,rfl,h2⟩:=ex;exact z.xW (z.rep.yC _ _ h2) h q
 |ref a=>
  cases(show v=.ref a from ex)
  cases e:(σ.H a).bind Mo.tv with
  |none=>rw[show truth σ.H (.ref a)=((σ.H a).bind Mo.tv).bind Ko from rfl,e] at h;contradiction
  |some xs=>
   rw[show truth σ.H (.ref a)=((σ.H a).bind Mo.tv).bind Ko from rfl,e] at h
   exact z.xW (z.rep.bE e) h q
 |_=>contradiction
end
section
variable {k:Kx}{rz:aj}{X:fk}{L:b5}{σ:Sx}{Q:PV}{v w l u:av}{x y lo hi:V}{E:av->aF->Prop}
theorem x6 {n:Nat}{i:Int}{j:Nat} (h:Ac n i=aa j):(0<=i/\i < n/\i.toNat=j)∨(i < 0/\-(n:Int)<=i/\(i+n).toNat=j):=
 c7 h (fun h0 h=>c7 h (fun h1 h=>.inl ⟨h0,h1,eS h⟩) fun _ h=>by contradiction) fun h0 h=>c7 h (fun h1 h=>.inr ⟨SQ.mp h0,h1,eS h⟩) fun _ h=>by contradiction
theorem Hh (i:Int) (n:Nat):seqIndex? i n=if 0<=(if i < 0 then i+(n:Int) else i)/\(if i < 0 then i+(n:Int) else i) < n then aa (if i < 0 then i+(n:Int) else i).toNat else au:=by
 unfold seqIndex?;simp
theorem Di {n:Nat}{i:Int}{j:Nat} (h:Ac n i=aa j):seqIndex? i n=aa j:=by
 rw[Hh]
 rcases x6 h with ⟨h0,h1,rfl⟩ |⟨h0,h1,rfl⟩
 ·rw[bb (Gb.mpr h0),a8 ⟨h0,h1⟩]
 ·rw[a8 h0,a8 ⟨by exact gg [i] 0 [n] bJ 0x1004023 387 h1 aQ,by exact gg [i] 0 [n] bJ 0x10010044 0x2004 h0 aQ⟩]
theorem yE (slice:ay) (o i:av):∃ ops,subscripted slice ao o i=PySem.operate ops (getItem o i):=by
 cases slice with
 |Slice a b d p=>cases d<;>exact⟨_,rfl⟩
 |_=>exact⟨_,rfl⟩
theorem sT {value slice:ay}{o i:av}{T id:b_}{P:av->aF->Prop}{s:aF}{c:Cx}{A:bF} (hT:s.TypeIs o T) (hl:typeLookup (.type T) "__getitem__"=pure (aa (.builtin id)))
  (h:aO (model c.prog c.w) A (getItem o i) P E s):aO (model c.prog c.w) A (subscriptTail value slice o i) P E s:=by
 unfold subscriptTail
 refine bf ?_
 rw[getitemInPython_of_ne hT.not_modules]
 refine bf (kU hT hl ?_)
 obtain⟨ops,e⟩:=yE slice o i
 have fin:aO (model c.prog c.w) A (subscripted slice ao o i) (fun r s₃=>aO (model c.prog c.w) A (letTemporaryGo value o r>>=fun _=>pure r) P E s₃) E s:=by
  rw[e]
  exact wpAny_operating (pj h (fun r s₃ h₃=>bf (XZ (bW h₃))) fun _ _ x=>x)
 first
  |exact bW (bf fin)
  |exact bf (bW (bf fin))
  |exact bf fin
theorem V2 {i:Int} (h:fits i):Builtin.Bytes.fitsIndex i=ag:=by
 simp only[Builtin.Bytes.fitsIndex,Bool.and_eq_true,Ma];unfold fits at h;exact gg [i] 0 [] 0x11011000050011001100050001011 0x80000000000000008300400800000000000000083837 Iy h aQ
theorem At.HZ (z:At k L σ){a:ax}{xs:ah V}{i:Int}{t:Nat}{value slice:ay} (hz:SeqAt σ a "list" xs) (h:Idx xs i fun u=>Q u σ.H):aO k.M k.A (subscriptTail value slice (.ref a) (.int i t)) (fun v s'=>fM (Ok k L σ Q v) s') E σ.s:=by
 obtain⟨j,d,hf,hi,hd,q⟩:=h
 obtain⟨vs,hv,r⟩:=hz.list
 obtain⟨x',hx,ex'⟩:=r.get hd
 refine sT hz.typeIs T6.lookup ?_
 unfold fits at hf
 have l1:=fE r
 rw[BH] at hx
 rcases x6 hi with ⟨h0,_,rfl⟩ |⟨h0,h1,rfl⟩
 ·exact wpAny_getItem_list hv h0 (gg [i] 0 [] 0x1100011040011 0x800000000000000083004 Iy hf aQ) hx (z.okN ex' q)
 ·exact wpAny_getItem_list_neg hv h0 (nt [i] 0 [vs.size,xs.length] 0x11019011030 387 pS 0x10183 l1 h1 aQ) (gg [i] 0 [] oZ 0x80000000000000008383 Iy hf aQ) (by rw[l1];exact hx) (z.okN ex' q)
theorem At.Zf (z:At k L σ){value slice:ay} (h:MX x y σ.H Q) (ex:er σ.g v x) (ey:er σ.g w y):aO k.M k.A (subscriptTail value slice v w) (fun v s'=>fM (Ok k L σ Q v) s') E σ.s:=by
 refine gI ey h fun i t h=>?_
 cases x with
 |bytes b=>
  obtain⟨tk,rfl⟩:=ex
  obtain⟨j,d,hf,hi,hd,q⟩:=h
  exact sT (kT _ _ _) NI.lookup (getItem_gives (kT σ.s _ tk) (by decide) NI X9 (Yh _ _) (gives_bytes_getitem _ _ tk t d (V2 hf) (by rw[uW,Di hi];exact(List.getElem?_toArray ..).trans hd)) (z.Pt (x:=.int _) ⟨_,rfl⟩ q))
 |tup xs=>
  obtain⟨a,rfl,hz⟩:=ex
  obtain⟨j,d,hf,hi,hd,q⟩:=h
  have hz:SeqAt σ a "tuple" xs:=z.rep.yC _ _ hz
  obtain⟨vs,hv,r⟩:=hz.tuple
  obtain⟨x',hx,ex'⟩:=r.get hd
  unfold fits at hf
  exact sT hz.typeIs slot_tuple_getitem.lookup (getItem_tuple hv (gg [i] 0 [] oZ 0x80000000000000008383 Iy hf aQ) (gg [i] 0 [] 0x1100011040011 0x800000000000000083004 Iy hf aQ) (j:=j) (by rw[fE r];exact Di hi) (x:=x') ((BH ..).symm.trans hx) (z.okN ex' q))
 |bE xs=>obtain⟨a,rfl,hz⟩:=ex;exact z.HZ (z.rep.yC _ _ hz) h
 |ref a=>cases(show v=.ref a from ex);obtain⟨xs,e,h⟩:=h;exact z.HZ (z.rep.bE e) h
 |_=>exact h.elim
theorem qp {g:Gh}{n d j:Nat} (h:bound n d x=aa j) (e:er g v x):∃ o:aB Int,IsPart v o/\o.elim d (clipAt n)=j:=by
 cases x with
 |none=>cases(show v=.none from e);cases h;exact⟨_,.none,rfl⟩
 |int i=>obtain⟨t,rfl⟩:=e;exact c7 h (fun _ h=>by cases h;exact⟨_,.int _ _,rfl⟩) fun _ h=>by contradiction
 |_=>contradiction
theorem At.slice_list (z:At k L σ){a i:ax}{xs:ah V}{fz:aj}{value slice:ay} (hz:SeqAt σ a "list" xs) (h:Sl xs lo hi fun c=>Mine.mk fz c σ.H Q) (el:er σ.g l lo) (eu:er σ.g u hi)
  (hs:σ.s.heap.IsSliceOf i l u .none):aO k.M k.A (subscriptTail value slice (.ref a) (.ref i)) (fun v s'=>fM (Ok k L σ Q v) s') E σ.s:=by
 obtain⟨k1,k2,hn,h1,h2,q⟩:=h
 obtain⟨o1,p1,e1⟩:=qp h1 el
 obtain⟨o2,p2,e2⟩:=qp h2 eu
 obtain⟨vs,hv,r⟩:=hz.list
 have l1:=fE r
 refine sT hz.typeIs T6.lookup (wpAny_getItem_list_slice hv hs p1 p2 .none nofun ?_ (by rw[l1];exact f9 hn))
 rw[slicePick_plain,l1,e1,e2]
 refine z.Q4 (xs:=cut xs k1 k2) ?_ q
 simpa [cut] using (r.drop k1).take (k2-k1)
theorem At.Qd (z:At k L σ){i:ax}{fz:aj}{value slice:ay} (h:vp fz x lo hi σ.H Q) (ex:er σ.g v x) (el:er σ.g l lo) (eu:er σ.g u hi) (hs:σ.s.heap.IsSliceOf i l u .none):aO k.M k.A (subscriptTail value slice v (.ref i)) (fun v s'=>fM (Ok k L σ Q v) s') E σ.s:=by
 cases x with
 |bytes b=>
  obtain⟨t,rfl⟩:=ex
  obtain⟨k1,k2,hl,h1,h2,q⟩:=h
  obtain⟨o1,p1,e1⟩:=qp h1 el
  obtain⟨o2,p2,e2⟩:=qp h2 eu
  refine sT (kT _ _ _) NI.lookup (getItem_meets (kT _ _ _) (by decide) NI X9 (Yh _ _) (KBc.meets_slice2 _ t _ p1 p2)
   ⟨hs,aK (KBc.size_picked_le _ _ _) (by rw[uW];exact f9 hl),fun t' k=>z.okB ?_ q⟩)
  rw[KBc.picked_eq]
  simp only[uW,e1,e2]
  rfl
 |bE xs=>obtain⟨a,rfl,hz⟩:=ex;exact z.slice_list (z.rep.yC _ _ hz) h el eu hs
 |ref a=>cases(show v=.ref a from ex);obtain⟨xs,e,h⟩:=h;exact z.slice_list (z.rep.bE e) h el eu hs
 |_=>exact h.elim
end
theorem wt:∀ {n:Nat}{p:(m:Nat)->Nat.ble m n=ag->aj},allB n p=ag->∀ m h,p m h=ag
 | 0,p,a,m,h=>by cases Nat.eq_zero_of_le_zero (aT h);exact a
 |n+1,p,a,m,h=>by
  have a:=ed.mp a
  rcases Nat.lt_or_eq_of_le (aT h) with l |l
  ·exact wt a.2 m (Nat.ble_eq_true_of_le (xG l))
  ·subst l;exact a.1
theorem SF {p:Nm->aj} (h:allB 190 (fun m h=>p ⟨m,h⟩)=ag) (x:Nm):p x=ag:=wt h x.n x.h
theorem BC {p:Cn->aj} (h:allB 23 (fun m h=>p ⟨m,h⟩)=ag) (x:Cn):p x=ag:=wt h x.n x.h
theorem BB {p:Fn->aj} (h:allB 112 (fun m h=>p ⟨m,h⟩)=ag) (x:Fn):p x=ag:=wt h x.n x.h
noncomputable def Q1 (s:Str):ah b_->Nat->Nat
 |[],_=>0
 |x::r,n=>cond (Str.ofString x==s) n (Q1 s r (n+1))
theorem MS (x:Nm):Q1 (dP x) Q0 0=x.n:=eq_of_beq (SF (p:=fun x=>Q1 (dP x) Q0 0==x.n) (by decide+kernel) x)
theorem qi {x y:Nm} (h:dP x=dP y):x=y:=by
 have e:x.n=y.n:=by rw[<- MS x,h,MS y]
 obtain⟨n,p⟩:=x;obtain⟨m,q⟩:=y
 cases(show n=m from e);rfl
noncomputable def Vd (s:Str):aj:=!(s==("__debug__":Str))&&!(s==("__classdict__":Str))
theorem Aw (x:Nm):(dP x==("__debug__":Str))=ao/\(dP x==("__classdict__":Str))=ao:=
 have h:=ed.mp (SF (p:=fun x=>Vd (dP x)) (by decide+kernel) x)
 ⟨(Gy _).mp h.1,(Gy _).mp h.2⟩
structure WX (g:Gh) (kv:Str×av) (p:Nm×V):Prop where
 k:kv.1=dP p.1
 v:er g kv.2 p.2
theorem Rh {fs:ah (Nm×V)}{pH:ah (Str×av)}{g:Gh} (r:dF (WX g) pH fs):pH.map (·.1)=(fs.map (·.1)).map dP:=by
 induction r with
 |nil=>rfl
 |cons h _ ih=>rw[gu,gu,gu,ih,h.k]
theorem QZ {l:ah Nm}:(l.map dP).Nodup↔l.Nodup:=⟨fun h=>((Gx).mp h).imp fun Dx he=>Dx (by rw[he]),fun h=>(Gx).mpr (h.imp fun Dx he=>Dx (qi he))⟩
theorem ro {fs:ah (Nm×V)}{pH:ah (Str×av)}{g:Gh} (r:dF (WX g) pH fs):(pH.map (·.1)).Nodup↔(fs.map (·.1)).Nodup:=Rh r▸QZ
section
variable {c:Cx}{σ:Sx}{d:ax}{fs:ah (Nm×V)}{pH:ah (Str×av)}
noncomputable abbrev sk (c:Cx):=strKind c.prog c.w
theorem DictAt.of (x:σ.s.heap.DictOf (sk c) d pH) (r:dF (WX σ.g) pH fs):DictAt c σ d fs:=by
 obtain⟨o,es,ep,ho,⟨e1,e2,e3⟩,hd,hk,hp,hn⟩:=x
 obtain⟨oc,od,dt,sl⟩:=o
 subst e1;subst e2;subst e3;subst hd
 refine⟨es,ep,ho,?_,(ro r).mp hn⟩
 have Zp:∀ e∈es.toList,∃ k,(sk c).is k e.key=ag/\e.hash=hashStr c.w k:=fun e he=>hk e (XY.mp he)
 clear hk ho hn
 generalize es.toList=l at Zp hp
 induction hp generalizing fs with
 |nil=>rw[(show fs=[] by cases r;rfl)];exact .nil
 |cons h1 h2 ht ih=>
  cases r with
  |cons q1 q2=>
   refine .cons ?_ (ih q2 fun e he=>Zp e (.tail _ he))
   obtain⟨k,k1,k2⟩:=Zp _ (.head _)
   obtain⟨t,e⟩:=Value.isStrOf_shape h1
   have:k=_:=(sk c).inj _ _ _ k1 h1
   subst this
   exact⟨⟨t,by rw[e,q1.k]⟩,by rw[k2,q1.k];rfl,by rw[h2];exact q1.v⟩
theorem abL {l:ah cI} (r:dF (zj c σ) l fs):∃ pH,(∀ e∈l,∃ k,(sk c).is k e.key=ag/\e.hash=(sk c).hash k)/\Pairs (sk c) l pH/\dF (WX σ.g) pH fs:=by
 induction r with
 |nil=>exact⟨[],fun e he=>absurd he uV,.nil,.nil⟩
 | @cons e p l m q _ ih=>
  obtain⟨pH,i1,i2,i3⟩:=ih
  obtain⟨t,k1⟩:=q.key
  have hk:(sk c).is (dP p.1) e.key=ag:=by rw[k1];exact c9 rfl
  exact⟨(dP p.1,e.val)::pH,fun e' he=>(dT.mp he).elim (fun h=>h▸⟨dP p.1,hk,q.hash⟩) (i1 e'),.cons hk rfl i2,.cons ⟨rfl,q.val⟩ i3⟩
theorem DictAt.to (x:DictAt c σ d fs):∃ pH,σ.s.heap.DictOf (sk c) d pH/\dF (WX σ.g) pH fs:=by
 obtain⟨es,n,ho,r,hn⟩:=x
 obtain⟨pH,k1,k2,k3⟩:=abL r
 exact⟨pH,⟨_,es,n,ho,⟨rfl,rfl,rfl⟩,rfl,fun e he=>k1 e (XY.mpr he),k2,(ro k3).mpr hn⟩,k3⟩
theorem V1 (r:dF (WX σ.g) pH fs){f:Nm}{x:V} (h:eG fs f=aa x):∃ v,valueAt pH (dP f)=aa v/\er σ.g v x:=by
 induction r with
 |nil=>contradiction
 | @cons kv p l m q _ ih=>
  obtain⟨k,v⟩:=kv
  obtain⟨n,y⟩:=p
  cases(show k=dP n from q.k)
  have ev:∀ b,decide (dP n=dP f)=b->valueAt ((dP n,v)::l) (dP f)=cond b (aa v) (valueAt l (dP f)):=fun b e=>by
   simp only[valueAt,L6,e];cases b<;>rfl
  refine c7 h (fun e h=>?_) fun e h=>?_
  ·cases h;exact⟨v,ev ag (c9 (aW dP e)),q.v⟩
  ·exact(ev ao (dW fun z=>e (qi z))).symm▸ih h
theorem vu {f n:Nm}{x y:V} (e:n=f):cL ((n,y)::fs) f x=(n,x)::fs:=a8 e
theorem vt {f n:Nm}{x y:V} (e:¬ n=f):cL ((n,y)::fs) f x=(n,y)::cL fs f x:=bb e
theorem Hg (r:dF (WX σ.g) pH fs) (hn:(pH.map (·.1)).Nodup){f:Nm}{x:V}{v:av} (h:er σ.g v x):dF (WX σ.g) (stored pH (dP f) v) (cL fs f x):=by
 induction r with
 |nil=>exact .cons ⟨rfl,h⟩ .nil
 | @cons kv p l m q hr ih=>
  obtain⟨k,v'⟩:=kv
  obtain⟨n,y⟩:=p
  cases(show k=dP n from q.k)
  rw[gu,qy] at hn
  have ih:=ih hn.2
  by_cases e:n=f
  ·subst e
   rw[vu rfl]
   unfold stored
   rw[a8 (by rw[LW,c9 rfl];rfl),gu,a8 rfl,map_store_of_not_mem _ _ _ hn.1]
   exact .cons ⟨rfl,h⟩ hr
  ·have ne:¬ dP n=dP f:=fun z=>e (qi z)
   rw[vt e]
   unfold stored at ih ⊢
   rw[LW,dW ne,Bool.false_or]
   by_cases acd:(l.any fun p=>decide (p.1=dP f))=ag
   ·rw[a8 acd] at ih ⊢
    rw[gu,bb ne]
    exact .cons ⟨rfl,q.v⟩ ih
   ·rw[bb acd] at ih ⊢
    exact .cons ⟨rfl,q.v⟩ ih
theorem Qe (fs:ah (Nm×V)) (f:Nm) (y:V):(cL fs f y).length<=fs.length+1:=by
 induction fs with
 |nil=>exact bD _
 |cons p r ih=>
  obtain⟨k,v⟩:=p
  by_cases e:k=f
  ·rw[vu e];exact Ge _
  ·rw[vt e];exact eH ih
theorem AO {α:Type}:∀ {fs:ah (Nm×α)}{f:Nm}{y:α},eG fs f=aa y->(f,y)∈fs
 |(k,v)::r,f,y,h=>c7 h (fun e h=>by cases h;exact e▸.head _) fun _ h=>.tail _ (AO h)
theorem HQ {f:Nm}{y:V}{p:Nm×V} (h:p∈cL fs f y):p.1=f∨p∈fs:=by
 induction fs with
 |nil=>exact .inl (by rw[eT.mp h])
 |cons q r ih=>
  obtain⟨k,v⟩:=q
  by_cases e:k=f
  ·rw[vu e] at h
   exact(dT.mp h).imp (fun q=>by rw[q];exact e) (.tail _)
  ·rw[vt e] at h
   exact(dT.mp h).elim (fun q=>.inr (q▸.head _)) fun h=>(ih h).imp id (.tail _)
theorem Ki {f:Nm}{y:V} (h:(fs.map (·.1)).Nodup):((cL fs f y).map (·.1)).Nodup:=by
 induction fs with
 |nil=>exact qy.mpr ⟨nofun,.nil⟩
 |cons q r ih=>
  obtain⟨k,v⟩:=q
  rw[gu,qy] at h
  by_cases e:k=f
  ·rw[vu e,gu,qy];exact h
  ·rw[vt e,gu,qy]
   refine⟨fun hm=>?_,ih h.2⟩
   obtain⟨p,hp,e2⟩:=l9.mp hm
   exact(HQ hp).elim (fun z=>e (e2.symm.trans z)) fun z=>h.1 (l9.mpr ⟨p,z,e2⟩)
theorem AJ {f k:Nm}{t:Tok}:(Value.str (dP k) t).isStr (dP f)=decide (k=f):=Gs.mpr (uR.trans ⟨fun e=>c9 (qi e),fun e=>by rw[ig e]⟩)
theorem V3 {l:ah cI} (r:dF (zj c σ) l fs){f:Nm}{y:V} (h:eG fs f=aa y):∃ e,l.find? (·.key.isStr (dP f))=aa e/\er σ.g e.val y:=by
 induction r with
 |nil=>contradiction
 | @cons e p l m q _ ih=>
  obtain⟨k,v⟩:=p
  obtain⟨t,q1⟩:=q.key
  rw[L6,q1,AJ]
  refine c7 h (fun z h=>?_) fun z h=>?_
  ·cases h;rw[c9 z];exact⟨e,rfl,q.val⟩
  ·rw[dW z];exact ih h
theorem OE {es:bS cI}{n:Nat} (r:dF (zj c σ) es.toList fs){f:Nm}{y:V} (h:eG fs f=aa y):∃ v,lookIn (dP f) ⟨.type "dict",au,.dict es n,#[]⟩=aa (aa v)/\er σ.g v y:=by
 obtain⟨e,h1,h2⟩:=V3 r h
 refine⟨e.val,?_,h2⟩
 unfold lookIn
 simp only[h1]
theorem Ds {es:bS cI} (r:dF (zj c σ) es.toList fs):es.any (·.refKey)=ao:=by
 rw[<- TQ]
 generalize es.toList=l at r
 induction r with
 |nil=>rfl
 |cons q _ ih=>
  obtain⟨t,q1⟩:=q.key
  rw[LW,ih,LV]
  unfold DictEntry.refKey;rw[q1]
noncomputable def putL (c:Cx) (l:ah cI) (f:Nm) (t:Tok) (v:av):ah cI:=match l.findIdx? (·.key.isStr (dP f)) with
 |some i=>l.modify i fun e=>{e with val:=v}
 |none=>l++[⟨PyData.keyHash c.w.params (dP f),.str (dP f) t,v⟩]
theorem Vb {l:ah cI} (r:dF (zj c σ) l fs){f:Nm}{y:V}{v:av}{t:Tok} (ey:er σ.g v y):dF (zj c σ) (putL c l f t v) (cL fs f y):=by
 induction r with
 |nil=>exact .cons ⟨⟨t,rfl⟩,rfl,ey⟩ .nil
 | @cons e p l m q hr ih=>
  obtain⟨k,u⟩:=p
  obtain⟨t',q1⟩:=q.key
  unfold putL at ih ⊢
  rw[Ud,q1,AJ]
  by_cases z:k=f
  ·subst z
   rw[vu rfl,c9 rfl]
   exact .cons ⟨⟨t',q1⟩,q.hash,ey⟩ hr
  ·rw[vt z,dW z]
   cases hi:l.findIdx? (·.key.isStr (dP f)) with
   |none=>rw[hi] at ih;exact .cons ⟨⟨t',q1⟩,q.hash,q.val⟩ ih
   |some i=>rw[hi] at ih;exact .cons ⟨⟨t',q1⟩,q.hash,q.val⟩ ih
theorem JT {es:bS cI}{n:Nat} (r:dF (zj c σ) es.toList fs){f:Nm}{y:V}{v:av}{t:Tok} (ey:er σ.g v y):
  ∃ UR n',Obj.putName (dP f) (PyData.keyHash c.w.params (dP f)) (.str (dP f) t) v ⟨.type "dict",au,.dict es n,#[]⟩=⟨.type "dict",au,.dict UR n',#[]⟩/\dF (zj c σ) UR.toList (cL fs f y):=by
 have k:=Vb r ey (f:=f) (t:=t)
 rw[Obj.putName_eq]
 unfold putL at k
 simp only[Obj.putNameByArray]
 rw[show es.findIdx? (·.key.isStr (dP f))=es.toList.findIdx? (·.key.isStr (dP f)) by obtain⟨l⟩:=es;simp]
 cases hi:es.toList.findIdx? (·.key.isStr (dP f)) with
 |some i=>rw[hi] at k;exact⟨_,_,rfl,by simpa using k⟩
 |none=>rw[hi] at k;exact⟨_,_,rfl,by simpa using k⟩
end
theorem any_some {α:Type}{o:aB α}{p:α->aj} (h:o.any p=ag):∃ a,o=aa a/\p a=ag:=by
 cases o with
 |none=>contradiction
 |some a=>exact⟨a,rfl,h⟩
theorem Rn {H:Hp}{a:ax}{fs:ah (Nm×V)} (h:(H a).bind Mo.RD=aa fs):∃ C,H a=aa (.inst C fs):=by
 cases e:H a with
 |none=>rw[e] at h;contradiction
 |some o=>rw[e] at h;cases o with
  |inst C=>cases h;exact⟨C,rfl⟩
  |_=>contradiction
theorem V_ {H:Hp}{a:ax}{C:Cn} (h:(H a).bind Mo.cls?=aa C):∃ fs,H a=aa (.inst C fs):=by
 cases e:H a with
 |none=>rw[e] at h;contradiction
 |some o=>rw[e] at h;cases o with
  |inst C fs=>cases h;exact⟨fs,rfl⟩
  |_=>contradiction
theorem V6 {H:Hp}{a:ax}{fs:ah (Nm×V)} (h:(H a).bind Mo.ZK=aa fs):H a=aa (.i_ fs):=by
 cases e:H a with
 |none=>rw[e] at h;contradiction
 |some o=>rw[e] at h;cases o with
  |i_ fs=>cases h;rfl
  |_=>contradiction
theorem bind_some {α β:Type}{o:aB α}{f:α->aB β}{b:β} (h:o.bind f=aa b):∃ a,o=aa a/\f a=aa b:=by
 cases o with
 |none=>contradiction
 |some a=>exact⟨a,rfl,h⟩
theorem Oh {α:Type}{R:cI->α->Prop}{vs:bS cI}{xs:ah α} (r:dF R vs.toList xs):vs.size=xs.length:=r.length
theorem OR {g:Gh}{v:av}{x:V} (h:er g v x):handedIn v=ag:=by
 cases x with
 |none=>subst h;rfl
 |bool=>subst h;rfl
 |ref=>subst h;rfl
 |int=>obtain⟨t,rfl⟩:=h;rfl
 |str=>obtain⟨t,rfl⟩:=h;rfl
 |bytes=>obtain⟨t,rfl⟩:=h;rfl
 |tup=>obtain⟨t,rfl,_⟩:=h;rfl
 |bE=>obtain⟨t,rfl,_⟩:=h;rfl
 |obj=>obtain⟨t,rfl,_⟩:=h;rfl
theorem Dz {C:Cn}{f:Nm} (h:f∈fieldsOf C):fieldsOf C≠[]:=fun e=>by rw[e] at h;cases h
section
variable {k:Kx}{rz:aj}{X:fk}{L:b5}{σ:Sx}{Q:PV}{v w:av}{x y:V}{f:Nm}{A:bF}{E:av->aF->Prop}
theorem At.VS (z:At k L σ) (h:RA σ.H f x=aa y) (e:er σ.g v x):∃ a C fs,v=.ref a/\iZ k.c σ a C fs/\eG fs f=aa y:=by
 cases x with
 |obj C fs=>obtain⟨a,rfl,h2⟩:=e;exact⟨a,C,fs,rfl,z.rep.yC _ _ h2,h⟩
 |ref a=>
  cases(show v=.ref a from e)
  obtain⟨fs,h1,h2⟩:=bind_some h
  obtain⟨C,h3⟩:=Rn h1
  exact⟨a,C,fs,rfl,z.rep.yJ _ _ h3,h2⟩
 |_=>contradiction
theorem At.ZO (z:At k L σ){C:Cn} (h:A6 σ.H x=aa C) (e:er σ.g v x):∃ a fs,v=.ref a/\iZ k.c σ a C fs:=by
 cases x with
 |obj C fs=>cases h;obtain⟨a,rfl,h2⟩:=e;exact⟨a,fs,rfl,z.rep.yC _ _ h2⟩
 |ref a=>
  cases(show v=.ref a from e)
  obtain⟨fs,h3⟩:=V_ h
  exact⟨a,fs,rfl,z.rep.yJ _ _ h3⟩
 |_=>contradiction
theorem iZ.QH {c:Cx}{a:ax}{C:Cn}{fs:ah (Nm×V)} (I:iZ c σ a C fs):
  ∃ d es n,InstAt σ.s.heap a ⟨.ref (c.T.cA C),aa d,.plain,#[]⟩ (c.T.cA C) (aa ⟨.type "dict",au,.dict es n,#[]⟩)/\σ.get d=aa ⟨.type "dict",au,.dict es n,#[]⟩/\σ.g.D d=aa a/\dF (zj c σ) es.toList fs/\(fs.map (·.1)).Nodup/\∀ p∈fs,p.1∈fieldsOf C:=match I with
 |.mk d e1 e2 (.mk es n e3 e4 e5) e6=>⟨d,es,n,⟨e1,rfl,rfl,e3⟩,e3,e2,e4,e5,e6⟩
theorem At.M7 (z:At k L σ){b:aj} (h:RA σ.H f x=aa y) (ex:er σ.g v x) (q:Q y σ.H):aO k.M A (getAttr v (dP f) b) (fun v s'=>fM (Ok k L σ Q v) s') E σ.s:=by
 obtain⟨a,C,fs,rfl,I,hy⟩:=z.VS h ex
 obtain⟨d,es,n,I',e3,e2,r,nd,hf⟩:=I.QH
 have Jo:=hf _ (AO hy)
 have F:=k.D.cls C (Dz Jo)
 obtain⟨u,h1,h2⟩:=OE (n:=n) r hy
 obtain⟨cd,Zy,hdd⟩:=any_some F.hd
 refine get_value z.here I' F.ga ?_ (OR h2) (z.Pt h2 q)
 unfold findObj
 rw[Zy,pk,F.fld _ Jo]
 show((if cd.hasDict=ag then _ else _:aB _)).bind _=_
 rw[a8 hdd]
 show(lookIn (dP f) ⟨.type "dict",au,.dict es n,#[]⟩).bind _=_
 rw[h1];rfl
theorem At.Nf (z:At k L σ) (h:OO σ.H f x=aa y) (ex:er σ.g v x):∃ a pH u,v=.ref a/\σ.s.heap.DictOf (sk k.c) a pH/\valueAt pH (dP f)=aa u/\er σ.g u y:=by
 cases x with
 |ref a=>
  cases(show v=.ref a from ex)
  obtain⟨fs,h1,h2⟩:=bind_some h
  obtain⟨pH,hd,r⟩:=(z.rep.yJ _ _ (V6 h1):DictAt _ _ _ _).to
  obtain⟨u,h3,h4⟩:=V1 r h2
  exact⟨a,pH,u,rfl,hd,h3,h4⟩
 |_=>contradiction
theorem At.Rz (z:At k L σ){t:Nat} (h:OO σ.H f x=aa y) (ex:er σ.g v x) (q:Q y σ.H):aO k.M A (getItem v (.str (dP f) t)) (fun v s'=>fM (Ok k L σ Q v) s') E σ.s:=by
 obtain⟨a,pH,u,rfl,hd,h1,h2⟩:=z.Nf h ex
 exact TP (K:=Str) (knd:=sk k.c) (k:=dP f) (c9 rfl) hd.mapOf h1 (z.Pt h2 q)
theorem At.V0 (z:At k L σ){t:Nat}{value slice:ay} (h:OO σ.H f x=aa y) (ex:er σ.g v x) (q:Q y σ.H):aO k.M A (subscriptTail value slice v (.str (dP f) t)) (fun v s'=>fM (Ok k L σ Q v) s') E σ.s:=by
 obtain⟨a,pH,u,rfl,hd,h1,h2⟩:=z.Nf h ex
 exact sT hd.mapOf.typeIs slot_dict_getitem.lookup (TP (K:=Str) (knd:=sk k.c) (k:=dP f) (c9 rfl) hd.mapOf h1 (z.Pt h2 q))
theorem At.oku (z:At k L σ){H':Hp}{s':aF}{Q:Hp->Prop}{u:cR} (r:Rel k.c k.frs [] σ ⟨s',σ.g,H'⟩) (q:Q H'):fM (Oku k L σ Q u) s':=⟨_,_,.mk r.le (z.step r) q⟩
theorem Rep.ET {c:Cx} (R:Rep c σ){a:ax}{o:Mo} (h:σ.H a=aa o):¬ σ.Off a:=fun f=>bP f.h h
theorem Rep.noD {c:Cx} (R:Rep c σ){a:ax}{o:Mo} (h:σ.H a=aa o):∀ b,σ.g.D a≠aa b:=fun _ q=>bP (R.dz _ _ q).2 h
theorem Rep.noZ {c:Cx} (R:Rep c σ){a:ax}{o:Mo} (h:σ.H a=aa o):σ.g.Z a=au:=lj fun _ q=>bP (R.zm _ _ q) h
theorem Rel.W9 {c:Cx}{frs:ah ax} (R:Rep c σ){a:ax}{o p:Mo}{h':bB}{tk:Nat} (h:σ.H a=aa o) (hs:∀ b,b≠a->h'.get? b=σ.get b) (m:UG c ⟨(σ.up h' tk).s,σ.g,σ.H.set a p⟩ a p):
  Rel c frs [] σ ⟨(σ.up h' tk).s,σ.g,σ.H.set a p⟩:=
 .put (.refl R) (fun _ _=>R.ET h) (Rel.Ox (frs:=frs) (own:=[]) (.refl R)) ⟨R.noZ h,R.noD h,R.EV a o h,fun b _ n _ e=>(hs b n).trans e,fun b q=>(R.Js b a q).elim fun x e=>⟨x,(hs b fun w=>R.noD h a (w▸q)).trans e⟩⟩ m
theorem At.Mx (z:At k L σ){t:Nat}{Q:Hp->Prop} (h:zg x σ.H f y Q) (ex:er σ.g v x) (ey:er σ.g w y):aO k.M A (setItem v (.str (dP f) t) w) (fun u s'=>fM (Oku k L σ Q u) s') E σ.s:=by
 obtain⟨a,fs,rfl,hz,hl,q⟩:=h
 cases(show v=.ref a from ex)
 obtain⟨pH,hd,r⟩:=(z.rep.yJ _ _ hz:DictAt _ _ _ _).to
 have hn:=hd.choose_spec.choose_spec.choose_spec.2.2.2.2.2
 refine wpAny_setItem_pairs (K:=Str) (knd:=sk k.c) (k:=dP f) (c9 rfl) hd (fun h' Zv hs=>?_) (by have le:pH.length=fs.length:=r.length;rw[l8];exact fw [pH.length,fs.length] eI pT 0x6413101 pS hl le aQ)
 exact z.oku (H':=σ.H.set a (.i_ (cL fs f y))) (Rel.W9 (tk:=σ.s.toks+1) (p:=.i_ (cL fs f y)) z.rep hz hs.2 (DictAt.of (σ:=⟨(σ.up h' (σ.s.toks+1)).s,σ.g,σ.H.set a (.i_ (cL fs f y))⟩) Zv (Hg r hn ey))) q
theorem At.adR (z:At k L σ){a d:ax}{C:Cn}{fs gs:ah (Nm×V)}{es:bS cI}{n:Nat}{h':bB}{tk:Nat}{Q:Hp->Prop}{u:cR} (hz:σ.H a=aa (.inst C fs)) (hx:σ.get a=aa ⟨.ref (k.c.T.cA C),aa d,.plain,#[]⟩) (e2:σ.g.D d=aa a)
  (e5:h'.get? d=aa ⟨.type "dict",au,.dict es n,#[]⟩) (hs:∀ b,b≠d->h'.get? b=σ.get b) (r:dF (zj k.c σ) es.toList gs) (nd:(gs.map (·.1)).Nodup) (hf:∀ p∈gs,p.1∈fieldsOf C) (q:Q (σ.H.set a (.inst C gs))):fM (Oku k L σ Q u) (σ.up h' tk).s:=by
 have R:=z.rep
 have nad:a≠d:=fun e=>R.noD hz a (e▸e2)
 refine z.oku (H':=σ.H.set a (.inst C gs)) (Rel.put (o:=.inst C gs) (.refl R) (fun _ _=>R.ET hz) (Rel.Ox (frs:=k.frs) (own:=[]) (.refl R)) ⟨R.noZ hz,R.noD hz,R.EV a _ hz,fun b _ _ n e=>(hs b fun w=>n (w▸e2)).trans e,fun b q=>?_⟩ ?_) q
 ·by_cases e:b=d
  ·subst e;exact⟨_,e5⟩
  ·exact(R.Js b a q).elim fun x w=>⟨x,(hs b e).trans w⟩
 ·exact .mk d ((hs a nad).trans hx) e2 (.mk es n e5 (r.bT fun _ _ e=>⟨e.key,e.hash,e.val⟩) nd) hf
theorem At.Mw (z:At k L σ){Q:Hp->Prop} (h:xK x σ.H f y Q) (ex:er σ.g v x) (ey:er σ.g w y):aO k.M A (setAttr v (dP f) w) (fun u s'=>fM (Oku k L σ Q u) s') E σ.s:=by
 obtain⟨a,C,fs,rfl,hz,hl,Jo,q⟩:=h
 cases(show v=.ref a from ex)
 have R:=z.rep
 obtain⟨d,es,n,I',e3,e2,r,nd,hf⟩:=iZ.QH (R.yJ _ _ hz)
 have F:=k.D.cls C (Dz Jo)
 obtain⟨cd,Zy,hdd⟩:=any_some F.hd
 have ht:takerIn k.K (k.c.T.cA C) (dP f)=aa au:=by unfold takerIn;rw[F.fld _ Jo];rfl
 have X':k.K.In ({σ.s with toks:=σ.s.toks+1}:aF).heap:=z.here
 have I'':InstAt ({σ.s with toks:=σ.s.toks+1}:aF).heap a ⟨.ref (k.c.T.cA C),aa d,.plain,#[]⟩ (k.c.T.cA C) (aa ⟨.type "dict",au,.dict es n,#[]⟩):=I'
 refine set_plain z.here I' F.sa (osa_open X' I'' F.pl ht fun b=>?_)
 have hx:=I'.at_
 obtain⟨UR,n',e4,r'⟩:=JT (n:=n) (t:=σ.s.toks+1) r ey
 have Zh:UR.size<=100:=aK (gX (Oh r')) (aK (Qe fs f y) hl)
 refine bf (bW (bf (bf (Tx hx (bf ((looks_clsIn X' Zy).here ?_))))))
 rw[hdd]
 refine bW (a:=some d) (bf (bW (bf ?_)))
 unfold nsSet
 refine bf (bf (TO (bW (bf (wpAny_mkText (bf (Tx e3 ?_)))))))
 dsimp only
 rw[aRefKeyMayBeTheName_at,Ds r,L4]
 refine wpAny_updatePart e3 ?_
 have e5:(σ.s.heap.update d (Obj.putName (dP f) (PyData.keyHash k.c.w.params (dP f)) (.str (dP f) (σ.s.toks+1)) w)).get? d=aa ⟨.type "dict",au,.dict UR n',#[]⟩:=by
  rw[<- e4];exact NH _ e3 (by rw[e4];rfl)
 have hs:∀ b,b≠d->(σ.s.heap.update d (Obj.putName (dP f) (PyData.keyHash k.c.w.params (dP f)) (.str (dP f) (σ.s.toks+1)) w)).get? b=σ.get b:=fun b hb=>Jf _ _ (l6 hb)
 refine bf (TN e5 (pastItsLine_dict (by rw[l8];exact cw [UR.size] bJ 0x100000143000 0x6413000 Zh aQ)) ?_)
 exact bW (z.adR hz hx e2 e5 hs r' (Ki nd) (fun p hp=>(HQ hp).elim (fun w=>w▸Jo) (hf p)) q)
end
@[elab_as_elim] theorem Ow {f:aj}{P:d9->Prop}{x:d9} (h:EN x f=ag) (K:f=ag->P (.none)):P x:=
 if q:x.ctorIdx=0 then PySem.Const.none.elim (motive:=fun x=>EN x f=ag->P x) x q (fun h=>K h) h else absurd ((da q).symm.trans h) cj
@[elab_as_elim] theorem wX {f:aj->aj}{P:d9->Prop}{x:d9} (h:EP x f=ag) (K:∀ (a:aj),f a=ag->P (.bool a)):P x:=
 if q:x.ctorIdx=1 then PySem.Const.bool.elim (motive:=fun x=>EP x f=ag->P x) x q (fun a h=>K a h) h else absurd ((da q).symm.trans h) cj
@[elab_as_elim] theorem QR {f:Int->aj}{P:d9->Prop}{x:d9} (h:Kf x f=ag) (K:∀ (a:Int),f a=ag->P (.int a)):P x:=
 if q:x.ctorIdx=2 then PySem.Const.int.elim (motive:=fun x=>Kf x f=ag->P x) x q (fun a h=>K a h) h else absurd ((da q).symm.trans h) cj
@[elab_as_elim] theorem vE {f:Str->aj}{P:d9->Prop}{x:d9} (h:wW x f=ag) (K:∀ (a:Str),f a=ag->P (.str a)):P x:=
 if q:x.ctorIdx=5 then PySem.Const.str.elim (motive:=fun x=>wW x f=ag->P x) x q (fun a h=>K a h) h else absurd ((da q).symm.trans h) cj
@[elab_as_elim] theorem Kg {f:(ah aA)->aj}{P:d9->Prop}{x:d9} (h:Ap x f=ag) (K:∀ (a:ah aA),f a=ag->P (.bytes a)):P x:=
 if q:x.ctorIdx=6 then PySem.Const.bytes.elim (motive:=fun x=>Ap x f=ag->P x) x q (fun a h=>K a h) h else absurd ((da q).symm.trans h) cj
@[elab_as_elim] theorem Aq {f:BoolOp->(ah ay)->aj}{P:ay->Prop}{x:ay} (h:Ar x f=ag) (K:∀ (a:BoolOp) (b:ah ay) (p:Pos),f a b=ag->P (.BoolOp a b p)):P x:=
 if q:x.ctorIdx=0 then PySem.Expr.BoolOp.elim (motive_1:=fun x=>Ar x f=ag->P x) x q (fun a b p h=>K a b p h) h else absurd ((da q).symm.trans h) cj
@[elab_as_elim] theorem Dp {f:ay->ie->ay->aj}{P:ay->Prop}{x:ay} (h:ER x f=ag) (K:∀ (a:ay) (b:ie) (d:ay) (p:Pos),f a b d=ag->P (.BinOp a b d p)):P x:=
 if q:x.ctorIdx=2 then PySem.Expr.BinOp.elim (motive_1:=fun x=>ER x f=ag->P x) x q (fun a b d p h=>K a b d p h) h else absurd ((da q).symm.trans h) cj
@[elab_as_elim] theorem oC {f:UnaryOp->ay->aj}{P:ay->Prop}{x:ay} (h:s6 x f=ag) (K:∀ (a:UnaryOp) (b:ay) (p:Pos),f a b=ag->P (.UnaryOp a b p)):P x:=
 if q:x.ctorIdx=3 then PySem.Expr.UnaryOp.elim (motive_1:=fun x=>s6 x f=ag->P x) x q (fun a b p h=>K a b p h) h else absurd ((da q).symm.trans h) cj
@[elab_as_elim] theorem Dm {f:ay->ay->ay->aj}{P:ay->Prop}{x:ay} (h:EM x f=ag) (K:∀ (a:ay) (b:ay) (d:ay) (p:Pos),f a b d=ag->P (.IfExp a b d p)):P x:=
 if q:x.ctorIdx=5 then PySem.Expr.IfExp.elim (motive_1:=fun x=>EM x f=ag->P x) x q (fun a b d p h=>K a b d p h) h else absurd ((da q).symm.trans h) cj
@[elab_as_elim] theorem HH {f:(ah (aB ay))->(ah ay)->aj}{P:ay->Prop}{x:ay} (h:Kc x f=ag) (K:∀ (a:ah (aB ay)) (b:ah ay) (p:Pos),f a b=ag->P (.Dict a b p)):P x:=
 if q:x.ctorIdx=6 then PySem.Expr.Dict.elim (motive_1:=fun x=>Kc x f=ag->P x) x q (fun a b p h=>K a b p h) h else absurd ((da q).symm.trans h) cj
@[elab_as_elim] theorem qh {f:ay->(ah Comprehension)->bY->aj}{P:ay->Prop}{x:ay} (h:uu x f=ag) (K:∀ (a:ay) (b:ah Comprehension) (d:bY) (p:Pos),f a b d=ag->P (.ListComp a b d p)):P x:=
 if q:x.ctorIdx=8 then PySem.Expr.ListComp.elim (motive_1:=fun x=>uu x f=ag->P x) x q (fun a b d p h=>K a b d p h) h else absurd ((da q).symm.trans h) cj
@[elab_as_elim] theorem oD {f:ay->(ah CmpOp)->(ah ay)->aj}{P:ay->Prop}{x:ay} (h:s7 x f=ag) (K:∀ (a:ay) (b:ah CmpOp) (d:ah ay) (p:Pos),f a b d=ag->P (.Compare a b d p)):P x:=
 if q:x.ctorIdx=15 then PySem.Expr.Compare.elim (motive_1:=fun x=>s7 x f=ag->P x) x q (fun a b d p h=>K a b d p h) h else absurd ((da q).symm.trans h) cj
@[elab_as_elim] theorem rm {f:ay->(ah ay)->(ah Keyword)->Pos->aj}{P:ay->Prop}{x:ay} (h:uv x f=ag) (K:∀ (a:ay) (b:ah ay) (d:ah Keyword) (p:Pos),f a b d p=ag->P (.Call a b d p)):P x:=
 if q:x.ctorIdx=16 then PySem.Expr.Call.elim (motive_1:=fun x=>uv x f=ag->P x) x q (fun a b d p h=>K a b d p h) h else absurd ((da q).symm.trans h) cj
@[elab_as_elim] theorem nq {f:ay->Int->(aB ay)->aj}{P:ay->Prop}{x:ay} (h:kK x f=ag) (K:∀ (a:ay) (b:Int) (d:aB ay) (p:Pos),f a b d=ag->P (.FormattedValue a b d p)):P x:=
 if q:x.ctorIdx=17 then PySem.Expr.FormattedValue.elim (motive_1:=fun x=>kK x f=ag->P x) x q (fun a b d p h=>K a b d p h) h else absurd ((da q).symm.trans h) cj
@[elab_as_elim] theorem tN {f:(ah ay)->aj}{P:ay->Prop}{x:ay} (h:rl x f=ag) (K:∀ (a:ah ay) (p:Pos),f a=ag->P (.JoinedStr a p)):P x:=
 if q:x.ctorIdx=18 then PySem.Expr.JoinedStr.elim (motive_1:=fun x=>rl x f=ag->P x) x q (fun a p h=>K a p h) h else absurd ((da q).symm.trans h) cj
@[elab_as_elim] theorem eQ {f:d9->aj}{P:ay->Prop}{x:ay} (h:gh x f=ag) (K:∀ (a:d9) (b:Nat) (p:Pos),f a=ag->P (.Constant a b p)):P x:=
 if q:x.ctorIdx=19 then PySem.Expr.Constant.elim (motive_1:=fun x=>gh x f=ag->P x) x q (fun a b p h=>K a b p h) h else absurd ((da q).symm.trans h) cj
@[elab_as_elim] theorem lb {f:ay->Str->Pos->aj}{P:ay->Prop}{x:ay} (h:lD x f=ag) (K:∀ (a:ay) (b:Str) (p:Pos),f a b p=ag->P (.Attribute a b p)):P x:=
 if q:x.ctorIdx=20 then PySem.Expr.Attribute.elim (motive_1:=fun x=>lD x f=ag->P x) x q (fun a b p h=>K a b p h) h else absurd ((da q).symm.trans h) cj
@[elab_as_elim] theorem jm {f:ay->ay->aj}{P:ay->Prop}{x:ay} (h:iP x f=ag) (K:∀ (a:ay) (b:ay) (p:Pos),f a b=ag->P (.Subscript a b p)):P x:=
 if q:x.ctorIdx=21 then PySem.Expr.Subscript.elim (motive_1:=fun x=>iP x f=ag->P x) x q (fun a b p h=>K a b p h) h else absurd ((da q).symm.trans h) cj
@[elab_as_elim] theorem QM {f:Str->aj}{P:ay->Prop}{x:ay} (h:EK x f=ag) (K:∀ (a:Str) (p:Pos),f a=ag->P (.Name a p)):P x:=
 if q:x.ctorIdx=23 then PySem.Expr.Name.elim (motive_1:=fun x=>EK x f=ag->P x) x q (fun a p h=>K a p h) h else absurd ((da q).symm.trans h) cj
@[elab_as_elim] theorem HF {f:(ah ay)->aj}{P:ay->Prop}{x:ay} (h:Kb x f=ag) (K:∀ (a:ah ay) (p:Pos),f a=ag->P (.List a p)):P x:=
 if q:x.ctorIdx=24 then PySem.Expr.List.elim (motive_1:=fun x=>Kb x f=ag->P x) x q (fun a p h=>K a p h) h else absurd ((da q).symm.trans h) cj
@[elab_as_elim] theorem pD {f:(ah ay)->aj}{P:ay->Prop}{x:ay} (h:vD x f=ag) (K:∀ (a:ah ay) (b:Nat) (p:Pos),f a=ag->P (.Tuple a b p)):P x:=
 if q:x.ctorIdx=25 then PySem.Expr.Tuple.elim (motive_1:=fun x=>vD x f=ag->P x) x q (fun a b p h=>K a b p h) h else absurd ((da q).symm.trans h) cj
@[elab_as_elim] theorem Ot {f:(aB ay)->(aB ay)->(aB ay)->aj}{P:ay->Prop}{x:ay} (h:EG x f=ag) (K:∀ (a:aB ay) (b:aB ay) (d:aB ay) (p:Pos),f a b d=ag->P (.Slice a b d p)):P x:=
 if q:x.ctorIdx=26 then PySem.Expr.Slice.elim (motive_1:=fun x=>EG x f=ag->P x) x q (fun a b d p h=>K a b d p h) h else absurd ((da q).symm.trans h) cj
@[elab_as_elim] theorem rk {f:(aB ay)->aj}{P:aY->Prop}{x:aY} (h:pE x f=ag) (K:∀ (a:aB ay) (p:Pos),f a=ag->P (.Return a p)):P x:=
 if q:x.ctorIdx=3 then PySem.Stmt.Return.elim (motive_2:=fun x=>pE x f=ag->P x) x q (fun a p h=>K a p h) h else absurd ((da q).symm.trans h) cj
@[elab_as_elim] theorem HE {f:(ah ay)->ay->aj}{P:aY->Prop}{x:aY} (h:wV x f=ag) (K:∀ (a:ah ay) (b:ay) (p:Pos),f a b=ag->P (.Assign a b p)):P x:=
 if q:x.ctorIdx=5 then PySem.Stmt.Assign.elim (motive_2:=fun x=>wV x f=ag->P x) x q (fun a b p h=>K a b p h) h else absurd ((da q).symm.trans h) cj
@[elab_as_elim] theorem nk {f:ay->ie->ay->aj}{P:aY->Prop}{x:aY} (h:jY x f=ag) (K:∀ (a:ay) (b:ie) (d:ay) (p:Pos),f a b d=ag->P (.AugAssign a b d p)):P x:=
 if q:x.ctorIdx=7 then PySem.Stmt.AugAssign.elim (motive_2:=fun x=>jY x f=ag->P x) x q (fun a b d p h=>K a b d p h) h else absurd ((da q).symm.trans h) cj
@[elab_as_elim] theorem HD {f:ay->ay->(ah aY)->(ah aY)->aj}{P:aY->Prop}{x:aY} (h:EI x f=ag) (K:∀ (a:ay) (b:ay) (d:ah aY) (e:ah aY) (p:Pos),f a b d e=ag->P (.For a b d e p)):P x:=
 if q:x.ctorIdx=9 then PySem.Stmt.For.elim (motive_2:=fun x=>EI x f=ag->P x) x q (fun a b d e p h=>K a b d e p h) h else absurd ((da q).symm.trans h) cj
@[elab_as_elim] theorem J6 {f:ay->(ah aY)->(ah aY)->aj}{P:aY->Prop}{x:aY} (h:Am x f=ag) (K:∀ (a:ay) (b:ah aY) (d:ah aY) (p:Pos),f a b d=ag->P (.While a b d p)):P x:=
 if q:x.ctorIdx=11 then PySem.Stmt.While.elim (motive_2:=fun x=>Am x f=ag->P x) x q (fun a b d p h=>K a b d p h) h else absurd ((da q).symm.trans h) cj
@[elab_as_elim] theorem Vw {f:ay->(ah aY)->(ah aY)->aj}{P:aY->Prop}{x:aY} (h:QL x f=ag) (K:∀ (a:ay) (b:ah aY) (d:ah aY) (p:Pos),f a b d=ag->P (.If a b d p)):P x:=
 if q:x.ctorIdx=12 then PySem.Stmt.If.elim (motive_2:=fun x=>QL x f=ag->P x) x q (fun a b d p h=>K a b d p h) h else absurd ((da q).symm.trans h) cj
@[elab_as_elim] theorem J_ {f:(aB ay)->(aB ay)->aj}{P:aY->Prop}{x:aY} (h:An x f=ag) (K:∀ (a:aB ay) (b:aB ay) (p:Pos),f a b=ag->P (.Raise a b p)):P x:=
 if q:x.ctorIdx=16 then PySem.Stmt.Raise.elim (motive_2:=fun x=>An x f=ag->P x) x q (fun a b p h=>K a b p h) h else absurd ((da q).symm.trans h) cj
@[elab_as_elim] theorem QK {f:(ah aY)->(ah ExceptHandler)->(ah aY)->(ah aY)->aj}{P:aY->Prop}{x:aY} (h:J7 x f=ag) (K:∀ (a:ah aY) (b:ah ExceptHandler) (d:ah aY) (e:ah aY) (p:Pos),f a b d e=ag->P (.Try a b d e p)):P x:=
 if q:x.ctorIdx=17 then PySem.Stmt.Try.elim (motive_2:=fun x=>J7 x f=ag->P x) x q (fun a b d e p h=>K a b d e p h) h else absurd ((da q).symm.trans h) cj
@[elab_as_elim] theorem Ov {f:PySem.Expr->aj}{P:aY->Prop}{x:aY} (h:EJ x f=ag) (K:∀ (a:PySem.Expr) (p:Pos),f a=ag->P (.Expr a p)):P x:=
 if q:x.ctorIdx=24 then PySem.Stmt.Expr.elim (motive_2:=fun x=>EJ x f=ag->P x) x q (fun a p h=>K a p h) h else absurd ((da q).symm.trans h) cj
@[elab_as_elim] theorem Ou {f:aj}{P:aY->Prop}{x:aY} (h:EH x f=ag) (K:∀ (p:Pos),f=ag->P (.Pass p)):P x:=
 if q:x.ctorIdx=25 then PySem.Stmt.Pass.elim (motive_2:=fun x=>EH x f=ag->P x) x q (fun p h=>K p h) h else absurd ((da q).symm.trans h) cj
@[elab_as_elim] theorem Ka {f:aj}{P:aY->Prop}{x:aY} (h:Ao x f=ag) (K:∀ (p:Pos),f=ag->P (.Break p)):P x:=
 if q:x.ctorIdx=26 then PySem.Stmt.Break.elim (motive_2:=fun x=>Ao x f=ag->P x) x q (fun p h=>K p h) h else absurd ((da q).symm.trans h) cj
@[elab_as_elim] theorem gP {n:Str}{P:ay->Prop}{y:ay} (h:nu n y=ag) (K:∀ p,P (.Name n p)):P y:=QM (P:=P) h fun id p h=>(eq_of_beq h:id=n)▸K p
@[elab_as_elim] theorem mP {n:Str}{g:ah ay->aj}{P:ay->Prop}{y:ay} (h:s8 n y g=ag) (K:∀ q xs p,g xs=ag->P (.Call (.Name n q) xs [] p)):P y:=
 rm (P:=P) h fun f xs Kq p h=>gP (P:=fun f=>P (.Call f xs Kq p)) (aU (aU h)) fun q=>tw (P:=fun Kq=>P (.Call (.Name n q) xs Kq p)) (bx (aU h)) (K q xs p (bx h))
@[elab_as_elim] theorem lF {sc:bY}{e:E}{es:Es}{l:ah ay}{P:ah ay->Prop} (h:u1 sc (.cons e es) l=ag) (K:∀ x xs,mE sc e x=ag->u1 sc es xs=ag->x.ctorIdx≠22->P (x::xs)):P l:=match l,h with
 |[],h=>by contradiction
 |x::xs,h=>K x xs (bx (aU h)) (bx h) (l7.mp (aU (aU h)))
def SE (e:E):Prop:=∀ {k:Kx}{rz:aj}{L:b5}{σ:Sx}{x:ay}{P:PV}{X:fk},At k L σ->mE k.sc e x=ag->wE k.C e L σ.H P (lZ X L)->W k rz (eval x k.env) (Ok k L σ P) X σ
def Ml (e:Es):Prop:=∀ {k:Kx}{rz:aj}{L:b5}{σ:Sx}{x:ah ay}{P:ah V->Hp->Prop}{X:fk}{pos:Pos},At k L σ->u1 k.sc e x=ag->wEs k.C e L σ.H P (lZ X L)->W k rz (spliced (backTo pos (starEach x k.env))) (Oks k L σ P) X σ
def ST (e:E):Prop:=∀ {k:Kx}{rz:aj}{L:b5}{σ:Sx}{x:ay}{R:PV}{P:aj->Hp->Prop}{X:fk},At k L σ->mE k.sc e x=ag->wE k.C e L σ.H R (lZ X L)->(∀ v H,R v H->Got (truth H v) fun t=>P t H)->
 W k rz (isTrue x k.env (eval x k.env)) (WW k L σ P) X σ
def SB (e:Es):Prop:=∀ {k:Kx}{rz j:aj}{L:b5}{σ:Sx}{x:ah ay}{P:PV}{X:fk}{pos:Pos},At k L σ->u1 k.sc e x=ag->wB k.C j e L σ.H P (lZ X L)->W k rz (boolOp pos (cond j .And .Or) (evalEach x k.env)) (Ok k L σ P) X σ
def SBt (e:Es):Prop:=∀ {k:Kx}{rz j:aj}{L:b5}{σ:Sx}{x:ah ay}{R:PV}{P:aj->Hp->Prop}{X:fk},At k L σ->u1 k.sc e x=ag->wB k.C j e L σ.H R (lZ X L)->(∀ v H,R v H->Got (truth H v) fun t=>P t H)->
 W k rz (allTrue (cond j .And .Or) x k.env) (WW k L σ P) X σ
section
variable {k:Kx}{rz:aj}{L:b5}{σ ρ:Sx}{x:ay}{P Q':PV}{X:fk}{α:Type}{e:E}{Q:α->Sx->Prop}
namespace W
theorem nG {m:Sem av}{f:av->Sem α} (h:W k rz m (Ok k L σ P) X ρ) (K:∀ v τ x,er τ.g v x->σ.g.le τ.g->At k L τ->P x τ.H->W k rz (f v) Q X τ):W k rz (m>>=f) Q X ρ:=bind h fun v τ o=>match o with |.mk x e l z q=>K v τ x e l z q
theorem Y7 {m:Sem av}{Q:av->Sx->Prop} (h:W k rz m (Ok k L σ P) X ρ) (K:∀ v τ x,er τ.g v x->σ.g.le τ.g->At k L τ->P x τ.H->Q v τ):W k rz m Q X ρ:=bT h fun v τ o=>match o with |.mk x e l z q=>K v τ x e l z q
theorem FG {m:Sem (ah av)}{f:ah av->Sem α}{P:ah V->Hp->Prop} (h:W k rz m (Oks k L σ P) X ρ) (K:∀ v τ x,dF (er τ.g) v x->σ.g.le τ.g->At k L τ->P x τ.H->W k rz (f v) Q X τ):W k rz (m>>=f) Q X ρ:=bind h fun v τ o=>match o with |.mk x e l z q=>K v τ x e l z q
theorem qr {m:Sem aj}{f:aj->Sem α}{P:aj->Hp->Prop} (h:W k rz m (WW k L σ P) X ρ) (K:∀ v τ,σ.g.le τ.g->At k L τ->P v τ.H->W k rz (f v) Q X τ):W k rz (m>>=f) Q X ρ:=bind h fun v τ o=>match o with |.mk l z q=>K v τ l z q
theorem VF {m:Sem aj}{Q:aj->Sx->Prop}{P:aj->Hp->Prop} (h:W k rz m (WW k L σ P) X ρ) (K:∀ v τ,σ.g.le τ.g->At k L τ->P v τ.H->Q v τ):W k rz m Q X ρ:=bT h fun v τ o=>match o with |.mk l z q=>K v τ l z q
theorem v_ {m:Sem cR}{f:cR->Sem α}{P:Hp->Prop} (h:W k rz m (Oku k L σ P) X ρ) (K:∀ τ,σ.g.le τ.g->At k L τ->P τ.H->W k rz (f ()) Q X τ):W k rz (m>>=f) Q X ρ:=bind h fun v τ o=>match o with |.mk l z q=>K τ l z q
theorem later {m:Sem av} (l:σ.g.le ρ.g){τ:Sx} (h:W k rz m (Ok k L ρ P) X τ):W k rz m (Ok k L σ P) X τ:=bT h fun _ _=>Ok.from l
theorem E4 {m:Sem av}{hp:bB}{tk:Nat} (l:σ.g.le ρ.g){τ:Sx} (h:W k rz m (Ok k L (ρ.up hp tk) P) X τ):W k rz m (Ok k L σ P) X τ:=bT h fun _ _=>Ok.from (τ:=ρ.up hp tk) l
theorem uA {m:Sem aj}{P:aj->Hp->Prop} (l:σ.g.le ρ.g){τ:Sx} (h:W k rz m (WW k L ρ P) X τ):W k rz m (WW k L σ P) X τ:=VF h fun _ _ l' z q=>.mk (l.trans l') z q
theorem eq {m m':Sem α} (e:m=m') (h:W k rz m' Q X σ):W k rz m Q X σ:=e▸h
theorem rel {vs keep:ah av}{f:cR->Sem α} (h:W k rz (f ()) Q X σ):W k rz (PySem.release vs keep>>=f) Q X σ:=bind (P:=fun _ τ=>τ=σ) (release rfl) fun _ _ e=>e▸h
theorem ite {c:Prop} [cN c] {a b:Sem α} (h:c->W k rz a Q X σ) (h':¬ c->W k rz b Q X σ):W k rz (if c then a else b) Q X σ:=if q:c then eq (a8 q) (h q) else eq (bb q) (h' q)
end W
theorem SE.step (S:SE e){f:av->Sem α} (z:At k L σ) (hm:mE k.sc e x=ag) (h:wE k.C e L σ.H P (lZ X L)) (K:∀ v τ x,er τ.g v x->σ.g.le τ.g->At k L τ->P x τ.H->W k rz (f v) Q X τ):W k rz (eval x k.env>>=f) Q X σ:=W.nG (S z hm h) K
theorem SE.pA (S:SE e){f:av->Sem α}{vs:ah av} (z:At k L σ) (hm:mE k.sc e x=ag) (h:wE k.C e L σ.H P (lZ X L)) (K:∀ v τ x,er τ.g v x->σ.g.le τ.g->At k L τ->P x τ.H->W k rz (f v) Q X τ):W k rz (holding vs (eval x k.env)>>=f) Q X σ:=W.nG (W.holding (S z hm h)) K
theorem WH:SE .none:=fun{k rz L σ x P X} z hm h=>eQ hm fun c n p hc=>Ow hc fun _=>W.pure (z.now (x:=.none) rfl h)
theorem WS {b:aj}:SE (.bool b):=fun{k rz L σ x P X} z hm h=>eQ hm fun c n p hc=>wX hc fun d hd=>W.pure (z.now (x:=.bool b) (aW Value.bool (eq_of_beq hd)) h)
theorem aax {i:Int}:SE (.int i):=fun{k rz L σ x P X} z hm h=>eQ hm fun c n p hc=>QR hc fun d hd=>W.any (wpAny_Constant_int (z.HL (eq_of_beq hd) h))
theorem GK:SE .cK:=fun{k rz L σ x P X} z hm h=>eQ hm fun c n p hc=>vE hc fun s hs=>W.any (GD (z.Pt (x:=.str s) ⟨_,rfl⟩ (h s (ig hs))))
theorem HT (z:At k L σ){x:Nm}{v:V} (h:L x=aa v){P:av->Sx->Prop} (K:∀ u,er σ.g u v->P u σ):W k rz (loadName k.env (dP x)) P X σ:=by
 obtain⟨u,e,a⟩:=z.loc x v h
 have q:fM (P u) σ.s:=⟨σ.g,σ.H,K u e⟩
 cases a with
 |loc a m hn hv=>exact W.any (wpAny_loadName_local k.kind a hn hv q)
 |cell a c hc hi=>
  rcases a with a |a
  ·exact W.any (wpAny_loadName_cell k.kind a hc hi q)
  ·exact W.any (wpAny_loadName_free k.kind a hc hi q (Aw x).2)
theorem W.Name {n:Str}{p:Pos}{Q:av->Sx->Prop} (hd:(n==("__debug__":Str))=ao) (h:W k rz (loadName k.env n) Q X σ):W k rz (eval (.Name n p) k.env) Q X σ:=.eq (eval_Name k.env n p hd) (.cY h)
theorem aar {x:Nm}:SE (.aC x):=fun{k rz L σ y P X} z hm h=>gP hm fun p=>W.Name (Aw x).1 (match h with |.mk v e q=>HT z e fun u eu=>z.now eu q)
theorem Dt {n:Str} (hg:oX k.sc n=ag):loadName k.env n=loadGlobal k.env n:=by
 have hk:k.env.kindOf n=aa .globalImplicit:=eq_of_beq hg
 unfold loadName Env.blockKind
 rw[hk,k.kind]
 rfl
theorem kM {A':bF}{E':av->aF->Prop} (z:At k L σ){n:Str}{v:av} (hg:oX k.sc n=ag) (h:nsIn k.K mainGlobals n=aa (aa v)){P:av->aF->Prop} (q:P v σ.s):aO k.M A' (loadName k.env n) P E' σ.s:=by
 rw[Dt hg]
 unfold loadGlobal
 rw[k.gl]
 exact bf ((LB z.here h).here (bW q))
theorem AA {A':bF}{E':av->aF->Prop} (z:At k L σ){n:Str}{v:av} (hg:oX k.sc n=ag) (h:nsIn k.K mainGlobals n=aa au/\nsIn k.K builtinsNs n=aa (aa v)){P:av->aF->Prop} (q:P v σ.s):aO k.M A' (loadName k.env n) P E' σ.s:=by
 rw[Dt hg]
 unfold loadGlobal
 rw[k.gl,k.bl]
 exact bf ((LB z.here h.1).here (bf ((LB z.here h.2).here (bW q))))
theorem WM {g:Nm}:SE (.glob g):=fun{k rz L σ y P X} z hm h=>gP (aU hm) fun p=>W.Name (Aw g).1 (match h with |.mk i e q=>(k.D.gk g i e).elim fun t ht=>W.any (kM z (bx hm) ht (z.okN (x:=.int i) ⟨t,rfl⟩ q)))
theorem UC {bs:ah Nat}:SE (.bytes bs):=fun{k rz L σ x P X} z hm h=>eQ hm fun c n p hc=>Kg hc fun d hd=>by
 rw[eq_of_beq hd]
 exact W.any (PySem.W.Constant_bytes (z.okB rfl h))
theorem aaA {op:Bo}{a b:E} (S:SE a) (T:SE b):SE (.bR op a b):=fun{k rz L σ x P X} z hm h=>Dp hm fun l o r p hh=>by
 obtain rfl:=eq_of_beq (aU (aU hh))
 rw[eval_BinOp]
 exact S.step z (bx (aU hh)) h fun v τ y e l z q=>T.pA z (bx hh) q fun w τ' y' e' l' z q=>W.cY (W.operate ((z.Sj (e.le l') e' q).later (l.trans l')))
theorem aau {a:E} (S:SE a):SE (.neg a):=fun{k rz L σ x P X} z hm h=>oC hm fun o y p hh=>by
 obtain rfl:=eq_of_beq (aU hh)
 rw[TM]
 refine S.step z (bx hh) h fun v τ y e l z q=>W.cY (W.holding ?_)
 obtain⟨i,rfl,q⟩:=q
 obtain⟨t,rfl⟩:=e
 exact(W.any (aad (z.HL rfl q))).later l
theorem aas {a:E} (S:SE a):SE (.kL a):=fun{k rz L σ x P X} z hm h=>oC hm fun o y p hh=>by
 obtain rfl:=eq_of_beq (aU hh)
 rw[TM]
 refine S.step z (bx hh) h fun v τ y e l z q=>W.cY (W.holding ?_)
 obtain⟨t,ht,q⟩:=q
 exact(W.any (PySem.not_value (z.wN ht e fun tk=>z.Pt (x:=.bool (!t)) rfl q))).later l
theorem Qb (S:SE e){R:PV}{P:aj->Hp->Prop} (z:At k L σ) (hm:mE k.sc e x=ag) (h:wE k.C e L σ.H R (lZ X L)) (hR:∀ v H,R v H->Got (truth H v) fun t=>P t H)
  (he:isTrue x k.env (eval x k.env)=(do let v <- eval x k.env;standAt x.pos;holding [v] (truthy v))):W k rz (isTrue x k.env (eval x k.env)) (WW k L σ P) X σ:=by
 rw[he]
 refine S.step z hm h fun v τ y e l z q=>W.cY (W.holding ?_)
 obtain⟨t,ht,q⟩:=hR _ _ q
 exact(W.any (z.wN ht e fun tk=>z.adX (b:=t) q)).uA l
theorem aai {a:E} (S:ST a):ST (.kL a):=fun{k rz L σ x R P X} z hm h hR=>oC hm fun o y p hh=>by
 obtain rfl:=eq_of_beq (aU hh)
 rw[arm_isTrue_UnaryOp]
 refine W.qr (S (P:=fun t H=>P (!t) H) z (bx hh) h fun v H q=>?_) fun b τ l z q=>W.pure (.mk l z q)
 obtain⟨t,ht,q⟩:=q
 obtain⟨t',ht',q⟩:=hR _ _ q
 cases ht'
 exact⟨t,ht,q⟩
theorem aaw {d a b:E} (S:ST d) (T:SE a) (U:SE b):SE (.ite d a b):=fun{k rz L σ x P X} z hm h=>Dm hm fun t u v p hh=>by
 rw[arm_eval_IfExp]
 refine W.qr (S (P:=fun t H=>cond t (wE k.C a L H P (lZ X L)) (wE k.C b L H P (lZ X L))) z (aU (aU hh)) h fun v H q=>q) fun t τ l z q=>?_
 cases t
 ·exact W.eq (bb cj) ((U z (bx hh) q).later l)
 ·exact W.eq (a8 rfl) ((T z (bx (aU hh)) q).later l)
theorem aaj {d a b:E} (S:ST d) (T:ST a) (U:ST b):ST (.ite d a b):=fun{k rz L σ x R P X} z hm h hR=>Dm hm fun t u v p hh=>by
 rw[arm_isTrue_IfExp]
 refine W.qr (S (P:=fun t H=>cond t (wE k.C a L H R (lZ X L)) (wE k.C b L H R (lZ X L))) z (aU (aU hh)) h fun v H q=>q) fun t τ l z q=>?_
 cases t
 ·exact W.eq (bb cj) ((U z (bx hh) q hR).uA l)
 ·exact W.eq (a8 rfl) ((T z (bx (aU hh)) q hR).uA l)
theorem aaz {op:Co}{a b:E} (S:SE a) (T:SE b):SE (.cB a op b):=fun{k rz L σ x P X} z hm h=>oD hm fun l os rs p hh=>rA hh fun o hh=>rA hh fun r hh=>by
 obtain rfl:=eq_of_beq (aU (aU (aU hh)))
 rw[eval_Compare1,Yg (not_of (bx hh))]
 exact S.step z (bx (aU (aU hh))) h fun v τ y e l z q=>T.pA z (bx (aU hh)) q fun w τ' y' e' l' z q=>W.cY (W.operate ((W.any (z.rP q (e.le l') e' fun b q=>z.okN (x:=.bool b) rfl q)).later (l.trans l')))
theorem aak {op:Co}{a b:E} (S:SE a) (T:SE b):ST (.cB a op b):=fun{k rz L σ x R P X} z hm h hR=>oD hm fun l os rs p hh=>rA hh fun o hh=>rA hh fun r hh=>by
 obtain rfl:=eq_of_beq (aU (aU (aU hh)))
 rw[PySem.isTrue_Compare1,Yg (not_of (bx hh))]
 refine S.step z (bx (aU (aU hh))) h fun v τ y e l z q=>T.pA z (bx (aU hh)) q fun w τ' y' e' l' z q=>W.cY ?_
 refine W.bind (W.operate (W.any (z.rP (P:=fun v s'=>fM (fun ρ=>ρ=τ'/\∃ b,v=.bool b/\R (.bool b) τ'.H) s') q (e.le l') e' fun b q=>⟨τ'.g,τ'.H,rfl,b,rfl,q⟩))) fun c ρ hc=>W.holding ?_
 obtain⟨rfl,b,rfl,q⟩:=hc
 obtain⟨t,ht,q⟩:=hR _ _ q
 cases ht
 exact(W.any (xH (z.abv q))).uA (l.trans l')
end
section
variable {k:Kx}{rz:aj}{L:b5}{σ ρ:Sx}{x:ay}{P Q':PV}{X:fk}{α:Type}{e:E}
theorem AF {o o2:CmpOp}{r r2:ay} (h:behindInMarks o2 r2=ao):lastMarks [o,o2] [r,r2]=ao:=h
theorem At.acx (z:At k L σ){op:Co}{x y:V}{v w:av}{R:aj->Prop} (h:yj op x y σ.H R) (ex:er σ.g v x) (ey:er σ.g w y){α:Type}{f:av->Sem α}{Q:α->Sx->Prop} (K:∀ b,R b->W k rz (f (.bool b)) Q X σ):
  W k rz (PySem.holding [v,w] (compareOp op.op v w)>>=f) Q X σ:=
 W.bind (W.holding (W.any (z.rP (P:=fun c s'=>fM (fun ρ=>ρ=σ/\∃ b,c=.bool b/\R b) s') h ex ey fun b q=>⟨σ.g,σ.H,rfl,b,rfl,q⟩))) fun c ρ hc=>match hc with |⟨e1,b,e2,q⟩=>by subst e1 e2;exact K b q
theorem W.aa5 (z:At k L σ){b:aj}{vs:ah av}{α:Type}{f:aj->Sem α}{Q:α->Sx->Prop} (h:W k rz (f b) Q X σ):W k rz (PySem.holding vs (truthy (.bool b))>>=f) Q X σ:=
 W.bind (P:=fun t ρ=>t=b/\ρ=σ) (W.holding (W.any (xH ⟨σ.g,σ.H,rfl,rfl⟩))) fun t ρ hc=>match hc with |⟨e1,e2⟩=>by subst e1 e2;exact h
theorem WR {op Vu:Co}{a b d:E} (S:SE a) (T:SE b) (U:SE d):SE (.KN a op b Vu d):=fun{k rz L σ x P X} z hm h=>oD hm fun l os rs p hh=>OI hh fun o o2 hh=>OI hh fun r r2 hh=>by
 obtain rfl:=eq_of_beq (ir (aU hh))
 obtain rfl:=eq_of_beq (bx (ir hh))
 rw[arm_eval_Compare,Uk _ _ _ (AF (not_of (bx hh)))]
 refine S.step z (bx (aU (aU (aU hh)))) h fun v τ y e l z q=>?_
 refine T.pA z (bx (aU (aU hh))) q fun w τ' y' e' l' z q=>W.cY (z.acx q (e.le l') e' fun b q=>W.rel (W.aa5 z ?_))
 cases b
 ·exact W.pure (.mk (.bool ao) rfl (l.trans l') z q)
 ·exact U.pA z (bx (aU hh)) q fun u τ3 y3 e3 l3 z q=>W.cY (W.operate (W.later (l.trans (l'.trans l3)) (W.any (z.rP q (e'.le l3) e3 fun b q=>z.okN (x:=.bool b) rfl q))))
theorem Wy {op Vu:Co}{a b d:E} (S:SE a) (T:SE b) (U:SE d):ST (.KN a op b Vu d):=fun{k rz L σ x R P X} z hm h hR=>oD hm fun l os rs p hh=>OI hh fun o o2 hh=>OI hh fun r r2 hh=>by
 obtain rfl:=eq_of_beq (ir (aU hh))
 obtain rfl:=eq_of_beq (bx (ir hh))
 rw[arm_isTrue_Compare,Uk _ _ _ (AF (not_of (bx hh)))]
 have fin:∀ {b:aj}{H:Hp},R (.bool b) H->P b H:=fun q=>match hR _ _ q with |.mk t e q=>eS e▸q
 refine S.step z (bx (aU (aU (aU hh)))) h fun v τ y e l z q=>?_
 refine T.pA z (bx (aU (aU hh))) q fun w τ' y' e' l' z q=>W.cY (z.acx q (e.le l') e' fun b q=>W.rel (W.aa5 z ?_))
 cases b
 ·exact W.pure (.mk (l.trans l') z (fin q))
 ·exact U.pA z (bx (aU hh)) q fun u τ3 y3 e3 l3 z q=>W.cY (W.bind (P:=fun c ρ=>ρ=τ3/\∃ b,c=.bool b/\R (.bool b) τ3.H) (W.operate (W.any (z.rP q (e'.le l3) e3 fun b q=>⟨τ3.g,τ3.H,rfl,b,rfl,q⟩))) fun c ρ hc=>W.holding (by
   obtain⟨rfl,b,rfl,q⟩:=hc
   exact(W.any (xH (z.abv (fin q)))).uA (l.trans (l'.trans l3))))
theorem qj {sc:bY}{l:ah ay} (h:u1 sc .nil l=ag):l=[]:=tw (P:=fun l=>l=[]) h rfl
theorem WU {e:E}{es:Es} (S:SE e) (T:SB es):SB (.cons e es):=fun{k rz j L σ x P X pos} z hm h=>lF hm fun x xs h1 h2 h0=>by
 cases es with
 |nil=>obtain rfl:=qj h2;exact S z h1 h
 |cons e' UR=>
  refine lF (P:=fun xs=>W k rz (boolOp pos (cond j .And .Or) (evalEach (x::xs) k.env)) (Ok k L σ P) X σ) h2 fun x' xs h3 h4 h5=>?_
  have t:∀ {τ:Sx},At k L τ->wB k.C j (.cons e' UR) L τ.H P (lZ X L)->W k rz (boolOp pos (cond j .And .Or) (evalEach (x'::xs) k.env)) (Ok k L τ P) X τ:=fun z h=>T z (ed.mpr ⟨ed.mpr ⟨l7.mpr h5,h3⟩,h4⟩) h
  refine S.step z h1 h fun v τ y e l z q=>W.cY ?_
  obtain⟨b,hb,q⟩:=q
  refine W.bind (P:=fun c ρ=>c=b/\∃ tk,ρ=τ.up τ.s.heap tk) (W.holding (W.any (z.wN hb e fun tk=>⟨τ.g,τ.H,rfl,tk,rfl⟩))) fun c ρ hc=>?_
  obtain⟨rfl,tk,rfl⟩:=hc
  cases j<;>cases c
  ·exact W.E4 l (t (z.tok (tk:=tk)) q)
  ·exact W.pure (.mk y e l z.tok q)
  ·exact W.pure (.mk y e l z.tok q)
  ·exact W.E4 l (t (z.tok (tk:=tk)) q)
theorem UD {e:E}{es:Es} (S:ST e) (T:SBt es):SBt (.cons e es):=fun{k rz j L σ x R P X} z hm h hR=>lF hm fun x xs h1 h2 h0=>by
 rw[arm_allTrue_cons]
 cases es with
 |nil=>
  obtain rfl:=qj h2
  refine W.qr (S z h1 h hR) fun b τ l z q=>?_
  cases j<;>cases b<;>exact W.pure (.mk l z q)
 |cons e' UR=>
  refine W.qr (S (P:=fun t H=>cond (t==j) (wB k.C j (.cons e' UR) L H R (lZ X L)) (P t H)) z h1 h fun v H q=>?_) fun b τ l z q=>?_
  ·obtain⟨t,ht,q⟩:=q
   refine⟨t,ht,?_⟩
   generalize (t==j)=b at q ⊢
   cases b
   ·obtain⟨t',ht',q⟩:=hR _ _ q
    rw[ht] at ht';cases ht';exact q
   ·exact q
  ·cases j<;>cases b
   ·exact(T z h2 q hR).uA l
   ·exact W.pure (.mk l z q)
   ·exact W.pure (.mk l z q)
   ·exact(T z h2 q hR).uA l
theorem Pn {j:aj}{es:Es} (T:SB es):SE (.b7 j es):=fun{k rz L σ x P X} z hm h=>Aq hm fun o xs p hh=>by
 obtain rfl:=eq_of_beq (aU hh)
 exact T z (bx hh) h
theorem Pj {j:aj}{es:Es} (T:SBt es):ST (.b7 j es):=fun{k rz L σ x R P X} z hm h hR=>Aq hm fun o xs p hh=>by
 obtain rfl:=eq_of_beq (aU hh)
 rw[arm_isTrue_BoolOp]
 exact T z (bx hh) h hR
theorem Bl {v:ay}{a:Str}{env:Env}{t:Sem av} (h:Av v=ag):attributeBase v a env t=t:=by
 cases v with
 |Call f xs Kq p=>
  cases f with
  |Name id q=>
   cases xs with
   |nil=>
    cases Kq with
    |nil=>
     have n:(id==("super":Str))=ao:=not_of h
     unfold attributeBase
     exact a8 (by rw[show(id != ("super":Str))=!(id==("super":Str)) from rfl,n];rfl)
    |cons=>rfl
   |cons=>rfl
  |_=>rfl
 |_=>rfl
theorem WT {e:E}{f:Nm} (S:SE e):SE (.aV e f):=fun{k rz L σ x P X} z hm h=>lb hm fun v a p hh=>by
 obtain rfl:=eq_of_beq (aU (aU hh))
 rw[arm_eval_Attribute,Bl (bx hh)]
 refine S.step z (bx (aU hh)) h fun v τ y e l z q=>W.cY ?_
 obtain⟨u,hu,q⟩:=q
 exact W.nG (W.holding (W.any (z.M7 hu e q))) fun r τ' y' e' l' z q=>W.leaf (XZ ⟨τ'.g,τ'.H,W.pure (.mk y' e' (l.trans l') z q)⟩)
theorem W.sub {a b:ay}{p:Pos}{Q:av->Sx->Prop} (h:W k rz (eval a k.env>>=fun o=>PySem.holding [o] (eval b k.env)>>=fun i=>PySem.standAt p>>=fun _=>subscriptTail a b o i) Q X σ):W k rz (eval (.Subscript a b p) k.env) Q X σ:=.eq (arm_eval_Subscript ..) h
theorem aav {e:E}{f:Nm} (S:SE e):SE (.key e f):=fun{k rz L σ x P X} z hm h=>jm hm fun v sl p hh=>eQ (aU hh) fun c n q hc=>vE hc fun s hs=>W.sub (S.step z (bx hh) h fun o τ y e l z q=>match q with
 |.mk u hu q=>by
  obtain rfl:=eq_of_beq hs
  refine W.bind (P:=fun i ρ=>i=.str (dP f) τ.s.toks/\ρ=τ.up τ.s.heap (τ.s.toks+1)) (W.holding (W.any (GD ⟨τ.g,τ.H,rfl,rfl⟩))) fun i ρ hi=>?_
  obtain⟨rfl,rfl⟩:=hi
  exact W.cY (W.E4 l (W.any (z.tok.V0 hu e q))))
theorem aay {e i:E} (S:SE e) (T:SE i):SE (.idx e i):=fun{k rz L σ x P X} z hm h=>jm hm fun v sl p hh=>W.sub (S.step z (aU hh) h fun o τ y e l z q=>T.pA z (bx hh) q fun i τ' y' e' l' z q=>W.cY ((W.any (z.Zf q (e.le l') e')).later (l.trans l')))
theorem UJ {e:E} (h:e.yL=ag):e=.none:=by cases e with
 |none=>rfl
 |_=>exact absurd h cj
theorem QG (S:SE e){lo:aB ay} (z:At k L σ) (hm:mO (mE k.sc e) e.yL lo=ag) (h:wE k.C e L σ.H P (lZ X L)):W k rz (valueOrNone (evalOpt lo k.env)) (Ok k L σ P) X σ:=by
 cases lo with
 |none=>obtain rfl:=UJ hm;exact W.pure (z.now (x:=.none) rfl h)
 |some x=>exact S z (bx hm) h
theorem Uz {fz:aj}{e a b:E} (S:SE e) (T:SE a) (U:SE b):SE (.slice fz e a b):=fun{k rz L σ x P X} z hm h=>jm hm fun v0 sl p hh=>Ot hh fun lo hi st p2 hh=>QU (aU (aU (aU hh))) (by
 refine W.sub (W.eq (aW (fun t=>eval v0 k.env>>=t) (funext fun o=>by rw[arm_eval_Slice])) ?_)
 refine S.step z (bx (aU (aU hh))) h fun v τ y e l z q=>?_
 refine W.bind (P:=fun i ρ=>∃ τ3:Sx,σ.g.le τ3.g/\At k L τ3/\∃ l' u' lo' Py,er τ3.g v y/\er τ3.g l' lo'/\er τ3.g u' Py/\vp fz y lo' Py τ3.H P/\i=.ref τ3.s.heap.objs.size/\ρ=τ3.up (τ3.s.heap.push {cls:=.type "slice",data:=.fields #[l',u',.none]}) τ3.s.toks) (W.holding ?_) fun i ρ hi=>W.cY ?_
 ·refine W.nG (QG T z (bx (aU hh)) q) fun l' τ2 lo' e2 l2 z q=>W.nG (W.holding (QG U z (bx hh) q)) fun u' τ3 Py e3 l3 z q=>W.bind (P:=fun s ρ=>s=.none/\ρ=τ3) (W.holding (W.pure ⟨rfl,rfl⟩)) fun s ρ hs=>?_
  obtain⟨rfl,rfl⟩:=hs
  exact W.any (bf (LI (bW ⟨ρ.g,ρ.H,ρ,l.trans (l2.trans l3),z,l',u',lo',Py,e.le (l2.trans l3),e2.le l3,e3,q,rfl,rfl⟩)))
 ·obtain⟨τ3,l3,z,l',u',lo',Py,e,e2,e3,q,rfl,rfl⟩:=hi
  exact W.E4 l3 (W.any ((z.grow fun _ _ h=>jN _ h).Qd q e e2 e3 (aaa _ _ _ _))))
end
theorem wQ {x:ay}{xs:ah ay}{env:Env} (h:x.ctorIdx≠22):starEach (x::xs) env=(ao,eval x env)::starEach xs env:=by
 cases x<;>first |rfl |exact absurd rfl h
section
variable {k:Kx}{rz:aj}{L:b5}{σ ρ:Sx}{x:ay}{P Q':PV}{X:fk}{α:Type}{e:E}{es:Es}{pos:Pos}
theorem At.oks (z:At k L σ){vs:ah av}{xs:ah V}{P:ah V->Hp->Prop} (e:dF (er σ.g) vs xs) (q:P xs σ.H):Oks k L σ P vs σ:=.mk xs e (.refl _) z q
theorem zK:Ml .nil:=fun{k rz L σ x P X pos} z hm h=>by
 obtain rfl:=qj hm
 exact W.pure (z.oks .nil h)
theorem sJ (S:SE e) (T:Ml es):Ml (.cons e es):=fun{k rz L σ x P X pos} z hm h=>lF hm fun x xs h1 h2 h0=>by
 rw[wQ h0]
 refine S.step (f:=fun v=>_) z h1 h fun v τ y e l z q=>?_
 refine W.eq (bb cj) (W.bind (P:=fun b ρ=>b=[v]/\ρ=τ) (W.pure ⟨rfl,rfl⟩) fun b ρ hb=>?_)
 obtain⟨rfl,rfl⟩:=hb
 exact W.FG (W.holding (T (pos:=pos) z h2 q)) fun vs τ' ys e' l' z q=>W.pure (.mk (y::ys) (.cons (e.le l') e') (l.trans l') z q)
theorem WL {fz:aj} (S:Ml es):SE (.list fz es):=fun{k rz L σ x P X} z hm h=>HF hm fun xs p hh=>W.eq (arm_eval_List ..) (W.cY (W.FG (S z hh h) fun vs τ ys e l z q=>
 W.later l (W.any (Tj (z.Q4 (vs:=vs.toArray) e q) (e.length▸f9 q.1)))))
theorem Uy (S:Ml es):SE (.tuple es):=fun{k rz L σ x P X} z hm h=>pD hm fun xs n p hh=>W.eq (Tw ..) (W.cY (W.FG (S z hh h) fun vs τ ys e l z q=>
 W.later l (W.any (Tv (z.abA (x:=.tup ys) rfl (.mk _ rfl (a8 rfl)) (fun τ l h=>.mk vs.toArray 0 h (e.bT fun _ _ e=>e.le l)) q.2) (e.length▸f9 q.1)))))
theorem tu {f:av}{xs:ah ay}{P:ah V->Hp->Prop} (S:Ml es) (z:At k L σ) (hm:u1 k.sc es xs=ag) (h:wEs k.C es L σ.H P (lZ X L)):W k rz (evalArgs f ag (backTo pos (starEach xs k.env)) []) (fun a τ=>a.kw=[]/\Oks k L σ P a.pos τ) X σ:=by
 have s:=S (rz:=rz) (pos:=pos) z hm h
 cases es with
 |nil=>
  obtain rfl:=qj hm
  exact W.any (evalArgs_nil3 ⟨σ.g,σ.H,rfl,z.oks .nil h⟩)
 |cons e es=>
  revert s
  refine lF (P:=fun xs=>W k rz (spliced (backTo pos (starEach xs k.env))) (Oks k L σ P) X σ->W k rz (evalArgs f ag (backTo pos (starEach xs k.env)) []) (fun a τ=>a.kw=[]/\Oks k L σ P a.pos τ) X σ) hm fun x xs _ _ h0 s=>?_
  rw[wQ h0] at s ⊢
  exact I.evalArgs_plain (I.bT s (fun vs s' q=>match q with |.mk g H q=>⟨g,H,rfl,q⟩) fun _ _ z=>z)
theorem iN {sc:bY}{env:Env}:∀ {es:Es}{xs:ah ay},u1 sc es xs=ag->(backTo pos (starEach xs env)).any (·.1)=ao
 |.nil,xs,hm=>by obtain rfl:=qj hm;rfl
 |.cons e es,xs,hm=>lF (P:=fun xs=>(backTo pos (starEach xs env)).any (·.1)=ao) hm fun x xs h1 h2 h0=>by
  rw[wQ h0]
  exact iN h2
theorem At.spec (z:At k L σ){f:Fn}{vs:ah V}{us:ah av} (h:k.C f vs σ.H P (lZ X L)) (e:dF (er σ.g) us vs):W k rz (call (.ref (k.c.T.fA f)) us) (Ok k L σ P) X σ:=
 I.call (I.pN (k.hC f vs σ P (lZ X L) h k.A k.fr us k.hb.call k.ca z.rep z.fm e) fun r s' q=>match r,q with
  |.error e,q=>.ZE L σ z q
  |.ok (.ret v),.mk g H x e r q=>⟨g,H,.mk x e r.le (z.step r) q⟩)
theorem W.Jj {n:Str}{p:Pos}{args:ah ay}{Q:av->Sx->Prop} (hd:(n==("__debug__":Str))=ao) (h:W k rz (loadName k.env n) (fun f τ=>W k rz (callWith pos f [] (backTo pos (starEach args k.env)) []) Q X τ) X σ):W k rz (eval (.Call (.Name n p) args [] pos) k.env) Q X σ:=W.bind (W.Name hd h) fun _ _ h=>h
theorem W.callWith {f:av} {first:ah av}{args:ah (aj×Sem av)}{Q:av->Sx->Prop} (hp:args.any (·.1)=ao) (hk:keepIn k.K f=ag) (h:W k rz (evalArgs f ag args []) (fun a τ=>k.K.In τ.s.heap/\W k rz (call f (first++a.pos) a.kw) Q X τ) X σ):W k rz (PySem.callWith pos f first args []) Q X σ:=
 I.callWith_of (P:=fun h=>k.K.In h) hp (keeps_K hk) (I.bT h (fun a s' q=>match q with |.mk g H q=>q) fun _ _ z=>z)
theorem At.XQ (z:At k L σ){f:Fn}{us:ah av}{vs:ah V}{xs:ah ay} (S:Ml es) (hm:u1 k.sc es xs=ag) (e:dF (er σ.g) us vs) (h:wEs k.C es L σ.H (fun ws H=>k.C f (vs++ws) H P (lZ X L)) (lZ X L)):
  W k rz (PySem.callWith pos (.ref (k.c.T.fA f)) us (backTo pos (starEach xs k.env)) []) (Ok k L σ P) X σ:=
 W.callWith (iN hm) (k.D.fnk f).2 (W.bT (tu S z hm h) fun a τ ha=>match ha with
  |⟨ek,.mk ws ew l z q⟩=>⟨z.here,by rw[ek];exact W.later l (z.spec q ((e.bT fun _ _ e=>e.le l).append ew))⟩)
noncomputable def plainS (s:b_):aj:=!(Str.ofString s==("__debug__":Str))
theorem RC (f:Fn):(Str.ofString f.s==("__debug__":Str))=ao:=not_of (BB (p:=fun f=>plainS f.s) (by decide+kernel) f)
theorem rO (f:Cn):(Str.ofString f.s==("__debug__":Str))=ao:=not_of (BC (p:=fun f=>plainS f.s) (by decide+kernel) f)
theorem UA {f:Fn} (S:Ml es):SE (.bL f es):=fun{k rz L σ x P X} z hm h=>mP hm fun q xs p hh=>
 W.Jj (RC f) (W.any (kM z (bx (aU hh)) (k.D.gf f (aU (aU hh))) ⟨σ.g,σ.H,z.XQ (us:=[]) (vs:=[]) S (bx hh) .nil h⟩))
theorem Ob (C:ax) (us:ah av):(Code.builtin "type.__call__" ⟨.ref C::us,[]⟩).weight=1/\(Code.builtin "type.__call__" ⟨.ref C::us,[]⟩).cUnits=1/\(Code.builtin "type.__call__" ⟨.ref C::us,[]⟩).envs=[]:=by
 have g:guardIds.contains "type.__call__"=ao:=by decide+kernel
 refine⟨?_,rfl,rfl⟩
 show 0+1+(if guardIds.contains "type.__call__"=ag then 1 else 0)+0=1
 rw[g];rfl
theorem Oc (C:ax) (us:ah av):(Code.builtin "type.__call__" ⟨.ref C::us,[]⟩).guards=[]:=by
 have g:guardIds.contains "type.__call__"=ao:=by decide+kernel
 show(if guardIds.contains "type.__call__"=ag then _ else[])=[]
 rw[g];rfl
theorem P1 {A:bF}{fr:ah Env}{n:Nat} (hb:Yy A n) (ca:Ca A fr) (C:ax) (us:ah av):W4 (A.under (.builtin "type.__call__" ⟨.ref C::us,[]⟩)) n/\Ca (A.under (.builtin "type.__call__" ⟨.ref C::us,[]⟩)) fr:=by
 obtain⟨w1,w2,w3⟩:=Ob C us
 refine⟨⟨?_,?_⟩,ca.hd,?_,?_,ca.top⟩
 ·show A.depth+Code.weight _+6*n<=903
  rw[w1];have:=hb.depth;exact cw [A.depth,n] bJ 0x387231006151200440 0x384231006150040 this aQ
 ·show A.units+Code.cUnits _+60*n+40<=cLine
  rw[w2];have:=hb.units;exact cw [A.units,n] bJ 0x26ac232813103c1512004440 0x26ac233c13103c1500440 this aQ
 ·show pushGuards (Code.guards (.builtin "type.__call__" ⟨.ref C::us,[]⟩)) A.guards=aa []
  rw[Oc,ca.gd];rfl
 ·show pushEnvs (Code.envs (.builtin "type.__call__" ⟨.ref C::us,[]⟩)) A.frames=aa fr
  rw[w3];exact ca.frames
noncomputable def yI (c:Cx) (σ:Sx) (C:Cn):Sx:=⟨{σ.s with heap:=(σ.s.heap.push emptyDict).push (instObj (c.T.cA C) σ.s.heap.objs.size)},σ.g.Oi σ.s.heap.objs.size (σ.s.heap.objs.size+1),σ.H.set (σ.s.heap.objs.size+1) (.inst C [])⟩
theorem nz (h:bB):h.get? (h.objs.size+1)=au:=lj fun _ e=>absurd (Nat.lt_of_succ_lt (qw e)) (sG _)
theorem Rel.yI {c:Cx}{frs:ah ax} (R:Rep c σ){C:Cn}:Rel c frs [] σ (yI c σ C):=by
 have n0:=di σ.s.heap
 have n1:=nz σ.s.heap
 have k:∀ b o,σ.get b=aa o->((σ.s.heap.push emptyDict).push (instObj (c.T.cA C) σ.s.heap.objs.size)).get? b=aa o:=fun b o e=>jN _ (jN _ e)
 have gd:((σ.s.heap.push emptyDict).push (instObj (c.T.cA C) σ.s.heap.objs.size)).get? σ.s.heap.objs.size=aa emptyDict:=jN _ (jg _ rfl)
 have gi:((σ.s.heap.push emptyDict).push (instObj (c.T.cA C) σ.s.heap.objs.size)).get? (σ.s.heap.objs.size+1)=aa (instObj (c.T.cA C) σ.s.heap.objs.size):=by
  have:=jg (σ.s.heap.push emptyDict) (o:=instObj (c.T.cA C) σ.s.heap.objs.size) rfl
  rwa [LZ] at this
 have F0:=R.fresh n0
 have F1:=R.fresh n1
 have R1:=R.putD (a:=σ.s.heap.objs.size+1) n0 (s':=(Mine.yI c σ C).s) k ⟨_,gd⟩
 have ne:σ.s.heap.objs.size+1≠σ.s.heap.objs.size:=TU _
 have r1:Rel c frs [] σ ⟨(Mine.yI c σ C).s,σ.g.Oi σ.s.heap.objs.size (σ.s.heap.objs.size+1),σ.H⟩:=⟨Gh.MU F0.d,R1,fun b o e _ _=>.refl (k b o e),fun b o e f=>⟨f.z,f.h,fun a q=>f.d a ((Gh.Eo fun q:b=_=>bP n0 (q▸e)).symm.trans q)⟩,rfl,rfl,rfl⟩
 exact r1.put (tk:=σ.s.toks) (o:=.inst C []) (fun _ e=>bP n1 e) r1.Ox ⟨F1.z,fun b q=>F1.d b ((Gh.Eo ne).symm.trans q),R.az n1,fun b o _ _ e=>e,fun b q=>R1.Js b _ q⟩ (.mk _ gi (a8 rfl) (.mk #[] 0 gd .nil .nil) nofun)
theorem w9 {α:Type}{l:ah (Nm×α)}{P:Nm->α->aj} (h:l.all (fun p=>P p.1 p.2)=ag){f:Nm}{y:α} (e:eG l f=aa y):P f y=ag:=l_.mp h _ (AO e)
theorem HX {C:Cn}{f:Fn} (h:rC C=aa f):fieldsOf C≠[]:=by
 have:=BC (p:=fun C=>(rC C).isNone || !(fieldsOf C).isEmpty) (by decide+kernel) C
 rw[h] at this
 exact fun e=>by rw[e] at this;contradiction
theorem HO {C:Cn}{m:Nm}{f:Fn} (h:rp C m=aa f):fieldsOf C≠[]/\m∉fieldsOf C:=by
 have:=BC (p:=fun C=>(ux EY C.n []).all fun p=>!(fieldsOf C).isEmpty&&!(fieldsOf C).contains p.1) (by decide+kernel) C
 have:=w9 (P:=fun m _=>!(fieldsOf C).isEmpty&&!(fieldsOf C).contains m) this h
 exact⟨fun e=>(by rw[e] at this;contradiction),fun hm=>by rw[X4.mpr hm,To,L4] at this;contradiction⟩
end
namespace FA
theorem Af:PlainAttrs "bytearray":=⟨⟨"bytearray.__getattribute__",by rw[jG,nQ];kernel_rfl,by decide+kernel⟩,by rw[jG,nQ];kernel_rfl⟩
theorem x3:Slot "bytearray" "append" "bytearray.append":=
 .of (owner:="bytearray") (n:="append") (by rw[jG,nQ];kernel_rfl) (by decide+kernel) (by decide+kernel) (by decide+kernel)
  (by first |exact .inl (by decide+kernel) |exact .inr (by decide+kernel)) (by rw[BQ];kernel_rfl)
theorem xZ:Slot "bytearray" "extend" "bytearray.extend":=
 .of (owner:="bytearray") (n:="extend") (by rw[jG,nQ];kernel_rfl) (by decide+kernel) (by decide+kernel) (by decide+kernel)
  (by first |exact .inl (by decide+kernel) |exact .inr (by decide+kernel)) (by rw[BQ];kernel_rfl)
theorem G7:typeOf (.builtin "bytearray.append")=pure (.type "method_descriptor"):=by show builtinType _=_;rw[Uj];kernel_rfl
theorem G6:typeOf (.builtin "bytearray.extend")=pure (.type "method_descriptor"):=by show builtinType _=_;rw[Uj];kernel_rfl
theorem Fl:entryFor table "bytearray.append"=aa Builtin.«bytearray.append»:=L8 (by kernel_rfl)
theorem Fj:entryFor table "bytearray.extend"=aa Builtin.«bytearray.extend»:=L8 (by kernel_rfl)
theorem I_ (a b:av):argsOk "bytearray.append" ⟨[a,b],[]⟩:=by unfold argsOk;kernel_rfl
theorem I9 (a b:av):argsOk "bytearray.extend" ⟨[a,b],[]⟩:=by unfold argsOk;kernel_rfl
theorem FE:typeLookup (.type "bytes") "__buffer__"=pure (aa (.builtin "bytes.__buffer__")):=by rw[jG,nQ];kernel_rfl
theorem CA:typeLookup (.type "bytes") "__release_buffer__"=pure au:=by rw[jG,nQ];kernel_rfl
theorem Li:mroOf (.type "bytearray")=pure [.type "bytearray",.type "object"]:=by rw[mroOf_type];kernel_rfl
theorem CD:typeLookup (.type "bytearray") "__new__"=pure (aa (.builtin "bytearray.__new__")):=by rw[jG,nQ];kernel_rfl
theorem mG:Slot "bytearray" "__init__" "bytearray.__init__":=
 .of (owner:="bytearray") (n:="__init__") (by rw[jG,nQ];kernel_rfl) (by decide+kernel) (by decide+kernel) (by decide+kernel)
  (by first |exact .inl (by decide+kernel) |exact .inr (by decide+kernel)) (by rw[BQ];kernel_rfl)
theorem tr:TypeCalled "bytearray" "bytearray.__new__" "bytearray.__init__":=
 ⟨by decide+kernel,by decide+kernel,⟨_,_,Li⟩,madeBy_type Li CD (by decide+kernel),by decide+kernel,by rw[BQ];kernel_rfl,mG⟩
theorem FK:checkTypeCall "bytearray" ⟨[],[]⟩=pure ():=by kernel_rfl
theorem FI (a:av):checkTypeCall "bytearray" ⟨[a],[]⟩=pure ():=by kernel_rfl
theorem IW:checkBuiltinCall "bytearray.__new__" ⟨[.type "bytearray"],[]⟩=pure ():=by kernel_rfl
theorem IV (a:av):checkBuiltinCall "bytearray.__new__" ⟨[.type "bytearray",a],[]⟩=pure ():=by kernel_rfl
theorem FN:entryFor table "bytearray.__new__"=aa Builtin.«list.__new__»:=entryFor_alias (id':="list.__new__") (by kernel_rfl) rfl (by decide+kernel) (by kernel_rfl)
theorem CG:entryFor table "bytearray.__init__"=aa Builtin.«bytearray.__init__»:=L8 (by kernel_rfl)
theorem CF (a:av):argsOk "bytearray.__init__" ⟨[a],[]⟩:=by unfold argsOk;kernel_rfl
theorem CE (a b:av):argsOk "bytearray.__init__" ⟨[a,b],[]⟩:=by unfold argsOk;kernel_rfl
theorem Sq:Builtin.Bytes.bindOptional "bytearray.__init__" "bytearray" ["source","encoding","errors"] [] []=pure [au,au,au]:=by kernel_rfl
theorem Sp (v:av):Builtin.Bytes.bindOptional "bytearray.__init__" "bytearray" ["source","encoding","errors"] [v] []=pure [aa v,au,au]:=by kernel_rfl
theorem Bn:typeLookup (.type "bytearray") "__release_buffer__"=pure (aa (.builtin "bytearray.__release_buffer__")):=by rw[jG,nQ];kernel_rfl
theorem Bm:isSubtype (.type "bytearray") (.type "bytearray")=pure ag:=by rw[BQ];kernel_rfl
theorem Sm:("bytearray.__new__".splitOn ".__new__").headD ""="bytearray":=by simp+decide [String.splitOn,String.splitOnAux]
theorem IQ:typeLookup (.type "bytes") "__index__"=pure au:=by rw[jG,nQ];kernel_rfl
end FA
noncomputable def yV (bs:ah aA):Obj:=⟨.type "bytearray",au,.bytearray bs.toArray 0,#[]⟩
section
variable {prog:dx}{w:dQ}{M:eE}{A:bF}{s:aF}{E':av->aF->Prop}{a:ax}{bs:ah aA}
theorem gU (h:s.heap.get? a=aa (yV bs)):s.TypeIs (.ref a) "bytearray":=⟨_,h,rfl⟩
theorem FL (h:s.heap.get? a=aa (yV bs)){P:aj->aF->Prop} (q:P ao s):h_ M A (Builtin.Bytes.exported (.ref a) <||> (do return (<- Builtin.Bytes.exportsOf (.ref a)) > 0)) P E' s:=
 I.bind (I.exported (I.bind (I.bind (I.any (xq h (I.pure (I.pure q)))))))
theorem rR (h:s.heap.get? a=aa (yV bs)){P:cR->aF->Prop} (q:P () s):h_ M A (Builtin.Bytes.checkResize (.ref a)) P E' s:=I.bind (FL h (I.pure q))
theorem q8 {f:bS aA->bS aA}{bs':ah aA} (h:s.heap.get? a=aa (yV bs)) (e:f bs.toArray=bs'.toArray) (hz:bs'.length<=line){P:cR->aF->Prop}
  (q:∀ h',h'.get? a=aa (yV bs')->(∀ b,b≠a->h'.get? b=s.heap.get? b)->P () {s with heap:=h'}):aO M A (Builtin.Bytes.write (.ref a) f) P E' s:=by
 have e2:(s.heap.update a (Obj.mapBytearray f)).get? a=aa (yV bs'):=(NH (Obj.mapBytearray f) h rfl).trans (aW (fun x=>aa (⟨.type "bytearray",au,.bytearray x 0,#[]⟩:Obj)) e)
 refine bf (xq h (bf (wpAny_update h (TN e2 (bb (Ga.mpr (f9 hz))) (q _ e2 fun b hb=>Jf _ _ (l6 hb))))))
theorem Aj (h:s.heap.get? a=aa (yV bs)){P:bS aA->aF->Prop} (q:P bs.toArray s):aO M A (Builtin.Bytes.payload (.ref a)) P E' s:=bf (bf (xq h (bW (bW q))))
theorem FF {i:Int}{t:Tok} (h0:0<=i) (h1:i<=255){P:aA->aF->Prop} (q:P i.toNat.toUInt8 s):aO M A (Builtin.Bytes.byteValue (.int i t)) P E' s:=
 pZ (a:=i) rfl (fW (by simp only[Bool.or_eq_true,Ma,not_or];exact nt [i] 0 [] 0x11001100050031000011000110050031001 0x10023360200467 35 0xff13003 h0 h1 aQ) (bW q))
theorem R5 {T:b_}{name:Str}{id:b_}{b:sr}{self:av}{rest:ah av}{P:av->aF->Prop} (slot:Slot T name id) (hT:s.TypeIs self T) (entry:entryFor table id=aa b) (args:argsOk id ⟨self::rest,[]⟩)
  (hd:rn (.builtin id ⟨self::rest,[]⟩)) (h:h_ (model prog w) A.in1 (b ⟨self::rest,[]⟩) (fun fin s'=>∃ v,fin=.done (.ret v)/\P v s') E' s):h_ (model prog w) A (call (.builtin id) (self::rest)) P E' s:=by
 refine I.call (I.tree (fun _ _=>rfl) ?_)
 show h_ _ A.in1 (do checkBuiltinCall id ⟨self::rest,[]⟩;again (.builtin id ⟨self::rest,[]⟩)) _ _ s
 refine I.bind (I.any (slot.check _ _ _ _ _ _ _ _ hT args ?_))
 refine I.pure ⟨Ti slot.plain _,I.builtin entry hd ?_⟩
 rw[Around.under_plainId slot.plain _]
 exact I.bT h (fun fin s' z=>by obtain⟨v,rfl,z⟩:=z;exact z) fun _ _ z=>z
theorem Pa {i:Int}{t:Tok} (hz:s.heap.get? a=aa (yV bs)) (h0:0<=i) (h1:i<=255) (hl:bs.length < line){P:av->aF->Prop}
  (q:∀ h',h'.get? a=aa (yV (bs++[UInt8.ofNat i.toNat]))->(∀ b,b≠a->h'.get? b=s.heap.get? b)->P .none {s with heap:=h'}):h_ (model prog w) A (call (.builtin "bytearray.append") [.ref a,.int i t]) P E' s:=
by
 refine R5 FA.x3 (gU hz) FA.Fl (FA.I_ _ _) (I.pF (by decide+kernel) fun _ _=>rfl) (I.eq (a:=(.ref a,.int i t)) rfl ?_)
 refine I.bind (I.any (FF h0 h1 ?_))
 refine I.bind (rR hz ?_)
 refine I.bind (I.any (q8 (bs':=bs++[UInt8.ofNat i.toNat]) hz (List.push_toArray ..) (by rw[bN];exact hl) fun h' hb hs=>?_))
 exact I.pure ⟨_,rfl,q h' hb hs⟩
theorem pB {P:aB av->aF->Prop}{b:bS aA}{t:Tok} (q:P (aa (.builtin "bytes.__buffer__")) s):aO M A (specialOf (.bytes b t) "__buffer__") P E' s:=kU (kT s b t) FA.FE q
theorem Dl {P:aj->aF->Prop}{b:bS aA}{t:Tok} (q:P ag s):aO M A (Builtin.Bytes.slotIsOwn (.bytes b t) "__buffer__") P E' s:=
 bf (pB (fW (by decide+kernel) (BU (kT s b t) (by show isSubtype (.type "bytes") (.type _)=pure ag;rw[show(String.dropRight "bytes.__buffer__" (String.length "__buffer__"+1))="bytes" by decide+kernel];exact F.sub_bytes_bytes) q)))
theorem v8 {id:b_}{b:bS aA}{t:Tok}{full:aj}{P:aB (bS aA)->aF->Prop} (q:P (aa b) s):aO M A (Builtin.Bytes.buffer? id (.bytes b t) full) P E' s:=by
 unfold Builtin.Bytes.buffer?
 refine bf (pB (bf (Dl (fW (by decide) (bf (pB ?_))))))
 refine bf (bf (bf (kU (kT s b t) FA.CA ?_)))
 exact bW (bW (fW (by decide) (bf (bW (bW q)))))
theorem O_ {b:ah aA}{t:Tok} (hz:s.heap.get? a=aa (yV bs)) (hl:bs.length+b.length<=line){P:av->aF->Prop}
  (q:∀ h',h'.get? a=aa (yV (bs++b))->(∀ b,b≠a->h'.get? b=s.heap.get? b)->P .none {s with heap:=h'}):h_ (model prog w) A (call (.builtin "bytearray.extend") [.ref a,.bytes b.toArray t]) P E' s:=by
 refine R5 FA.xZ (gU hz) FA.Fj (FA.I9 _ _) (I.pF (by decide+kernel) fun _ _=>rfl) ?_
 have wr:h_ (model prog w) A.in1 (Builtin.Bytes.write (.ref a) (· ++b.toArray)>>=fun _=>ret .none) (fun fin s'=>∃ v,fin=.done (.ret v)/\P v s') E' s:=
  I.bind (I.any (q8 (bs':=bs++b) hz (Ul ..) (by rw[bN];exact hl) fun h' hb hs=>I.pure ⟨_,rfl,q h' hb hs⟩))
 have tb:∀ {P':aB (bS aA×aB av)->aF->Prop},P' (aa (b.toArray,au)) s->h_ (model prog w) A.in1 (Builtin.Bytes.takeBufferQuiet? "bytearray.extend" (.bytes b.toArray t) 0) P' E' s:=fun q=>by
  unfold Builtin.Bytes.takeBufferQuiet?
  refine I.bind (I.attempt ?_)
  unfold Builtin.Bytes.takeBuffer?
  exact I.bind (I.any (pB (I.bind (I.any (Dl (I.HY (by decide) (I.bind (I.any (pB (I.bind (I.any (v8 (I.pure (I.pure q))))))))))))))
 refine I.eq (a:=(.ref a,.bytes b.toArray t)) rfl (I.bind (I.any (pB (I.ifT (by decide) (I.bind (I.any (sx (I.bind (I.any (Aj hz (I.bind (tb (I.ifT (by decide) ?_)))))))))))))
 exact if e:(!b.toArray.isEmpty)=ag then I.ifT e (I.bind (rR hz wr)) else I.HY e wr
end
namespace FA
theorem IT:typeLookup (.type "bytes") "__bytes__"=pure (aa (.builtin "bytes.__bytes__")):=by rw[jG,nQ];kernel_rfl
theorem int_bytes:typeLookup (.type "int") "__bytes__"=pure au:=by rw[jG,nQ];kernel_rfl
theorem So:typeLookup (.type "bytearray") "__bytes__"=pure au:=by rw[jG,nQ];kernel_rfl
theorem Sn:typeLookup (.type "bytearray") "__index__"=pure au:=by rw[jG,nQ];kernel_rfl
theorem O':typeLookup (.type "bytearray") "__buffer__"=pure (aa (.builtin "bytearray.__buffer__")):=by rw[jG,nQ];kernel_rfl
end FA
section
variable {prog:dx}{w:dQ}{M:eE}{A:bF}{s:aF}{E':av->aF->Prop}{a:ax}{bs:ah aA}
theorem Z3 {rest:ah av}{R:fq->aF->Prop} (hcn:checkBuiltinCall "bytearray.__new__" ⟨.type "bytearray"::rest,[]⟩=pure ())
  (q:R (.ok (.ret (.ref s.heap.objs.size))) {s with heap:=s.heap.push (yV [])}):codeAny (model prog w) A (.call (.builtin "bytearray.__new__") ⟨.type "bytearray"::rest,[]⟩) R s:=by
 refine codeAny_call_builtin_own (Ti FA.tr.plain _) FA.FN (LH hcn ?_)
 unfold Builtin.«list.__new__»
 refine wpOwn_bind (wpOwn_stack fun p below _ _ _=>?_)
 dsimp only
 rw[FA.Sm]
 refine wpOwn_of_wpAny (pZ (show isType (.type "bytearray")=pure ag from rfl) (fW (by decide) (pZ FA.Bm (fW (by decide) (bf (bW ?_))))))
 exact Ut (by decide+kernel) (bf (wpAny_newObj_type (bW q) (bX _)))
inductive GQ:ah av->ah aA->Prop
 |no:GQ [] []
 |one (l:ah aA) (t:Tok):GQ [.bytes l.toArray t] l
theorem Wr {pos:ah av}{l:ah aA} (hz:s.heap.get? a=aa (yV [])) (hp:GQ pos l) (hl:l.length<=line){P:Fin->aF->Prop}
  (q:∀ h',h'.get? a=aa (yV l)->(∀ x,x≠a->h'.get? x=s.heap.get? x)->P (.done (.ret .none)) {s with heap:=h'}):h_ (model prog w) A (Builtin.«bytearray.__init__» ⟨.ref a::pos,[]⟩) P E' s:=by
 have hT:=gU hz
 have rel:∀ {P':aj->aF->Prop}{E'':av->aF->Prop},P' ao s->aO (model prog w) A (Builtin.Bytes.ownRelease (.ref a)) P' E'' s:=fun h=>
  bf (bf (kU hT FA.Bn (fW (by decide+kernel) (BU hT (by show isSubtype (.type "bytearray") (.type _)=pure ag;rw[show(String.dropRight "bytearray.__release_buffer__" (String.length "__release_buffer__"+1))="bytearray" by decide+kernel];exact FA.Bm) (by exact bW h)))))
 refine I.bind (I.any (rel (I.HY (by decide) ?_)))
 cases hp with
 |no=>
  refine I.eq FA.Sq (I.eq (a:=()) rfl (I.eq (a:=()) rfl (I.bind (FL hz (I.HY (by decide) ?_)))))
  refine I.bind (I.any (q8 (bs':=[]) hz rfl (bX _) fun h' hb hs=>?_))
  exact I.pure (q h' hb hs)
 |one l t=>
  refine I.eq (FA.Sp _) (I.eq (a:=()) rfl (I.eq (a:=()) rfl (I.bind (FL hz (I.HY (by decide) ?_)))))
  refine I.bind (I.any (q8 (bs':=[]) hz rfl (bX _) fun h' hb hs=>?_))
  refine I.eq (a:=none) rfl (I.HY (by decide) (I.bind (I.HY (by decide) (I.HY (by decide) (I.pure ?_)))))
  refine I.bind (I.any (kU (kT _ _ _) FA.IQ (I.HY (by decide) ?_)))
  refine I.bind (I.any (v8 ?_))
  refine I.bind (I.any (sx (I.bind (I.any (q8 (s:={s with heap:=h'}) (bs':=l) hb rfl hl fun h2 AM Kw=>?_)))))
  exact I.pure (q h2 AM fun x hx=>(Kw x hx).trans (hs x hx))
end
section
variable {k:Kx}{rz:aj}{X:fk}{L:b5}{σ:Sx}{Q:PV}
theorem At.NB (z:At k L σ){pos:ah av}{l:ah aA} (hp:GQ pos l) (hl:l.length<=line) (q:∀ a,σ.H a=au->Q (.ref a) (σ.H.set a (.ba l))):W k rz (call (.type "bytearray") pos) (Ok k L σ Q) X σ:=by
 have UQ:checkTypeCall "bytearray" ⟨pos,[]⟩=pure ():=by cases hp with
  |no=>exact FA.FK
  |one l t=>exact FA.FI _
 have hcn:checkBuiltinCall "bytearray.__new__" ⟨.type "bytearray"::pos,[]⟩=pure ():=by cases hp with
  |no=>exact FA.IW
  |one l t=>exact FA.IV _
 have hai:∀ v,argsOk "bytearray.__init__" ⟨v::pos,[]⟩:=fun v=>by cases hp with
  |no=>exact FA.CF _
  |one l t=>exact FA.CE _ _
 have hz:(σ.s.heap.push (yV [])).get? σ.s.heap.objs.size=aa (yV []):=jg _ rfl
 have hF:=z.rep.fresh (di σ.s.heap)
 have fin:∀ h',h'.get? σ.s.heap.objs.size=aa (yV l)->(∀ x,x≠σ.s.heap.objs.size->h'.get? x=(σ.s.heap.push (yV [])).get? x)->fM (Ok k L σ Q (.ref σ.s.heap.objs.size)) {σ.s with heap:=h'}:=fun h' hb hs=>
  have g:∀ b o,σ.get b=aa o->h'.get? b=aa o:=fun b o e=>(hs b (sD (qw e))).trans (jN _ e)
  ⟨_,_,z.ok (x:=.ref _) (Rel.put (tk:=σ.s.toks) (h':=h') (o:=.ba l) (.refl z.rep) (fun _ e=>bP (di _) e) (Rel.Ox (frs:=k.frs) (own:=[]) (.refl z.rep)) ⟨hF.z,hF.d,z.rep.az (di _),fun b o _ _=>g b o,fun b q=>(z.rep.Js b _ q).elim fun o e=>⟨o,g b o e⟩⟩ (.mk hb)) rfl (q _ hF.h)⟩
 refine I.call (I.tree (fun _ _=>rfl) (I.pure ⟨Ug _ (by decide+kernel),I.builtin F.entry_type_call (I.pF (by decide+kernel) fun _ _=>rfl) ?_⟩))
 rw[Around.under_plain (weight_type_call_type "bytearray" pos []) (units_type_call_type "bytearray" pos [])]
 unfold Builtin.«type.__call__»
 refine I.HY (by rw[FA.tr.notType];decide) (I.HY (by rw[FA.tr.canCreate];decide) ?_)
 refine I.eq UQ (I.eq FA.Li (I.HY (by decide) (I.eq FA.tr.made (I.bind (I.pure (I.bind (I.holding (I.call (I.anyC (Z3 hcn ?_))))))))))
 have hT:=gU (s:={σ.s with heap:=σ.s.heap.push (yV [])}) hz
 refine I.bind (I.any (BU hT FA.Bm (I.HY (by decide) ?_)))
 refine I.bind (I.holding (I.bind (I.any (kU hT FA.mG.lookup (I.holding (I.bind ?_))))))
 rw[FA.mG.bind]
 refine I.pure (I.bind (R5 FA.mG hT FA.CG (hai _) (I.pF (by decide+kernel) fun _ _=>rfl) ?_))
 exact Wr hz hp hl fun h' hb hs=>⟨_,rfl,I.pure (I.pure (fin h' hb hs))⟩
end
section
variable {prog:dx}{w:dQ}{M:eE}{A:bF}{s:aF}{E':av->aF->Prop}{a:ax}{bs:ah aA}
theorem HW {g:Gh}{vs:ah av}{xs:ah V} {is:ah Int} (r:dF (er g) vs xs) (h:intsOf xs=aa is):IntsAre vs is:=by
 induction r generalizing is with
 |nil=>cases h;exact .nil
 | @cons v x vs xs e _ ih=>
  obtain⟨i,h1,h2⟩:=bind_some h
  obtain⟨js,h3,rfl⟩:=yu.mp h2
  exact gI (p:=fun j=>j=i) e ⟨i,h1,rfl⟩ fun j t e=>e▸.cons j t (ih h3)
theorem Pg {g:Gh}{vs:ah av} {is:ah Int} (h:IntsAre vs is):dF (er g) vs (is.map .int):=by
 induction h with
 |nil=>exact .nil
 |cons n t _ ih=>exact .cons ⟨t,rfl⟩ ih
theorem x7:∀ {is:ah Int}{bs:ah aA},octets is=aa bs->(∀ n∈is,0<=n/\n < 256)/\bs=is.map fun n=>n.toNat.toUInt8
 |[],bs,h=>by cases h;exact⟨fun n h=>absurd h uV,rfl⟩
 |i::r,bs,h=>by
  refine c7 h (fun hi h=>?_) fun _ h=>by contradiction
  obtain⟨l,h1,rfl⟩:=yu.mp h
  obtain⟨h2,rfl⟩:=x7 h1
  exact⟨fun n hn=>(dT.mp hn).elim (fun e=>e▸⟨hi.1,Int.lt_add_one_of_le hi.2⟩) (h2 n),rfl⟩
theorem Bg {b:bS aA}{t:Tok}{P:av->aF->Prop} (q:P (.bytes b t) s):aO (model prog w) A (call (.type "bytes") [.bytes b t]) P E' s:=by
 refine LN LF (by decide) (LU _) (LM _) (fun obj=>SI obj _) LA
  (S:=fun A R s=>R (.ok (.ret (.bytes b t))) s) (.of_wp fun prog w A R s h=>?_) ⟨kT _ _ _,q⟩
 refine pZ (a:=true) rfl (fW (by decide) (pZ Lw (fW (by decide) (pZ (Ly _) (pZ (a:=()) rfl (pZ (a:=()) rfl (fW (by decide) ?_)))))))
 exact bf (kU (kT s b t) FA.IT (bf (sx (bf (wpAny_typeOf (kT s b t) (Ut (by decide) (bW ⟨_,rfl,h⟩)))))))
theorem FD {n:Int}{t:Tok} (h0:0<=n) (h1:n<=1000000){P:av->aF->Prop} (q:P (.bytes (Array.replicate n.toNat 0) s.toks) {s with toks:=s.toks+1}):aO (model prog w) A (call (.type "bytes") [.int n t]) P E' s:=by
 refine LN LF (by decide) (LU _) (LM _) (fun obj=>SI obj _) LA
  (S:=fun A R s=>R (.ok (.ret (.bytes (Array.replicate n.toNat 0) s.toks))) {s with toks:=s.toks+1}) (.of_wp fun prog w A R s h=>?_) ⟨kT _ _ _,q⟩
 refine pZ (a:=true) rfl (fW (by decide) (pZ Lw (fW (by decide) (pZ (Ly _) (pZ (a:=()) rfl (pZ (a:=()) rfl (fW (by decide) ?_)))))))
 refine bf (kU (typeIs_int s n t) FA.int_bytes (bf (pZ (a:=none) rfl (bW (fW (by decide) ?_)))))
 refine bf (kU (typeIs_int s n t) F.slot_int_index.lookup (fW (by decide) (pZ (show(asIndex (.int n t)).attempt=pure (.ok n) from rfl) ?_)))
 refine fW (by simp only[Builtin.Bytes.fitsIndex,Gy,Bool.and_eq_false_iff,decide_eq_false_iff_not];exact nt [n] 0 [] 0x1100011000600410000110000110060041031001 0x80000000000000008300460080000000000000008383686 35 0xf424033003 h0 h1 aQ) (fW (gg [n] 0 [] mF 0x20046 35 h0 aQ) (fW (gg [n] 0 [] mF 0x7fffffffffffffde8346 0xf424033003 h1 aQ) (fW (by unfold Builtin.Bytes.tooLong;rw[l8];simp only[Ma,gt_iff_lt];exact gg [n] 0x4100 [] 0x110011000500110011011005002001 0x10000004316 0xf424033003 h1 aQ) ?_)))
 exact bf (sx (bf (Tg (bW ⟨_,rfl,h⟩) (by rw[Array.size_replicate,l8];exact gg [n] 0x4100 [] 0x1100011040011001101104002 pT 0xf424033003 h1 aQ))))
theorem Qc (hz:s.heap.get? a=aa (yV bs)){P':aB av->aF->Prop} (h:P' (aa (.builtin "bytearray.__buffer__")) s):aO M A (specialOf (.ref a) "__buffer__") P' E' s:=kU (gU hz) FA.O' h
theorem Y2 (hz:s.heap.get? a=aa (yV bs)){P':aj->aF->Prop} (h:P' ag s):aO M A (Builtin.Bytes.slotIsOwn (.ref a) "__buffer__") P' E' s:=
 bf (Qc hz (fW (by decide+kernel) (BU (gU hz) (by show isSubtype (.type "bytearray") (.type _)=pure ag;rw[show(String.dropRight "bytearray.__buffer__" (String.length "__buffer__"+1))="bytearray" by decide+kernel];exact FA.Bm) h)))
theorem YR (hz:s.heap.get? a=aa (yV bs)){P':aj->aF->Prop} (h:P' ao s):aO M A (Builtin.Bytes.ownRelease (.ref a)) P' E' s:=
 bf (bf (kU (gU hz) FA.Bn (fW (by decide+kernel) (BU (gU hz) (by show isSubtype (.type "bytearray") (.type _)=pure ag;rw[show(String.dropRight "bytearray.__release_buffer__" (String.length "__release_buffer__"+1))="bytearray" by decide+kernel];exact FA.Bm) (by exact bW h)))))
theorem O7 (hz:s.heap.get? a=aa (yV bs)){id:b_}{P':aB (bS aA)->aF->Prop} (h:P' (aa bs.toArray) s):aO M A (Builtin.Bytes.buffer? id (.ref a) ag) P' E' s:=by
 unfold Builtin.Bytes.buffer?
 exact bf (Qc hz (bf (Y2 hz (fW (by decide) (bf (Qc hz (bf (YR hz (fW (by decide) (bf (Aj hz (bW h))))))))))))
theorem IP (hz:s.heap.get? a=aa (yV bs)) (hl:bs.length<=line){P:av->aF->Prop} (q:P (.bytes bs.toArray s.toks) {s with toks:=s.toks+1}):aO (model prog w) A (call (.type "bytes") [.ref a]) P E' s:=by
 refine LN LF (by decide) (LU _) (LM _) (fun obj=>SI obj _) LA
  (S:=fun A R s=>s.heap.get? a=aa (yV bs)/\R (.ok (.ret (.bytes bs.toArray s.toks))) {s with toks:=s.toks+1}) (.of_wp fun prog w A R s h=>?_) ⟨hz,kT _ _ _,q⟩
 have hT:=gU h.1
 refine pZ (a:=true) rfl (fW (by decide) (pZ Lw (fW (by decide) (pZ (Ly _) (pZ (a:=()) rfl (pZ (a:=()) rfl (fW (by decide) ?_)))))))
 refine bf (kU hT FA.So (bf (bf (bf (xq h.1 ?_)))))
 refine bW (bW (fW (by decide) (bf (kU hT FA.Sn (bm_if_true rfl ?_)))))
 refine bf ?_
 refine O7 h.1 ?_
 exact bf (sx (bf (Tg (by first |exact bW ⟨_,rfl,h.2⟩ |exact bW (bW ⟨_,rfl,h.2⟩)) (by rw[uW];exact f9 hl))))
theorem Of (hh:A.handled=au){b:bS aA}{t:Tok} (hl:b.size<=1000000){P:av->aF->Prop}
  (q:∀ h' tk t',(∀ a o,s.heap.get? a=aa o->h'.get? a=aa o)->P (.int (KBw.bInts b).sum t') {s with heap:=h',toks:=tk}):aO (model prog w) A (call (.builtin "sum") [.bytes b t]) P E' s:=by
 have hin:∀ k∈KBw.bInts b,0<=k/\k < 256:=fun k hk=>KBw.ints_in hk
 have h5:=KBw.ints_length b
 refine call_sum_walk (KBw.pyIter_bytes ⟨s.heap.objs.size,[s.heap.objs.size],[s.heap.objs.size],b.size,_,_,fun j=>(KBw.bInts b).getD j 0,rfl,KBw.walks (A:=A.in1) hh s.heap.objs.size b t,⟨_,jg _ rfl,rfl,rfl⟩,
  fun a ha=>eT.mp ha▸qw (jg _ rfl),?_,fun j hj=>?_,fun h' tk t' Zp=>?_⟩)
 ·rintro i v ⟨d,u,hc,rfl⟩
  refine⟨u,?_⟩
  show Value.int (d.toNat:Int) u=Value.int ((KBw.bInts b).getD i 0) u
  rw[Ph,KBw.ints_get hc]
  rfl
 ·have h1:=KBw.getD_in (ks:=KBw.bInts b) (j:=j) hin
  have h3:=KBa.sum_in (ns:=(KBw.bInts b).take (j+1)) fun k hk=>hin k (yt hk)
  have h4:((KBw.bInts b).take (j+1)).length<=(KBw.bInts b).length:=by rw[eX];exact je _ _
  unfold InLong
  rw[Tf (KBw.bInts b) (j+1) (h5.symm▸hj)]
  refine⟨⟨?_,?_⟩,?_,?_⟩<;>(try dsimp only)<;>lia
 ·rw[show preSum (fun j=>(KBw.bInts b).getD j 0) b.size=(KBw.bInts b).sum by rw[<- h5,Tf _ _ (bD _),sH]]
  exact q h' tk t' fun a o ha=>Zp a o (fun hm=>absurd (qw ha) (eT.mp hm▸sG _)) (jN _ ha)
theorem sU {i:Int} (h:small i):i.natAbs.log2 < 200:=
 if z:i.natAbs=0 then by rw[z];decide else(Nat.log2_lt z).mpr h
theorem O9 {g:Gh}{vs:ah av}{xs:ah V}{bs:ah aj} (r:dF (er g) vs xs) (h:boolsOf xs=aa bs):vs=bs.map .bool:=by
 induction r generalizing bs with
 |nil=>cases h;rfl
 | @cons v x vs xs e _ ih=>
  obtain⟨b,h1,h2⟩:=bind_some h
  obtain⟨js,h3,rfl⟩:=yu.mp h2
  cases x with
  |bool=>cases h1;cases(show v=.bool _ from e);rw[ih h3];rfl
  |_=>contradiction
theorem range_all:∀ bs:ah aj,(List.range bs.length).all (fun i=>bs.getD i ag)=bs.all id
 |[]=>rfl
 |b::bs=>by
  rw[jf,X_,LX,LO,LX]
  exact aW (b&& ·) (range_all bs)
end
section
variable {k:Kx}{rz:aj}{X:fk}{L:b5}{σ:Sx}{Q:PV}{vs:ah V}{us:ah av}
@[elab_as_elim] theorem oE {g:Gh}{G:ah av->Prop}{p:V->Prop} (e:dF (er g) us vs) (h:Kh vs p) (K:∀ u v,er g u v->p v->G [u]):G us:=by
 cases e with
 |nil=>exact h.elim
 |cons e1 e2=>cases e2 with
  |nil=>exact K _ _ e1 h
  |cons=>exact h.elim
@[elab_as_elim] theorem QS {g:Gh}{G:ah av->Prop}{p:V->V->Prop} (e:dF (er g) us vs) (h:on2 vs p) (K:∀ u v u' v',er g u v->er g u' v'->p v v'->G [u,u']):G us:=by
 cases e with
 |nil=>exact h.elim
 |cons e1 e2=>exact oE (G:=fun us=>G (_::us)) e2 h fun u v e h=>K _ _ _ _ e1 e h
theorem Z4 {H:Hp}{a:ax}{bs:ah aA} (h:(H a).bind Mo.ba?=aa bs):H a=aa (.ba bs):=by
 cases e:H a with
 |none=>rw[e] at h;contradiction
 |some o=>rw[e] at h;cases o with
  |ba=>cases h;rfl
  |_=>contradiction
theorem At.adV (z:At k L σ){h':bB}{tk t:Nat}{i:bS aA}{j:ah aA} (g:∀ b o,σ.get b=aa o->h'.get? b=aa o) (e:i=j.toArray) (q:Q (.bytes j) σ.H):fM (Ok k L σ Q (.bytes i t)) {σ.s with heap:=h',toks:=tk}:=z.okG (x:=.bytes j) g ⟨t,aW (Value.bytes · t) e⟩ q
theorem At.QT (z:At k L σ){h':bB}{tk t:Nat}{i j:Int} (g:∀ b o,σ.get b=aa o->h'.get? b=aa o) (e:i=j) (q:Q (.int j) σ.H):fM (Ok k L σ Q (.int i t)) {σ.s with heap:=h',toks:=tk}:=z.okG (x:=.int j) g ⟨t,aW (Value.int · t) e⟩ q
theorem At.len_list (z:At k L σ){a:ax}{xs:ah V} (hz:SeqAt σ a "list" xs) (h:xs.length<=line/\Q (.int xs.length) σ.H):W k rz (call (.builtin "len") [.ref a]) (Ok k L σ Q) X σ:=by
 obtain⟨ws,hv,r⟩:=hz.list
 exact W.any (Calls.call_len_list hv (by rw[fE r];have:=h.1;unfold line at this;exact cw [xs.length] bJ 0x8000000000000000830014 pT this aQ) (z.HL (aW Int.ofNat (fE r)) h.2))
theorem At.OY (z:At k L σ){b:Bi} (h:Fq b vs σ.H Q) (e:dF (er σ.g) us vs):W k rz (call b.v us) (Ok k L σ Q) X σ:=by
 have hd:=k.ca.hd
 cases b with
 |len=>
  refine oE e h fun u v e h=>?_
  cases v with
  |bytes b=>obtain⟨t,rfl⟩:=e;exact W.any (len_bytes (by rw[uW];have:=h.1;unfold line at this;exact cw [b.length] bJ 0x1000000000063000 pT this aQ) (z.HL (aW Int.ofNat (uW ..)) h.2))
  |bE xs=>obtain⟨a,rfl,hz⟩:=e;exact z.len_list (z.rep.yC _ _ hz) h
  |ref a=>cases(show u=.ref a from e);obtain⟨xs,hx,h⟩:=h;exact z.len_list (z.rep.bE hx) h
  |_=>exact h.elim
 |bytes=>
  refine oE e h fun u v e h=>?_
  cases v with
  |int i=>obtain⟨t,rfl⟩:=e;exact W.any (FD h.1 h.2.1 (z.okB (by simp) h.2.2))
  |bytes b=>obtain⟨t,rfl⟩:=e;exact W.any (Bg (z.okN (x:=.bytes b) ⟨t,rfl⟩ h))
  |bE xs=>
   obtain⟨a,rfl,hz⟩:=e
   obtain⟨is,hi,bs,ho,hl,q⟩:=h
   obtain⟨ws,hv,r⟩:=(z.rep.yC _ _ hz:SeqAt _ _ _ _).list
   obtain⟨k1,rfl⟩:=x7 ho
   have hI:=HW r hi
   exact W.any (call_bytes_ints (vs:=ws.toList) hv hI k1 (by rw[hI.length,l8];rw[cF] at hl;exact aK hl (by decide)) hd fun h' t k hk=>z.adV hk (by simp [byteArr]) q)
  |ref a=>cases(show u=.ref a from e);obtain⟨bs,hb,hl,q⟩:=h;exact W.any (IP (match (z.rep.yJ _ _ (Z4 hb):UL _ _ _) with |.mk h=>h) hl (z.okB rfl q))
  |_=>exact h.elim
 |bytearray=>
  cases vs with
  |nil=>obtain rfl:=e.ad3;exact z.NB .no (bX _) h
  |cons v r=>exact oE (p:=fun x=>Got (I8 x) (Z5 σ.H Q)) e h fun u v e h=>gB e h fun b t h=>z.NB (.one b t) h.1 h.2
 |min=>exact QS e h fun u v u' v' e e' h=>g2 e e' h fun i t j t' q=>W.any (min_two_ints hd fun h' tk k=>by
   by_cases c:j < i
   ·rw[a8 c];exact z.QT k (Int.min_eq_right (xv c)).symm q
   ·rw[bb c];exact z.QT k (Int.min_eq_left (Gb.mp c)).symm q)
 |max=>exact QS e h fun u v u' v' e e' h=>g2 e e' h fun i t j t' q=>W.any (max_two_ints hd fun h' tk k=>by
   by_cases c:j > i
   ·rw[a8 c];exact z.QT k (Int.max_eq_right (xv c)).symm q
   ·rw[bb c];exact z.QT k (TG (Gb.mp c)).symm q)
 |sum=>exact oE e h fun u v e h=>gB e h fun b t h=>W.any (Of hd (by rw[uW];exact h.1) fun h' tk t' k=>z.QT k (by rw[KBw.ints_list]) h.2)
 |sorted=>
  refine oE e h fun u v e h=>z.gL e h fun a xs hz h=>?_
  obtain⟨is,hi,hl,q⟩:=h
  obtain⟨ws,hv,r⟩:=hz.list
  have hI:=HW r hi
  refine W.any (sorted_ints (vs:=ws.toList) hv hI (by rw[hI.length];exact cE hl (by decide)) fun out ns' a1 a2 a3=>?_)
  obtain⟨ep,he⟩:=sortedAll_at σ.s.heap ws.toList out
  exact z.abC (tk:=σ.s.toks) (xs:=ns'.map .int) (fz:=true) (nz _) (fun b o e=>sortedAll_old e) he (Pg a1) ⟨by rw[cF,a2.length_eq];exact aK hl (by decide),q ns' a2 a3⟩
 |tuple=>
  refine oE e h fun u v e h=>z.gL e h fun a xs hz h=>?_
  obtain⟨ws,hv,r⟩:=hz.list
  refine W.any (call_tuple_list hv (fun h' kp=>?_) (by rw[fE r];exact f9 h.1))
  obtain⟨g,H,o⟩:=(z.grow (tk:=σ.s.toks) kp).abA (o:={cls:=.type "tuple",data:=.seq ws}) (x:=.tup xs) rfl (.mk _ rfl (a8 rfl)) (fun τ l h=>.mk ws 0 h (r.bT fun _ _ e=>e.le l)) h.2
  exact⟨g,H,Ok.from (σ:=σ) (τ:=σ.up h' σ.s.toks) (Gh.le.refl σ.g) o⟩
 |str=>exact oE e h fun u v e h=>gI e h fun i t h=>W.any (PySem.P.str_of_int (ft (sU h.1) (by decide)) (z.Pt (x:=.str _) ⟨_,rfl⟩ (h.2 _ (by
   have hk:(toString i).length<=200+1:=Uc (k:=200) (by decide) (sU h.1)
   rw[X3];exact cw [(toString i).length] bJ yi 0xc913000 hk aQ))))
 |all=>
  refine oE e h fun u v e h=>z.gL e h fun a xs hz h=>?_
  obtain⟨bs,hb,q⟩:=h
  obtain⟨ws,hv,r⟩:=hz.list
  have hw:=O9 r hb
  have lW:a < σ.s.heap.objs.size:=by obtain⟨o,eo,_⟩:=hv;exact qw eo
  refine W.any (call_all_walk (L_ hv ⟨σ.s.heap.objs.size,[σ.s.heap.objs.size,a],[σ.s.heap.objs.size],ws.size,_,_,fun i=>bs.getD i ag,rfl,Walks.list (A:=k.A.in1) hd _ a (sD lW) ws,⟨⟨_,jg _ rfl,rfl,rfl⟩,hv.push _⟩,fun i v s' Q' E'' hP hQ=>?_,fun h' tk kp=>?_⟩))
  ·have hP:ws[i]? =aa v:=hP
   rw[<- BH,hw,BX] at hP
   obtain⟨b,hb,rfl⟩:=yu.mp hP
   rw[show b=bs.getD i ag by rw[Ph,hb];rfl]
   exact xH hQ
  ·rw[show ws.size=bs.length by rw[<- Array.length_toList,hw,cF],range_all bs]
   exact z.okG (x:=.bool (bs.all id)) (fun b o e=>kp b o (fun hm=>absurd (qw e) (eT.mp hm▸sG _)) (jN _ e)) rfl q
end
section
variable {k:Kx}{rz:aj}{L:b5}{σ ρ:Sx}{x:ay}{P Q':PV}{X:fk}{α:Type}{e:E}{es:Es}{pos:Pos}
theorem At.yI (z:At k L σ) (C:Cn):At k L (yI k.c σ C):=z.step (.yI z.rep)
theorem aat {fz:aj}{C:Cn} (S:Ml es):SE (.new fz C es):=fun{k rz L σ x P X} z hm h=>mP hm fun q xs p hh=>by
 obtain⟨f,hf⟩:=Yl.mp (bx (aU hh))
 have FC:=k.D.cls C (HX hf)
 refine W.Jj (rO C) (W.any (kM z (aU (aU hh)) (k.D.gc C) ⟨σ.g,σ.H,W.callWith (iN (bx hh)) FC.clk (W.bT (tu S z (bx hh) h) fun a τ ha=>?_)⟩))
 obtain⟨ek,ys,ey,l,z,f',Zs,q⟩:=ha
 rw[hf] at Zs;cases Zs
 refine⟨z.here,?_⟩
 rw[ek]
 have hq:=q _ (z.rep.fresh (nz τ.s.heap)).h
 have u:=P1 k.hb k.ca (k.c.T.cA C) a.pos
 have ea:dF (er (Mine.yI k.c τ C).g) (.ref (τ.s.heap.objs.size+1)::a.pos) (.ref (τ.s.heap.objs.size+1)::ys):=.cons rfl (ey.bT fun _ _ e=>e.le (Rel.yI (frs:=[]) z.rep).le)
 have zi:=z.yI C
 have sp:=k.hC f _ (Mine.yI k.c τ C) _ _ hq _ _ _ u.1 u.2 zi.rep zi.fm ea
 refine I.call (I.make_core (makes_of z.here FC.mks) (looks_findIn z.here (FC.ini f hf)) (fun self=>bind_fn z.here self (uR.mp (k.D.fnk f).1)) rfl (I.pN sp fun r s' hr=>?_))
 cases r with
 |error e=>exact .ZE L _ zi hr
 |ok fl=>
  cases fl with
  |ret v=>
   obtain⟨g,H,y,e,r,rfl,q⟩:=hr
   cases(show v=.none from e)
   have z2:=zi.step r
   have l2:σ.g.le g:=l.trans ((Rel.yI (frs:=[]) (C:=C) z.rep).le.trans r.le)
   refine⟨rfl,?_⟩
   cases fz with
   |false=>exact⟨g,H,.mk (.ref _) rfl l2 z2 q⟩
   |true=>
    obtain⟨fs,hz,q⟩:=q
    have R2:=z2.rep
    have F:=Rel.JS (s':=s') (x:=.obj C fs) (.refl R2) (frs:=k.frs) (own:=[]) (fun _ _=>R2.ET hz) (R2.noZ hz) (R2.noD hz) (fun _ _ h=>h) ((R2.yJ _ _ hz:iZ _ _ _ _ _).bT ⟨Gh.ll (R2.noZ hz),fun _ h=>h,fun _ _ _ h=>h⟩) rfl rfl rfl
    exact⟨_,_,.mk (.obj C fs) (.mk _ rfl (a8 rfl)) (l2.trans F.le) (z2.step F) q⟩
  |next=>exact hr.elim
  |brk=>exact hr.elim
  |cont=>exact hr.elim
theorem Kn {c:Cx}{es:bS cI}{n:Nat}{fs:ah (Nm×V)}{f:Nm} (r:dF (zj c σ) es.toList fs) (h:∀ p∈fs,p.1≠f):lookIn (dP f) ⟨.type "dict",au,.dict es n,#[]⟩=aa au:=by
 have hf:es.toList.find? (·.key.isStr (dP f))=au:=by
  generalize es.toList=l at r
  induction r with
  |nil=>rfl
  | @cons e' p l m q hr ih=>
   obtain⟨t,q1⟩:=q.key
   rw[L6,q1,AJ,dW (h p (.head _))]
   exact ih fun p hp=>h p (.tail _ hp)
 unfold lookIn
 simp only[hf]
 rw[TQ,Ds r];rfl
theorem Y3 {n:Nat}{args:ah (aj×Sem av)} (h1:args.any (·.1)=ao) (h2:n < 20):methodCallForm n args []=ag:=by
 unfold methodCallForm
 have e:args.all (!·.1)=ag:=l_.mpr fun x hx=>by
  have:=T7.mp h1 x hx
  simpa using this
 simp [e];exact cw [n] bJ 0x1e13001 0x1413001 h2 aQ
theorem OA {o:ay}{apos pos:Pos}{n:Nat}{ov:av}{args:ah (aj×Sem av)}{Q:av->Sx->Prop}{name:Str} (h1:args.any (·.1)=ao) (h2:n < 20) (hp:apos.endLine=pos.line)
  (h:∀ pl,W k rz (getMethod ov name pl) (fun fx τ=>W k rz (callWith pos fx.1 fx.2 args []) Q X τ) X σ):W k rz (methodCall o name apos pos k.env ov n args []) Q X σ:=by
 unfold methodCall
 rw[Y3 h1 h2]
 unfold calleeOf methodCallPos
 refine W.bind (W.holding (W.eq (a8 rfl) (h _))) fun fx τ hx=>?_
 refine W.bind (P:=fun u ρ=>u=pos/\ρ=τ) (W.eq (a8 (by rw[hp];simp)) (W.pure ⟨rfl,rfl⟩)) fun u ρ e=>?_
 obtain⟨rfl,rfl⟩:=e
 exact hx
theorem getM (z:At k L σ){a:ax}{m:Str}{pl:Sem aj}{G:av×ah av->Sx->Prop}{id:b_} (g:G (.builtin id,[.ref a]) σ)
  (h:∀ {P:av×ah av->aF->Prop},P (.builtin id,[.ref a]) σ.s->aO k.M k.A (getMethod (.ref a) m pl) P (Jw k rz X) σ.s):W k rz (getMethod (.ref a) m pl) G X σ:=W.any (h ⟨σ.g,σ.H,g⟩)
theorem At.R4 (z:At k L σ){a:ax}{id:b_}{xs:ah ay}{Q:ah V->Hp->Prop} (T:Ml es) (hm:u1 k.sc es xs=ag) (h:wEs k.C es L σ.H Q (lZ X L))
  (go:∀ us vs τ,dF (er τ.g) us vs->At k L τ->Q vs τ.H->W k rz (call (.builtin id) (.ref a::us)) (Ok k L τ P) X τ):W k rz (callWith pos (.builtin id) [.ref a] (backTo pos (starEach xs k.env)) []) (Ok k L σ P) X σ:=
 I.callWith_builtin (iN hm) (fun _=>nofun) (I.bT (tu T z hm h) (fun ar s' q=>by
  obtain⟨g,H,ek,ys,e,l,z,q⟩:=q
  rw[ek]
  exact W.later l (go _ _ ⟨s',g,H⟩ e z q)) fun _ _ w=>w)
theorem zZ {a:ax}{cl:b_}{vs:bS av}{n:Nat}{f:bS av->bS av}{h:bB} (e:h.get? a=aa ⟨.type cl,au,.seq vs n,#[]⟩):∃ n',(h.update a (Obj.mapSeq f)).get? a=aa ⟨.type cl,au,.seq (f vs) n',#[]⟩:=
 ⟨_,NH (Obj.mapSeq f) e rfl⟩
theorem At.turned (z:At k L σ){a:ax}{o p:Mo}{h':bB}{tk:Nat} (ha:σ.H a=aa o) (hs:∀ b,b≠a->h'.get? b=σ.get b) (m:UG k.c ⟨(σ.up h' tk).s,σ.g,σ.H.set a p⟩ a p) (q:P .none (σ.H.set a p)):fM (Ok k L σ P .none) (σ.up h' tk).s:=
 ⟨_,_,z.ok (x:=.none) (.W9 z.rep ha hs m) rfl q⟩
theorem RU {H:Hp}{a:ax}{b:aj} (h:(H a).bind Mo.kind?=aa b):(b=ag/\∃ xs,H a=aa (.bE xs))∨(b=ao/\∃ xs,H a=aa (.ba xs)):=by
 cases e:H a with
 |none=>rw[e] at h;contradiction
 |some o=>rw[e] at h;cases o with
  |bE xs=>cases h;exact .inl ⟨rfl,xs,rfl⟩
  |ba xs=>cases h;exact .inr ⟨rfl,xs,rfl⟩
  |_=>contradiction
theorem At.VG (z:At k L σ){m:Nm}{v:av}{x:V}{xs:ah ay}{pl:Sem aj} (T:Ml es) (hm:u1 k.sc es xs=ag) (ex:er σ.g v x){b:aj} (hk:kindB σ.H x=aa b) (Zn:Xk b m=ag)
  (h:wEs k.C es L σ.H (fun vs H2=>rq b x m vs H2 P) (lZ X L)):W k rz (getMethod v (dP m) pl) (fun fx τ=>W k rz (callWith pos fx.1 fx.2 (backTo pos (starEach xs k.env)) []) (Ok k L σ P) X τ) X σ:=by
 cases x with
 |ref a=>
  cases(show v=.ref a from ex)
  rcases RU hk with ⟨rfl,ls,hl⟩ |⟨rfl,ls,hl⟩
  ·have hma:m=.dg:=ig ((LV _).symm.trans Zn)
   subst hma
   obtain⟨vs,n',e,r⟩:=(z.rep.yJ _ _ hl:SeqAt _ _ _ _)
   refine getM z (z.R4 T hm h fun us ys τ e z q=>?_) fun q=>Calls.getMethod_list_append e rfl rfl q
   obtain⟨a',ea,q⟩:=q
   cases ea
   refine oE e q fun u y e q=>?_
   obtain⟨zs,hl,hlen,q⟩:=q
   obtain⟨ws,n1,e5,r5⟩:=(z.rep.yJ _ _ hl:SeqAt _ _ _ _)
   obtain⟨n2,e6⟩:=zZ (f:=fun xs=>xs.push u) e5
   exact W.any (call_meets Yk ⟨_,e5,rfl⟩ Yr (acI _ _) (T5 a ws n1 u (by rw[fE r5];exact f9 (fH hlen))) ⟨e5,
    z.turned (p:=.bE (zs++[y])) (tk:=τ.s.toks) hl (fun b hb=>Jf _ _ (l6 hb)) (.mk _ n2 e6 (by rw[T4];exact r5.append (.cons e .nil))) q⟩)
  ·obtain⟨ho⟩:=(z.rep.yJ _ _ hl:UL _ _ _)
   have nd:∀ a',Value.ref a=.ref a'->∃ o,σ.s.heap.get? a'=aa o/\o.dict=au:=fun a' e=>by cases e;exact⟨_,ho,rfl⟩
   by_cases hma:m=.dg
   ·subst hma
    refine getM z (z.R4 T hm h fun us ys τ e z q=>?_) fun q=>TZ (gU ho) FA.Af FA.x3 FA.G7 nd q
    obtain⟨a',ea,q⟩:=q
    cases ea
    refine oE e q fun u y e q=>gI e q fun i t q=>?_
    obtain⟨bs,hl,h1,h2,h3,q⟩:=q
    obtain⟨ho⟩:=(z.rep.yJ _ _ hl:UL _ _ _)
    exact Pa ho h1 h2 h3 fun h' hb hs=>z.turned (p:=.ba (bs++[UInt8.ofNat i.toNat])) (tk:=τ.s.toks) hl hs (.mk hb) q
   ·have hme:m=.jS:=ig ((aW (· || decide (m=.jS)) (dW hma)).symm.trans Zn)
    subst hme
    refine getM z (z.R4 T hm h fun us ys τ e z q=>?_) fun q=>TZ (gU ho) FA.Af FA.xZ FA.G6 nd q
    obtain⟨a',ea,q⟩:=q
    cases ea
    refine oE e q fun u y e q=>gB e q fun i t q=>?_
    obtain⟨bs,hl,h3,q⟩:=q
    obtain⟨ho⟩:=(z.rep.yJ _ _ hl:UL _ _ _)
    exact O_ ho h3 fun h' hb hs=>z.turned (p:=.ba (bs++i)) (tk:=τ.s.toks) hl hs (.mk hb) q
 |_=>contradiction
theorem WK {m:Nm} (S:SE e) (T:Ml es):SE (.bk e m es):=fun{k rz L σ x P X} z hm h=>rm hm fun f xs Kq p hh=>lb hh fun v a ap hh=>tw (ir (aU (aU hh))) (by
 obtain rfl:=eq_of_beq (bx (ir (aU hh)))
 have h5:=bx hh
 rw[arm_eval_Call,Bl (bx (aU (aU (aU hh))))]
 refine S.step z (bx (ir hh)) h fun v τ y e l z q=>W.cY (OA (iN h5) (ig (bx (aU hh))) (eq_of_beq (bx (aU (aU hh)))) fun pl=>?_)
 cases hc:A6 τ.H y with
 |none=>
  rw[hc] at q
  obtain⟨b,hk,Zn,q⟩:=q
  exact W.bT (z.VG T h5 e hk Zn q) fun fx ρ w=>W.later l w
 |some F=>
  rw[hc] at q
  obtain⟨f,hf,q⟩:=q
  obtain⟨hn,hmf⟩:=HO hf
  have FC:=k.D.cls F hn
  obtain⟨a,fs,rfl,Ins⟩:=z.ZO hc e
  obtain⟨d,ds,n,I',e3,e2,rr,nd,yP⟩:=Ins.QH
  refine W.any (method_fn z.here I' FC.ga FC.ng (FC.bk m f hf) (uR.mp (k.D.fnk f).1) ?_ ⟨τ.g,τ.H,W.later l (z.XQ (us:=[.ref a]) (vs:=[y]) T h5 (.cons e .nil) q)⟩)
  exact aW (Option.map _) (Kn rr fun p hp (e:p.1=m)=>hmf (e▸yP p hp)))
theorem Sk (b:Bi):(Str.ofString b.s==("__debug__":Str))=ao:=by cases b<;>decide+kernel
theorem UB {b:Bi} (S:Ml es):SE (.bc b es):=fun{k rz L σ x P X} z hm h=>mP hm fun q xs p hh=>by
 refine W.Jj (Sk b) (W.any (AA z (aU hh) (k.D.gb b) ⟨σ.g,σ.H,I.callWith_builtin (iN (bx hh)) (fun a=>by cases b<;>exact nofun) (I.bT (tu S z (bx hh) h) (fun ar s' q=>?_) fun _ _ w=>w)⟩))
 obtain⟨g,H,ek,ys,e,l,z,q⟩:=q
 rw[ek]
 exact W.later l (z.OY q e)
end
def SP (e:E):Prop:=∀ {k:Kx}{rz:aj}{L:b5}{σ:Sx}{x:ay}{P:PV}{X:fk},At k L σ->mE k.sc e x=ag->wE k.C e L σ.H P (lZ X L)->W k rz (eval x k.env) (Ok k L σ fun v H=>(∃ t:Str,v=.str t/\t.length<=1000)/\P v H) X σ
def SJ (es:Es):Prop:=∀ {k:Kx}{rz:aj}{L:b5}{σ:Sx}{xs:ah ay}{P:PV}{X:fk}{acc:Str}{j:Nat},At k L σ->u1 k.sc es xs=ag->acc.length<=1000*j->j+xs.length<=16->
 wEs k.C es L σ.H (fun _ H1=>∀ t:Str,t.length<=16000->P (.str t) H1) (lZ X L)->W k rz (joinParts acc (evalEach xs k.env)) (Ok k L σ P) X σ
noncomputable def WV:Es->Prop
 |.nil=>True
 |.cons e es=>SE e/\WV es
section
variable {k:Kx}{rz:aj}{L:b5}{σ ρ:Sx}{x:ay}{P Q':PV}{X:fk}{α:Type}{e:E}{es:Es}{pos:Pos}
theorem WE:SP .cK:=fun{k rz L σ x P X} z hm h=>GK z hm fun t ht=>⟨⟨t,rfl,ht⟩,h t ht⟩
theorem Mk (S:SE e):SP (.fmt e):=fun{k rz L σ x P X} z hm h=>nq hm fun v j sp p hh=>QU (aU (aU hh)) (by
 obtain rfl:=eq_of_beq (bx hh)
 rw[arm_eval_FormattedValue]
 refine S.step z (bx (aU hh)) h fun v τ y e l z q=>W.cY ?_
 obtain⟨i,rfl,hs,q⟩:=q
 obtain⟨t,rfl⟩:=e
 refine W.leaf (LH (show converted (-1) (.int i t)=pure (.int i t) from rfl) ⟨τ.g,τ.H,?_⟩)
 have hk:(toString i).length<=200+1:=Uc (k:=200) (by decide) (sU hs)
 have hl:(Str.ofString (toString i)).length<=1000:=by rw[X3];exact cw [(toString i).length] bJ yi 0xc913000 hk aQ
 exact W.later l (W.any (wpAny_formatField_int (ft (sU hs) (by decide)) (z.Pt (x:=.str _) ⟨_,rfl⟩ ⟨⟨_,rfl,hl⟩,q _ hl⟩))))
theorem Jh (S:SP e):SE e:=fun{k rz L σ x P X} z hm h=>W.Y7 (S z hm h) fun v τ x e l z q=>.mk x e l z q.2
theorem aaq:SJ .nil:=fun{k rz L σ xs P X acc j} z hm ha hk h=>by
 obtain rfl:=qj hm
 have hl:acc.length<=16000:=aK ha (aK (me 1000 hk) (by decide))
 exact W.any (wpAny_mkStr (z.Pt (x:=.str acc) ⟨_,rfl⟩ (h acc hl)) (by rw[l8];exact aK hl (by decide)))
theorem WG (S:SP e) (T:SJ es):SJ (.cons e es):=fun{k rz L σ xs P X acc j} z hm ha hk h=>by
 revert hk
 refine lF (P:=fun xs=>j+xs.length<=16->W k rz (joinParts acc (evalEach xs k.env)) (Ok k L σ P) X σ) hm fun x xs h1 h2 _ hk=>?_
 show W k rz (joinParts acc (eval x k.env::evalEach xs k.env)) _ _ _
 unfold joinParts
 refine W.nG (S z h1 h) fun v τ y e l z q=>?_
 obtain⟨⟨t,rfl,ht⟩,q⟩:=q
 obtain⟨tk,rfl⟩:=e
 rw[jf] at hk
 have hl:(acc++t).length<=1000*(j+1):=by rw[show(acc++t).length=acc.length+t.length from Mb acc t,S5];exact fS ha ht
 have hj:j+1<=16:=aK (dX (eH (bX _)) j) hk
 refine W.leaf (LH (a:=some t) rfl ⟨τ.g,τ.H,W.eq (bb (Ga.mpr ?_)) (W.later l (T (j:=j+1) z h2 hl (by rw[dU,nR 1];exact hk) q))⟩)
 exact aK (Mb acc t▸hl) (aK (me 1000 hj) (by rw[l8];decide))
theorem WN (T:es.parts=ag->SJ es):SE (.gO es):=fun{k rz L σ x P X} z hm h=>tN hm fun xs p hh=>by
 rw[arm_eval_JoinedStr]
 have h2:=ig (bx (aU (aU hh)))
 have h3:=ig (bx (aU hh))
 have h1:=aU (aU (aU hh))
 match xs,h2 with
 |x1::x2::xs,_=>exact T (bx hh) (acc:=Str.empty) (j:=0) z h1 (bD _) (by rw[jF];exact h3) h
inductive nY (g:Gh):ah Nm->ah V->ah (av×av)->Prop
 |nil:nY g [] [] []
 |cons {k ks x xs u ps} (t:Tok) (e:er g u x) (r:nY g ks xs ps):nY g (k::ks) (x::xs) ((.str (dP k) t,u)::ps)
theorem nY.len {g:Gh}{ks:ah Nm}{vs:ah V}{ps:ah (av×av)} (h:nY g ks vs ps):ps.length=ks.length/\ks.length=vs.length:=by
 induction h with
 |nil=>exact⟨rfl,rfl⟩
 |cons t e r ih=>exact⟨aW Nat.succ ih.1,aW Nat.succ ih.2⟩
theorem KQ {c:Cx}{g:Gh}{ks:ah Nm}{vs:ah V}{ps:ah (av×av)} (h:nY g ks vs ps):∃ pH,Carries (sk c) ps pH/\dF (WX g) pH (ks.zip vs):=by
 induction h with
 |nil=>exact⟨[],trivial,.nil⟩
 | @cons k ks x xs u ps t e r ih=>
  obtain⟨pH,c1,c2⟩:=ih
  exact⟨(dP k,u)::pH,⟨c9 rfl,rfl,c1⟩,.cons ⟨rfl,e⟩ c2⟩
inductive OkP (k:Kx) (L:b5) (σ:Sx) (ks:ah Nm) (Q:ah V->Hp->Prop) (ps:ah (av×av)) (τ:Sx):Prop
 |mk (vs:ah V) (e:nY τ.g ks vs ps) (l:σ.g.le τ.g) (z:At k L τ) (q:Q vs τ.H)
theorem AU:∀ {es:Es}{ks:ah Nm}{keys:ah (aB ay)}{xs:ah ay}{pos:Pos}{σ:Sx}{Q:ah V->Hp->Prop},WV es->At k L σ->HS ks keys=ag->u1 k.sc es xs=ag->keys.length=xs.length->wEs k.C es L σ.H Q (lZ X L)->
  W k rz (evalPairs (pairTrees keys xs k.env pos)) (OkP k L σ ks Q) X σ
 |.nil,ks,keys,xs,pos,σ,Q,S,z,hk,hm,hl,h=>by
  obtain rfl:=qj hm
  obtain rfl:=qO.mp hl
  cases ks with
  |nil=>exact W.pure (.mk [] .nil (.refl _) z h)
  |cons=>contradiction
 |.cons e es,ks,keys,xs,pos,σ,Q,S,z,hk,hm,hl,h=>by
  revert hl
  refine lF (P:=fun xs=>keys.length=xs.length->W k rz (evalPairs (pairTrees keys xs k.env pos)) (OkP k L σ ks Q) X σ) hm fun x xs h1 h2 _ hl=>?_
  cases ks with
  |nil=>obtain rfl:=tw (P:=fun l=>l=[]) hk rfl;contradiction
  |cons n ks=>
   cases keys with
   |nil=>contradiction
   |cons y keys=>
    refine uw (P:=fun y=>W k rz (evalPairs (pairTrees (y::keys) (x::xs) k.env pos)) (OkP k L σ (n::ks) Q) X σ) (aU hk) fun y hy=>?_
    refine eQ (P:=fun y=>W k rz (evalPairs (pairTrees (aa y::keys) (x::xs) k.env pos)) (OkP k L σ (n::ks) Q) X σ) hy fun cst d p hc=>?_
    refine vE (P:=fun cst=>W k rz (evalPairs (pairTrees (aa (.Constant cst d p)::keys) (x::xs) k.env pos)) (OkP k L σ (n::ks) Q) X σ) hc fun t ht=>?_
    obtain rfl:=eq_of_beq ht
    refine W.bind (P:=fun v ρ=>v=.str (dP n) σ.s.toks/\ρ=σ.up σ.s.heap (σ.s.toks+1)) (W.any (GD ⟨σ.g,σ.H,rfl,rfl⟩)) fun v ρ hv=>?_
    obtain⟨rfl,rfl⟩:=hv
    refine W.bind (P:=fun u ρ=>Ok k L (σ.up σ.s.heap (σ.s.toks+1)) (fun y H=>wEs k.C es L H (fun vs H2=>Q (y::vs) H2) (lZ X L)) u ρ) (W.holding (SE.step S.1 z.tok h1 h fun v τ y e l z q=>W.cY (W.pure (Ok.mk y e l z q)))) fun v τ o=>?_
    obtain⟨y,e,l,z,q⟩:=o
    refine W.bind (W.holding (AU S.2 z (bx hk) h2 (xu hl) q)) fun ps τ' o=>?_
    obtain⟨vs,e',l',z,q⟩:=o
    exact W.pure (.mk (y::vs) (.cons _ (e.le l') e') (l.trans l') z q)
theorem uy:∀ {ks:ah Nm}{keys:ah (aB ay)},HS ks keys=ag->keys.all (·.isSome)=ag
 |[],keys,h=>by obtain rfl:=tw (P:=fun l=>l=[]) h rfl;rfl
 |k::ks,[],h=>by contradiction
 |k::ks,y::keys,h=>have h2:=bx (show(abF k y&&HS ks keys)=ag from h);uw (P:=fun y=>(y::keys).all (·.isSome)=ag) (aU h) fun _ _=>(uy h2:keys.all (·.isSome)=ag)
noncomputable def Kx.at (k:Kx) (σ:Sx):Kx:={k with st:=σ}
theorem At.start (z:At k L σ):At (k.at σ) L σ:={z with rel:=.refl z.rep}
theorem At.back {L':b5} (z:At k L σ) (w:At (k.at σ) L' ρ):At k L' ρ:={w with rel:=z.rel.trans w.rel fun b hb=>w.own b (k.sub b hb)}
theorem Jw.back (z:At k L σ){e:av}{s':aF} (h:Jw (k.at σ) rz X e s'):Jw k rz X e s':=by
 cases h with
 |ZE L τ w f=>exact .ZE L τ (z.back w) f
 |held h=>obtain⟨L,τ,υ,D,ea,a0,La,he,hf,w,t,f,x⟩:=h;exact .held (.mk L τ υ D ea a0 La he hf (z.back w) t f x)
 |made L τ D ea vs hr he w m g d o x=>exact .made L τ D ea vs hr he (z.back w) m g d o x
theorem W.back (z:At k L σ){m:Sem α}{Q:α->Sx->Prop} (h:W (k.at σ) rz m Q X ρ):W k rz m Q X ρ:=I.bT h (fun _ _ q=>q) fun _ _ w=>w.back z
theorem At.Qa {L':b5} (w:At (k.at σ) L' ρ) (z:At k L σ){a:ax}{o:Obj} (e:σ.get a=aa o) (f:σ.Off a) (no:a∉k.own) (nr:a∉k.frs):ρ.get a=aa o/\ρ.Off a:=
 ⟨(w.rel.keep a o e f no).k nr,w.rel.off a o e f⟩
theorem WO {ks:ah Nm} (S:WV es):SE (.dict ks es):=fun{k rz L σ x P X} z hm h=>HH hm fun keys xs p hh=>by
 have h1:=aU (ir hh)
 have h3:=ig (bx (aU (aU (aU hh))))
 have h4:=ig (bx (aU (aU hh)))
 have h5:=ig (bx (aU hh))
 have hn:=pairTrees_length keys xs k.env p (uy h1) h3
 rw[arm_eval_Dict,zip_pairTrees keys xs k.env p (uy h1) h3,dictDisplay_pairs _ (fun e=>by rw[e] at hn;rw[<- hn] at h5;cases h5) (by rw[hn];exact cE h4 (by decide))]
 have na:=di σ.s.heap
 have z0:At k L (σ.up (σ.s.heap.push emptyDict) σ.s.toks):=z.grow fun _ _ h=>jN _ h
 have a0:(σ.up (σ.s.heap.push emptyDict) σ.s.toks).get σ.s.heap.objs.size=aa emptyDict:=jg _ rfl
 have F:=z.rep.fresh na
 refine W.cY (W.bind (P:=fun d τ=>Ok k L σ P (.ref d) τ) (W.leaf (LI ⟨σ.g,σ.H,?_⟩)) fun d τ o=>W.pure o)
 refine W.bind (P:=fun _ τ=>Ok k L σ P (.ref σ.s.heap.objs.size) τ) (W.holding (W.eq (a8 (hn.symm▸h4)) ?_)) fun _ τ o=>W.pure o
 refine W.bind (W.back z0 (AU (k:=k.at (σ.up (σ.s.heap.push emptyDict) σ.s.toks)) S z0.start h1 (bx (ir hh)) h3 h)) fun ps τ o=>W.holding ?_
 obtain⟨vs,ep,l,w,hlen,q⟩:=o
 obtain⟨a1,nf⟩:=w.Qa z0 a0 (⟨F.z,F.h,F.d⟩:(σ.up (σ.s.heap.push emptyDict) σ.s.toks).Off _) (fun m=>z.zz na (k.sub _ m)) (z.MT na)
 have zb:=z0.back w
 obtain⟨pH,c1,c2⟩:=KQ (c:=k.c) ep
 have h6:=ig (bx hh)
 have hnd:(pH.map (·.1)).Nodup:=(ro c2).mpr (by rw[List.map_fst_zip (gX hlen)];exact h6.2)
 refine W.leaf (wpAny_storeAll (knd:=sk k.c) ps pH [] τ.s _ c1 ⟨_,#[],0,a1,⟨rfl,rfl,rfl⟩,rfl,fun _ he=>absurd he (by simp),.nil,List.nodup_nil⟩ ?_ fun h' hm' hs'=>?_)
 ·rw[c1.length,ep.len.1,l8,xC,jF];exact aK h6.1 (by decide)
 ·rw[merged_nil_of_nodup _ hnd] at hm'
  exact⟨τ.g,τ.H.set σ.s.heap.objs.size (.i_ (ks.zip vs)),W.pure (.mk (.ref _) rfl l ((z.new na).adopt (o:=.i_ (ks.zip vs)) zb nf (tk:=τ.s.toks+ps.length) hs'.2 (DictAt.of (σ:=⟨(τ.up h' (τ.s.toks+ps.length)).s,τ.g,τ.H.set σ.s.heap.objs.size (.i_ (ks.zip vs))⟩) hm' c2)) (q _ nf.h))⟩
end
inductive Wx (env:Env) (own:ah ax) (x:Nm):Prop
 |loc (e:env.kindOf (dP x)=aa .local) (m:env.locals∈own)
 |cell (e:env.kindOf (dP x)=aa .cell) (m:∀ a∈ownOf env,a∈own)
abbrev Kx.wy (k:Kx) (x:Nm):Prop:=Wx k.env k.own x
inductive GO (k:Kx) (σ:Sx) (P:b5->Prop) (u:cR) (τ:Sx):Prop
 |mk (L:b5) (h:bB) (tk:Nat) (e:τ=σ.up h tk) (z:At k L τ) (q:P L)
theorem MQ {h h':bB}{a:ax}{m:Str->aB av} (hn:h.Ns a m) (e:h'.get? a=h.get? a):h'.Ns a m:=Au hn fun o q=>⟨o.slots,e.trans q⟩
theorem tj {h h':bB}{a:ax}{v:aB av} (hn:h.IsCell a v) (e:h'.get? a=h.get? a):h'.IsCell a v:=uJ hn fun o q=>⟨o.slots,e.trans q⟩
theorem qH {az h h':bB}{a:ax} (hs:∀ b,b≠a->h'.get? b=h.get? b) (ha:∃ o,h'.get? a=aa o/\∀ vs,o.data≠.fields vs):∀ {l:ah Env},h.FunFrames az l->h'.FunFrames az l
 |[],_=>trivial
 |env::r,⟨k,⟨L,o,hf,hn,ho,hd⟩,b⟩=>⟨k,if e:L=a then have⟨o',e1,e2⟩:=ha;⟨L,o',hf,hn,e▸e1,e2⟩ else⟨L,o,hf,hn,(hs L e).trans ho,hd⟩,qH hs ha b⟩
theorem VD {h:bB}{a:ax}{m:Str->aB av} (hn:h.Ns a m):∃ o,h.get? a=aa o/\∀ vs,o.data≠.fields vs:=have⟨o,es,ep,ho,hd,_⟩:=hn;⟨o,ho,fun _ e=>nomatch hd.symm.trans e⟩
theorem OW {h:bB}{a:ax}{v:aB av} (hn:h.IsCell a v):∃ o,h.get? a=aa o/\∀ vs,o.data≠.fields vs:=have⟨o,ho,hd⟩:=hn;⟨o,ho,fun _ e=>nomatch hd.symm.trans e⟩
structure GP (env:Env) (l:ah (Str×d8)) (cs:ah (Str×ax)):Prop where
 c:∀ n a,(n,a)∈cs->env.cells.lookup n=aa a
 f:∀ p∈l,p.2=.free->∃ a,(p.1,a)∈cs
theorem KO {M:eE}{A:bF}{s:aF}{E':av->aF->Prop}{env:Env}{gx:bY} (h:∀ p∈gx.names,p.2=.free->∃ a,env.cells.lookup p.1=aa a){P:ah (Str×ax)->aF->Prop}
  (q:∀ cs,GP env gx.names cs->P cs s):aO M A (closureFor gx env) P E' s:=by
 unfold closureFor
 have key:∀ (l:ah (Str×d8)) (acc:ah (Str×ax)),(∀ p∈l,p.2=.free->∃ a,env.cells.lookup p.1=aa a)->(∀ n a,(n,a)∈acc->env.cells.lookup n=aa a)->
   aO M A (forIn l acc fun(x:Str×d8) (r:ah (Str×ax))=>(if (x.2==.free)=ag then cellOf env x.1>>=fun a=>pure (ForInStep.yield ((x.1,a)::r)) else pure (ForInStep.yield r):Sem (ForInStep (ah (Str×ax))))) (fun cs s'=>s'=s/\GP env l cs/\∀ x∈acc,x∈cs) E' s:=by
  intro l
  induction l with
  |nil=>exact fun acc _ ha=>by rw[Tu];exact bW ⟨rfl,⟨ha,fun _ m=>absurd m uV⟩,fun _ m=>m⟩
  |cons p l ih=>
   intro acc hl ha
   rw[Gr]
   by_cases hf:p.2=.free
   ·obtain⟨a,ea⟩:=hl p (.head _) hf
    rw[a8 (uR.mpr hf)]
    refine bf (bf (wpAny_cellOf ea (bW ?_)))
    refine pj (ih _ (fun p hp=>hl p (.tail _ hp)) fun n a' hm=>(dT.mp hm).elim (fun e=>by cases e;exact ea) (ha n a')) (fun cs s' o=>?_) fun _ _ e=>e
    exact⟨o.1,⟨o.2.1.c,fun p' hp' Zs=>(dT.mp hp').elim (fun e=>⟨a,e▸o.2.2 _ (.head _)⟩) fun m=>o.2.1.f p' m Zs⟩,fun x m=>o.2.2 x (.tail _ m)⟩
   ·rw[bb fun e=>hf (uR.mp e)]
    refine bf (bW ?_)
    refine pj (ih _ (fun p hp=>hl p (.tail _ hp)) ha) (fun cs s' o=>?_) fun _ _ e=>e
    exact⟨o.1,⟨o.2.1.c,fun p' hp' Zs=>(dT.mp hp').elim (fun e=>absurd (e▸Zs) hf) fun m=>o.2.1.f p' m Zs⟩,o.2.2⟩
 exact bf (pj (key gx.names [] h fun _ _ m=>absurd m uV) (fun cs s' o=>bW (o.1▸q cs o.2.1)) fun _ _ e=>e)
section
variable {k:Kx}{rz:aj}{L:b5}{σ τ:Sx}{X:fk}{x:Nm}{v:av}{y:V}{P:b5->Prop}{α:Type}
theorem At.bind (z:At k L σ) (e:er σ.g v y){a:ax}{h':bB}{tk:Nat} (mo:a∈k.own) (hs:∀ b,b≠a->h'.get? b=σ.get b) (nf:∃ o,h'.get? a=aa o/\∀ vs,o.data≠.fields vs) (ns:∃ m,h'.Ns k.env.locals m)
  (cl:∀ n a,(n,a)∈k.env.cells->∃ v,h'.IsCell a v) (here:B6 k.env h' (dP x) v) (rest:∀ z u,z≠x->B6 k.env σ.s.heap (dP z) u->B6 k.env h' (dP z) u):At k (L.set x y) (σ.up h' tk):=
 have off:=z.own a (k.sub a mo)
 {rel:={z.rel with
   rep:=z.rep.keeps (fun b o e f=>(hs b fun q=>f (q▸off)).trans e) fun b o e=>(hs b fun q=>bP (k.ob a (k.sub a mo)) (q▸e)).trans (z.rep.stays b o e)
   keep:=fun b o e f nb=>(z.rel.keep b o e f nb).trans fun o' e'=>.refl ((hs b fun q=>nb (q▸mo)).trans e')
   off:=fun b o e f=>have w:=z.rel.off b o e f;⟨w.z,w.h,w.d⟩}
  fm:=⟨qH hs nf z.fm.ff,fun b hb=>have w:=z.fm.ffn b hb;⟨w.z,w.h,w.d⟩⟩
  loc:=fun u w q=>c7 q (fun ex h=>by cases h;exact⟨v,e,ex▸here⟩) fun n h=>have⟨u',e1,e2⟩:=z.loc u w h;⟨u',e1,rest u u' n e2⟩
  own:=fun b hb=>have w:=z.own b hb;⟨w.z,w.h,w.d⟩
  ns:=ns
  cl:=cl}
theorem zW (z:At k L σ) (hk:k.wy x) (e:er σ.g v y){A':bF}{E':av->aF->Prop} (q:P (L.set x y)):aO k.M A' (storeName k.env (dP x) v) (fun u s'=>fM (GO k σ P u) s') E' σ.s:=by
 obtain⟨m,hn⟩:=z.ns
 cases hk with
 |loc hk mo=>
  refine wpAny_storeName_local hk hn (fun h' hn' hs=>⟨σ.g,σ.H,.mk _ h' _ rfl (z.bind e mo hs.2 (VD hn') ⟨_,hn'⟩ (fun n a hm=>(z.cl n a hm).elim fun w hw=>⟨w,tj hw (hs.2 a (k.lc n a hm))⟩) (.loc hk _ hn' (a8 rfl)) fun z' u zx hz=>?_) q⟩) (by rw[k.kind];rfl)
  cases hz with
  |loc k1 m' hm' e1=>exact .loc k1 _ hn' ((bb fun w=>zx (qi w)).trans ((Heap.Ns.agree hn hm' _).trans e1))
  |cell k1 cc e1 hc=>exact .cell k1 cc e1 (tj hc (hs.2 cc (k.lc _ _ (mem_of_lookup e1))))
 |cell hk mo=>
  obtain⟨a,ea⟩:=k.co (dP x) (.inl hk)
  have hm:=mem_of_lookup ea
  obtain⟨w,hw⟩:=z.cl _ _ hm
  refine wpAny_storeName_cell k.kind hk ea hw fun h' VX hs=>⟨σ.g,σ.H,.mk _ h' σ.s.toks rfl (z.bind (tk:=σ.s.toks) e (mo a (jK hm)) hs.2 (OW VX) ⟨m,MQ hn (hs.2 _ (l6 (k.lc _ _ hm)))⟩ (fun n b hb=>?_) (.cell (.inl hk) a ea VX) fun z' u zx hz=>?_) q⟩
  ·exact if eb:b=a then⟨_,eb▸VX⟩ else(z.cl n b hb).elim fun w hw=>⟨w,tj hw (hs.2 b eb)⟩
  ·cases hz with
   |loc k1 m' hm' e1=>exact .loc k1 m' (MQ hm' (hs.2 _ (l6 (k.lc _ _ hm)))) e1
   |cell k1 cc e1 hc=>exact .cell k1 cc e1 (tj hc (hs.2 cc fun q=>zx (qi (k.apart _ _ _ (mem_of_lookup e1) (q▸hm)))))
theorem GO.from {u:cR}{h:bB}{tk:Nat}:GO k (σ.up h tk) P u τ->GO k σ P u τ
 |.mk L h' tk' e z q=>.mk L h' tk' e z q
theorem DR (z:At k L σ) (hk:k.wy x) (e:er σ.g v y) (q:P (L.set x y)):W k rz (bindName k.env (dP x) v) (GO k σ P) X σ:=I.bindName (zW z hk e q)
theorem rU (z:At k L σ){p:Pos} (hk:k.wy x) (e:er σ.g v y) (q:P (L.set x y)):W k rz (assign (.Name (dP x) p) k.env v) (GO k σ P) X σ:=by
 rw[arm_assign_Name]
 exact W.cY (DR z hk e q)
theorem W.XT {m:Sem cR}{f:cR->Sem α}{Q:α->Sx->Prop} (h:W k rz m (GO k σ P) X σ) (K:∀ L hp tk,At k L (σ.up hp tk)->P L->W k rz (f ()) Q X (σ.up hp tk)):W k rz (m>>=f) Q X σ:=W.bind h fun u τ o=>match o with
 |.mk L hp tk e z q=>by subst e;exact K L hp tk z q
theorem IU:∀ {fL:ah Nm}{xs:ah ay}{us:ah av}{vs:ah V}{L:b5}{σ:Sx},At k L σ->wY fL xs=ag->(∀ x∈fL,k.wy x)->dF (er σ.g) us vs->fL.length=vs.length->P (L.sets fL vs)->
  W k rz (assignInOrder ((assignEach xs k.env).map (·.2)) us) (GO k σ P) X σ
 |[],xs,us,vs,L,σ,z,hm,hk,e,hl,q=>by
  obtain rfl:=tw (P:=fun l=>l=[]) hm rfl
  obtain rfl:=qO.mp hl.symm
  exact W.pure (.mk L σ.s.heap σ.s.toks rfl z q)
 |x::fL,[],us,vs,L,σ,z,hm,hk,e,hl,q=>by contradiction
 |x::fL,x1::xs,us,[],L,σ,z,hm,hk,e,hl,q=>by contradiction
 |x::fL,x1::xs,us,y::vs,L,σ,z,hm,hk,e,hl,q=>by
  have h2:=bx (show(nu (dP x) x1&&wY fL xs)=ag from hm)
  obtain⟨u,us,rfl,e1,e2⟩:=e.XJ
  refine gP (P:=fun x1=>W k rz (assignInOrder ((assignEach (x1::xs) k.env).map (·.2)) (u::us)) (GO k σ P) X σ) (aU hm) fun p=>?_
  refine W.XT (P:=fun L'=>L'=L.set x y) (W.holding (rU z (hk x (.head _)) e1 rfl)) fun L' h tk z' q'=>?_
  subst q'
  exact W.bT (IU (L:=L.set x y) z' h2 (fun z m=>hk z (.tail _ m)) e2 (xu hl) q) fun _ _=>GO.from
theorem Ay {env:Env}:∀ {fL:ah Nm}{xs:ah ay},wY fL xs=ag->(assignEach xs env).length=fL.length/\(assignEach xs env).findIdx? (·.1)=au
 |[],xs,h=>by obtain rfl:=tw (P:=fun l=>l=[]) h rfl;exact⟨rfl,rfl⟩
 |x::fL,[],h=>by contradiction
 |x::fL,y::xs,h=>by
  have h2:=Ay (env:=env) (bx (show(nu (dP x) y&&wY fL xs)=ag from h))
  refine gP (P:=fun y=>(assignEach (y::xs) env).length=(x::fL).length/\(assignEach (y::xs) env).findIdx? (·.1)=au) (aU h) fun p=>⟨aW Nat.succ h2.1,?_⟩
  show List.findIdx? _ ((ao,assign (.Name (dP x) p) env)::assignEach xs env)=au
  rw[Ud,h2.2];rfl
@[elab_as_elim] theorem MN {k:ah V->Prop}{P:V->Prop} (h:MO k y) (K:∀ vs,k vs->P (.tup vs)):P y:=match y,h with
 |.tup vs,h=>K vs h
theorem P8 (z:At k L σ){tup:aj}{fL:ah Nm}{target:ay} (hm:Km tup fL target=ag) (hk:∀ x∈fL,k.wy x) (e:er σ.g v y) (h:qK tup fL y L P):W k rz (assign target k.env v) (GO k σ P) X σ:=by
 cases tup with
 |false=>exact rA (P:=fun fL=>qK ao fL y L P->(∀ x∈fL,k.wy x)->W k rz (assign target k.env v) (GO k σ P) X σ) hm (fun x hx h hk=>gP hx fun p=>rU z (hk x (.head _)) e h) h hk
 |true=>
  refine MN (P:=fun y=>er σ.g v y->W k rz (assign target k.env v) (GO k σ P) X σ) h (fun vs h e=>pD (P:=fun target=>W k rz (assign target k.env v) (GO k σ P) X σ) hm fun xs c p hx=>?_) e
  obtain⟨a,rfl,ez⟩:=e
  obtain⟨ws,n,ht,r⟩:=(z.rep.yC _ _ ez:SeqAt _ _ _ _)
  obtain⟨n1,n2⟩:=Ay (env:=k.env) hx
  rw[arm_assign_Tuple]
  refine W.cY ?_
  unfold unpack
  rw[n2,n1.trans (h.1.trans r.length.symm)]
  refine W.bind (P:=fun us τ=>us=ws.toList/\∃ h',τ=σ.up h' σ.s.toks/\At k L τ) (W.holding (W.any (wpAny_unpackItems_tuple k.ca.hd ⟨_,ht,rfl,_,rfl⟩ fun h' he=>⟨σ.g,σ.H,rfl,h',rfl,z.grow (tk:=σ.s.toks) fun b o eb=>he b o (sD (qw eb)) eb⟩))) fun us τ o=>?_
  obtain⟨rfl,h',rfl,z'⟩:=o
  exact W.bT (IU z' hx hk r h.1 h.2) fun _ _=>GO.from
end
noncomputable def Kk:fk:=fun _ _ _=>False
section
variable {k:Kx}{rz:aj}{L:b5}{σ τ ρ:Sx}{X:fk}{α:Type}
theorem Jw.none {e:av}{s:aF}{p:Prop}:Jw k rz Kk e s->p
 |.ZE _ _ _ f=>match f with |.mk _ _ _ _ _ _ _ x=>x.elim
 |.held h=>match h with |.mk _ _ _ _ _ _ _ _ _ _ _ _ x=>x.elim
 |.made _ _ _ _ _ _ _ _ _ _ _ _ x=>x.elim
inductive NN (c:fj) (J:Nat->Sx->Prop) (Done:Sx->Prop) (n:Nat) (σ:Sx):Fin->Prop
 |done (h:Done σ):NN c J Done n σ (.done .next)
 |again (m:Nat) (h:m < n) (j:J m σ):NN c J Done n σ (.again c)
theorem OV {elt target iter:ay}{ifs:ah ay}{scope:bY}{pos:Pos}{it acc:av}{env:Env} (J:Nat->Sx->Prop) (Done:Sx->Prop)
  (turn:∀ n σ,J n σ->W k rz (compTurn (.ListComp elt [⟨target,iter,ifs,0⟩] scope pos) 0 it acc env) (fun f τ=>NN (.compLoop (.ListComp elt [⟨target,iter,ifs,0⟩] scope pos) 0 it acc env) J Done n τ f) Kk σ) (n:Nat) (h:J n σ):
  iI k.M k.A (.compLoop (.ListComp elt [⟨target,iter,ifs,0⟩] scope pos) 0 it acc env) (fun r s'=>r=.ok .next/\fM Done s') σ.s:=by
 refine I.loop (c:=.compLoop (.ListComp elt [⟨target,iter,ifs,0⟩] scope pos) 0 it acc env) rfl (fun _ _=>rfl) (fun n s=>fM (J n) s) (fun n s j=>?_) n ⟨σ.g,σ.H,h⟩
 obtain⟨g,H,j⟩:=j
 refine I.onRaise (m:=compTurn (.ListComp elt [⟨target,iter,ifs,0⟩] scope pos) 0 it acc env) (I.bT (turn n ⟨s,g,H⟩ j) (fun f s' o=>?_) fun _ _=>Jw.none)
 obtain⟨g',H',o⟩:=o
 cases o with
 |done h=>exact⟨rfl,g',H',h⟩
 |again m h j=>exact⟨rfl,m,h,g',H',j⟩
theorem KL {elt target iter:ay}{ifs:ah ay}{scope:bY}{pos:Pos}{it acc:av}{env:Env}{R:fq->aF->Prop}{prog:dx}{w:dQ}{A:bF}{s:aF}
  (h0:iI (model prog w) A (.compLoop (.ListComp elt [⟨target,iter,ifs,0⟩] scope pos) 0 it acc env) R s) (hp:∀ P:av->aF->Prop,P it s->aO (model prog w) A (pyIter it) P (fun _ _=>False) s):
  iI (model prog w) A (.compStart (.ListComp elt [⟨target,iter,ifs,0⟩] scope pos) 0 it acc env) R s:=by
 refine I.tree (c:=.compStart (.ListComp elt [⟨target,iter,ifs,0⟩] scope pos) 0 it acc env) (fun _ _=>rfl) ?_
 refine I.onRaise (m:=PySem.compStart (.ListComp elt [⟨target,iter,ifs,0⟩] scope pos) 0 it acc env) (I.bT (E:=fun _ _=>False) ?_ (fun _ _ z=>z) fun _ _ z=>z.elim)
 unfold PySem.compStart
 refine I.bind (m:=ask) (I.any (TO ?_))
 refine if h:(⟨(model prog w).prog,(model prog w).w.params⟩:Setting).params.followText "comprehension-iter-twice"=ag then ?_ else ?_
 ·exact I.ifT h (I.pure ⟨rfl,h0⟩)
 ·exact I.HY h (I.leaf (sx (I.cY (I.leaf (hp _ (I.pure ⟨rfl,h0⟩))))))
theorem OG {M:eE}{A:bF}{s:aF}{E':av->aF->Prop}{target:ay}{a l:ax}{i:Nat}{v:av} (hit:s.heap.IsListIter a l i){P:cR->aF->Prop} (q:P () s):aO M A (letOwnedTupleGo target (.ref a) v) P E' s:=by
 obtain⟨o,ho,hc,hd⟩:=hit
 have body:aO M A (letOwnedTupleGo (.List [] ⟨0,0,0,0⟩) (.ref a) v) P E' s:=by
  cases v with
  |ref b=>
   refine bf (xq ho ?_)
   rw[hc,hd]
   exact fW (fun h=>absurd (aU h) (by decide)) (bW q)
  |_=>exact bW q
 cases target with
 |Tuple=>exact body
 |List=>exact body
 |_=>exact bW q
structure PC (k:Kx) (aI aD ls:ax) (src:V) (full acc r:ah V) (L:b5) (σ:Sx):Prop where
 z:At k L σ
 it:∃ i,σ.s.heap.IsListIter aI ls i/\full.drop i=r
 bE:∃ vs m,σ.get aD=aa ⟨.type "list",au,.seq vs m,#[]⟩/\dF (er σ.g) vs.toList acc
 src:er σ.g (.ref ls) src
 nI:σ.Off aI
 nD:σ.Off aD
structure UK (k:Kx) (aI aD:ax):Prop where
 ne:aI≠aD
 I:k.Jv aI
 D:k.Jv aD
variable {aI aD ls:ax}{src:V}{full acc r:ah V}{L':b5}
theorem Kx.Jv.off {a:ax} (n:k.Jv a) (z:At k L σ) (w:At (k.at σ) L' τ){o:Obj} (e:σ.get a=aa o) (f:σ.Off a):τ.get a=aa o/\τ.Off a:=w.Qa z e f (fun m=>n.no _ (.inr (k.sub _ m)) rfl) fun m=>n.no _ (.inl m) rfl
theorem PC.step (x:PC k aI aD ls src full acc r L σ) (N:UK k aI aD) (w:At (k.at σ) L' τ) (l:σ.g.le τ.g):PC k aI aD ls src full acc r L' τ:=by
 obtain⟨i,⟨o,ho,hc,hd⟩,e⟩:=x.it
 obtain⟨vs,m,hD,hr⟩:=x.bE
 have h1:=N.I.off x.z w ho x.nI
 have h2:=N.D.off x.z w hD x.nD
 exact⟨x.z.back w,⟨i,⟨o,h1.1,hc,hd⟩,e⟩,⟨vs,m,h2.1,hr.bT fun _ _ w=>w.le l⟩,x.src.le l,h1.2,h2.2⟩
theorem PC.next (x:PC k aI aD ls src full acc r L σ) (N:UK k aI aD){h':bB}{i:Nat}{r':ah V} (hi:h'.IsListIter aI ls i) (hr:full.drop i=r') (hs:∀ b o,b≠aI->σ.get b=aa o->h'.get? b=aa o):PC k aI aD ls src full acc r' L (σ.up h' σ.s.toks):=by
 obtain⟨vs,m,hD,hq⟩:=x.bE
 exact⟨N.I.turn x.z x.nI hs,⟨i,hi,hr⟩,⟨vs,m,hs aD _ (l6 N.ne) hD,hq⟩,x.src,⟨x.nI.z,x.nI.h,x.nI.d⟩,⟨x.nD.z,x.nD.h,x.nD.d⟩⟩
theorem PC.push (x:PC k aI aD ls src full acc r L σ) (N:UK k aI aD){v:av}{y:V} (ey:er σ.g v y) (hl:acc.length<=line){P:av->Sx->Prop} (q:∀ τ,τ.H=σ.H->PC k aI aD ls src full (acc++[y]) r L τ->P .none τ):
  W k rz (PySem.call (.builtin "list.append") [.ref aD,v]) P X σ:=by
 obtain⟨vs,m,hD,hq⟩:=x.bE
 obtain⟨i,⟨o,ho,hc,hd⟩,e⟩:=x.it
 obtain⟨n2,e6⟩:=zZ (f:=fun xs=>xs.push v) hD
 have k1:∀ b,b≠aD->(σ.s.heap.update aD (Obj.mapSeq fun xs=>xs.push v)).get? b=σ.get b:=fun b nb=>Jf _ _ (l6 nb)
 exact W.any (call_meets Yk ⟨_,hD,rfl⟩ Yr (acI _ _) (T5 aD vs m v (by rw[fE hq];exact f9 hl)) ⟨hD,σ.g,σ.H,q _ rfl
  ⟨N.D.turn (tk:=σ.s.toks) x.z x.nD fun b o nb e=>(k1 b nb).trans e,⟨i,⟨o,(k1 aI N.ne).trans ho,hc,hd⟩,e⟩,⟨_,n2,e6,by rw[T4];exact hq.append (.cons ey .nil)⟩,x.src,⟨x.nI.z,x.nI.h,x.nI.d⟩,⟨x.nD.z,x.nD.h,x.nD.d⟩⟩⟩)
end
theorem b5.Hf {x:Nm}:∀ {xs:ah Nm}{vs:ah V}{L:b5},x∉xs->L.sets xs vs x=L x
 |[],_,_,_=>rfl
 |_::_,[],_,_=>rfl
 |y::ys,v::vs,L,h=>(b5.Hf (xs:=ys) fun q=>h (.tail _ q)).trans (bb fun(q:x=y)=>h (q▸.head _))
def b5.le (L L':b5):Prop:=∀ x v,L x=aa v->L' x=aa v
theorem Lb {tup:aj}{fL:ah Nm}{y:V}{L:b5}{P:b5->Prop} (h:qK tup fL y L P) (n:∀ x∈fL,L x=au):qK tup fL y L fun L1=>P L1/\L.le L1:=by
 cases tup with
 |true=>exact MN (P:=fun y=>qK ag fL y L fun L1=>P L1/\L.le L1) h fun vs h=>⟨h.1,h.2,fun z v e=>(b5.Hf fun q=>bP (n z q) e).trans e⟩
 |false=>match fL,h,n with
  |[x],h,n=>exact⟨h,fun z v e=>(bb fun q=>bP (n x (.head _)) (q▸e)).trans e⟩
def W' (C:CC) (elt:E) (tup:aj) (fL:ah Nm) (c:E) (L:b5) (v:V) (H:Hp) (k:aB V->Hp->Prop):Prop:=
 qK tup fL v L fun L1=>wE C c L1 H (fun x H3=>Got (cond c.yL (aa ag) (truth H3 x)) fun t=>cond t (wE C elt L1 H3 (fun y H4=>k (aa y) H4) VE) (k au H3)) VE
section
variable {k:Kx}{rz:aj}{L Lf:b5}{σ τ ρ:Sx}{X:fk}{aI aD ls:ax}{src:V}{full:ah V}{J:ah V->ah V->Hp->Prop}{Q':ah V->Hp->Prop}
theorem At.zB (z:At k L σ){a:ax}{x:V}{xs:ah V} (e:er σ.g (.ref a) x) (h:listOf σ.H x=aa xs):SeqAt σ a "list" xs:=by
 cases x with
 |bE=>(injection h with h;cases h);obtain⟨b,eb,hz⟩:=e;cases eb;exact z.rep.yC _ _ hz
 |ref b=>cases(show Value.ref a=.ref b from e);exact z.rep.bE h
 |_=>contradiction
theorem drop_cons {α:Type}{y:α}{r:ah α}:∀ {full:ah α}{i:Nat},full.drop i=y::r->full[i]? =aa y/\full.drop (i+1)=r
 |[],i,e=>by rw[BP] at e;contradiction
 |_::_,0,e=>by cases e;exact⟨rfl,rfl⟩
 |_::full,i+1,e=>drop_cons (full:=full) (i:=i) e
inductive CJ (k:Kx) (aI aD ls:ax) (src:V) (full:ah V) (J:ah V->ah V->Hp->Prop) (Lf:b5) (n:Nat) (σ:Sx):Prop
 |mk (acc r:ah V) (L:b5) (x:PC k aI aD ls src full acc r L σ) (hL:Lf.le L) (j:J r acc σ.H) (hl:acc.length+r.length<=full.length) (hn:n=r.length)
inductive aeT (k:Kx) (aD:ax) (Q':ah V->Hp->Prop) (σ:Sx):Prop
 |mk (acc:ah V) (L:b5) (z:At k L σ) (vs:bS av) (m:Nat) (hD:σ.get aD=aa ⟨.type "list",au,.seq vs m,#[]⟩) (hq:dF (er σ.g) vs.toList acc) (nD:σ.Off aD) (q:Q' acc σ.H)
theorem OU {elt c:E}{tup:aj}{fL:ah Nm}{x target iter:ay}{ifs:ah ay}{scope:bY}{pos:Pos} (Se:SE elt) (St:ST c) (N:UK k aI aD) (hm:Km tup fL target=ag) (hk:∀ x∈fL,k.wy x) (he:mE k.sc elt x=ag)
  (hi:cond c.yL (l0 ifs) (l1 ifs fun t=>mE k.sc c t)=ag) (nl:∀ x∈fL,Lf x=au) (hln:full.length<=line) (hd:∀ acc H,J [] acc H->gN H src=aa full/\Q' acc H)
  (hs:∀ v r acc H,J (v::r) acc H->gN H src=aa full/\W' k.C elt tup fL c Lf v H fun o H'=>J r (Wt acc o) H') (n:Nat) (σ:Sx) (h:CJ k aI aD ls src full J Lf n σ):
  W k rz (compTurn (.ListComp x [⟨target,iter,ifs,0⟩] scope pos) 0 (.ref aI) (.ref aD) k.env) (fun f τ=>NN (.compLoop (.ListComp x [⟨target,iter,ifs,0⟩] scope pos) 0 (.ref aI) (.ref aD) k.env) (CJ k aI aD ls src full J Lf) (aeT k aD Q') n τ f) Kk σ:=by
 obtain⟨acc,r,L',w,hL,j,hl,rfl⟩:=h
 obtain⟨i,hit,e⟩:=w.it
 rw[compTurn_list]
 refine W.cY ?_
 cases r with
 |nil=>
  obtain⟨q1,q2⟩:=hd _ _ j
  obtain⟨vs,hv,ra⟩:=(w.z.zB w.src q1).list
  refine W.leaf (X2 k.ca.hd hit hv (X8 (fE ra▸XX.mp e)) fun h' hs=>⟨σ.g,σ.H,W.pure (.done ?_)⟩)
  obtain⟨ws,m,hD,hq⟩:=w.bE
  exact .mk acc L' (N.I.turn (tk:=σ.s.toks) w.z w.nI hs) ws m (hs aD _ (l6 N.ne) hD) hq ⟨w.nD.z,w.nD.h,w.nD.d⟩ q2
 |cons y r=>
  obtain⟨q1,q2⟩:=hs _ _ _ _ j
  obtain⟨vs,hv,ra⟩:=(w.z.zB w.src q1).list
  obtain⟨e1,e2⟩:=drop_cons e
  obtain⟨v,e3,e4⟩:=ra.get e1
  refine W.leaf (X7 hit hv ((BH ..).symm.trans e3) fun h' Py hs=>⟨σ.g,σ.H,W.leaf (OG Py ⟨σ.g,σ.H,?_⟩)⟩)
  have w2:=w.next N Py e2 (fun b o nb e=>(hs.2 b nb).trans e)
  refine W.bind (W.back w2.z (P8 (k:=k.at (σ.up h' σ.s.toks)) (w2.z.aco hL).start hm hk e4 (Lb q2 nl))) fun _ τ o=>?_
  obtain⟨L1,h1,tk1,rfl,z1,q3,hL1⟩:=o
  have w3:=w2.step N z1 (.refl _)
  refine W.bind (P:=fun ok τ=>PC k aI aD ls src full acc r L1 τ/\cond ok (wE k.C elt L1 τ.H (fun y H4=>J r (Wt acc (aa y)) H4) VE) (J r acc τ.H)) ?_ fun ok τ o=>?_
  ·cases hc:c.yL with
   |true=>
    rw[hc] at hi
    obtain rfl:=UJ hc
    obtain rfl:=tw (P:=fun l=>l=[]) hi rfl
    obtain⟨t,e,q⟩:=q3
    cases e
    exact W.pure ⟨w3,q⟩
   |false=>
    rw[hc] at hi q3
    refine rA (P:=fun ifs=>W k rz (forIn ifs ag fun c r=>if r=ag then do let ok <- isTrue c k.env (eval c k.env);Pure.pure (ForInStep.yield ok) else Pure.pure (ForInStep.yield r)) _ _ _) hi fun t ht=>?_
    rw[Gr]
    refine W.bind (P:=fun s τ=>∃ ok,s=.yield ok/\PC k aI aD ls src full acc r L1 τ/\cond ok (wE k.C elt L1 τ.H (fun y H4=>J r (Wt acc (aa y)) H4) VE) (J r acc τ.H)) (W.eq (a8 rfl) (W.bind (W.back w3.z (St (k:=k.at _) (X:=Kk) w3.z.start ht q3 fun v H q=>q)) fun ok τ o=>?_)) fun s τ o=>?_
    ·obtain⟨l,z4,q4⟩:=o
     exact W.pure ⟨ok,rfl,w3.step N z4 l,q4⟩
    ·obtain⟨ok,rfl,o⟩:=o
     exact W.pure o
  ·obtain⟨w4,q4⟩:=o
   cases ok with
   |false=>exact W.eq (bb cj) (W.pure (.again r.length (nU _) (.mk acc r L1 w4 hL1 q4 (L9 hl) rfl)))
   |true=>
    refine W.eq (a8 rfl) (W.bind (P:=fun _ τ=>CJ k aI aD ls src full J Lf r.length τ) (W.bind (W.back w4.z (Se (k:=k.at _) (X:=Kk) w4.z.start he q4)) fun u τ o=>?_) fun _ τ o=>W.pure (.again r.length (nU _) o))
    obtain⟨y,ey,l,z5,q5⟩:=o
    refine W.bind ((w4.step N z5 l).push N ey (aK (aK (fu _ _) hl) hln) (P:=fun _ τ=>CJ k aI aD ls src full J Lf r.length τ) fun τ hH x=>.mk _ r L1 x hL1 (hH▸q5) ?_ rfl) fun _ τ o=>W.pure o
    exact(bN (as:=acc) (bs:=[y])).symm▸(iD acc.length 1 r.length).symm▸hl
end
theorem jL {sc:bY}{n:Str}{k:d8} (h:qm sc n k=ag):sc.names.lookup n=aa k:=eq_of_beq h
theorem Xh {a b:aj}{p q:Prop} (h:(a || b)=ag) (x:a=ag->p) (y:b=ag->q):p∨q:=(md.mp h).imp x y
structure InF (sc gx:bY) (fvs aa6:ah Nm):Prop where
 fv:∀ x∈fvs,(fP sc gx).names.lookup (dP x)=aa .free∨(fP sc gx).names.lookup (dP x)=aa .cell
 fL:∀ x∈aa6,(fP sc gx).names.lookup (dP x)=aa .local
 Kj:∀ p∈gx.names,p.2≠.cell
 free:∀ p∈gx.names,p.2=.free->sc.names.lookup p.1=aa .cell∨sc.names.lookup p.1=aa .free
 loc:∀ p∈gx.names,p.2=.local->(fP sc gx).names.lookup p.1=aa .local
 apart:∀ x∈fvs,x∉aa6
theorem inF {sc gx:bY}{fv fL:ah Nm} (h:Fp sc gx fv fL=ag):InF sc gx fv fL:=
 have h1:=l_.mp (aU (aU (aU h)))
 have h2:=l_.mp (bx (aU (aU h)))
 have h3:=l_.mp (bx (aU h))
 have h4:=l_.mp (bx h)
 {fv:=fun x hx=>Xh (h1 x hx) jL jL
  fL:=fun x hx=>jL (h2 x hx)
  Kj:=fun p hp=>l7.mp (aU (aU (h3 p hp)))
  free:=fun p hp q=>(md.mp (bx (aU (h3 p hp)))).elim (fun h=>(md.mp h).elim (fun e=>absurd q (l7.mp e)) fun e=>.inl (jL e)) fun e=>.inr (jL e)
  loc:=fun p hp q=>(md.mp (bx (h3 p hp))).elim (fun e=>absurd q (l7.mp e)) jL
  apart:=fun x hx m=>absurd (X4.mpr m) (uY (not_of (h4 x hx)))}
theorem InF.from {sc gx:bY}{fv fL:ah Nm} (F:InF sc gx fv fL){n:Str} (h:(fP sc gx).names.lookup n=aa .cell∨(fP sc gx).names.lookup n=aa .free):(n,NameKind.free)∈gx.names:=by
 have key:∀ κ,(fP sc gx).names.lookup n=aa κ->κ≠.local->(n,NameKind.free)∈gx.names∨(n,κ)∈gx.names:=fun κ e _=>by
  obtain⟨⟨m,k0⟩,hm,e⟩:=l9.mp (mem_of_lookup e)
  refine c7 e (fun c e=>?_) fun _ e=>?_
  ·cases e;exact .inl ((eq_of_beq (aU (aU c)):k0=.free)▸hm)
  ·cases e;exact .inr hm
 exact h.elim (fun e=>(key _ e nofun).elim id fun m=>absurd rfl (F.Kj _ m)) fun e=>(key _ e nofun).elim id id
theorem Dy {y:ay} (h:y.ctorIdx≠7) (env:Env) (x:av):foldedSetIterable y env x=pure x:=by
 cases y<;>first |rfl |exact absurd rfl h
noncomputable def AK (env:Env) (gx:bY) (aL:ax) (cs:ah (Str×ax)):Env:={newEnv gx aL env.globals cs env.qual au .none (aa env) builtinsNs with scope:=fP env.scope gx}
section
variable {k:Kx}{rz:aj}{L:b5}{σ τ ρ:Sx}{X:fk}{gx:bY}{fv fL:ah Nm}{cs:ah (Str×ax)}{aL:ax}
structure UI (k:Kx) (gx:bY) (fv fL:ah Nm) (cs:ah (Str×ax)) (aL:ax) (σ:Sx):Prop where
 F:InF k.sc gx fv fL
 kd:gx.kind=.function
 cl:GP k.env gx.names cs
 na:σ.get aL=au
 z:∃ L,At k L σ
theorem UI.mc (I:UI k gx fv fL cs aL σ){n:Str}{a:ax} (h:(n,a)∈cs):(n,a)∈k.env.cells:=mem_of_lookup (I.cl.c n a h)
theorem UI.ne (I:UI k gx fv fL cs aL σ):∀ n a,(n,a)∈cs->a≠aL:=fun n a h e=>I.z.elim fun L z=>z.zz I.na (e▸jK (I.mc h))
theorem UI.look (I:UI k gx fv fL cs aL σ){n:Str} (h:(n,NameKind.free)∈gx.names):∃ a,cs.lookup n=aa a:=by
 obtain⟨a,ham⟩:=I.cl.f _ h rfl
 cases e:cs.lookup n with
 |some b=>exact⟨b,rfl⟩
 |none=>exact absurd rfl (l7.mp ((List.lookup_eq_none_iff.mp e) _ ham))
noncomputable def Kx.inner (k:Kx) (I:UI k gx fv fL cs aL σ):Kx:=
 {k with
  env:=AK k.env gx aL cs
  own:=[aL]
  st:=σ
  sub:=fun a m=>eT.mp m▸.head _
  kind:=I.kd
  gl:=k.gl
  bl:=k.bl
  ob:=fun b m=>(dT.mp m).elim (fun e=>I.z.elim fun L z=>e▸z.rep.az I.na) fun m=>have⟨⟨n,a⟩,hm,e⟩:=l9.mp m;k.ob b (e▸jK (I.mc hm))
  apart:=fun n n' a h h'=>k.apart n n' a (I.mc h) (I.mc h')
  lc:=I.ne
  co:=fun n h=>I.look (I.F.from h)
  ef:=k.ef}
theorem At.inner (z:At k L σ) (I:UI k gx fv fL cs aL σ){h':bB}{tk:Nat} (grow:∀ b o,σ.get b=aa o->h'.get? b=aa o) (hn:h'.Ns aL fun _=>au):At (k.inner I) (L.only fv) (σ.up h' tk):=
 have w:At k L (σ.up h' tk):=z.grow grow
 have f:=z.rep.fresh I.na
 {rel:=.grow z.rep grow
  fm:=w.fm
  loc:=fun x v e=>c7 e (fun hx e=>by
   obtain⟨u,e1,e2⟩:=w.loc x v e
   have hfr:=(I.F.fv x hx).symm
   have hm:=I.F.from hfr
   obtain⟨a,ea⟩:=I.look hm
   cases e2 with
   |loc k1=>exact(I.F.free _ hm rfl).elim (fun e=>nomatch e.symm.trans k1) fun e=>nomatch e.symm.trans k1
   |cell _ c q hc=>exact⟨u,e1,.cell hfr a ea ((eS (q.symm.trans (I.cl.c _ _ (mem_of_lookup ea))):c=a)▸hc)⟩) fun _ e=>by contradiction
  own:=fun b hb=>(dT.mp hb).elim (fun e=>e▸⟨f.z,f.h,f.d⟩) fun m=>have⟨⟨n,a⟩,hm,e⟩:=l9.mp m;w.own b (e▸jK (I.mc hm))
  ns:=⟨_,hn⟩
  cl:=fun n a h=>w.cl n a (I.mc h)}
theorem At.outer {L':b5}{I:UI k gx fv fL cs aL σ} (z:At k L σ) (w:At (k.inner I) L' ρ):At k L ρ:=
 z.step {w.rel with keep:=fun b o e f _=>w.rel.keep b o e f fun m=>bP I.na ((eT.mp m:b=aL)▸e)}
theorem Kx.Jv.inner {a:ax} (I:UI k gx fv fL cs aL σ) (n:k.Jv a) (ne:a≠aL) (na:σ.get a=au):(k.inner I).Jv a where
 st o e:=bP na e
 az:=n.az
 no b m e:=m.elim (fun m=>n.no b (.inl m) e) fun m=>(dT.mp m).elim (fun q=>ne (e.symm.trans q)) fun m=>have⟨⟨n',a'⟩,hm,e'⟩:=l9.mp m;n.no b (.inr (e'▸jK (I.mc hm))) e
end
section
variable {k:Kx}{rz:aj}{L:b5}{σ τ ρ:Sx}{X:fk}{α:Type}{Q:α->Sx->Prop}{P:PV}{a:ax}{xs:ah V}
theorem W.U4 {c:Prop} [cN c] {pos:Pos}{f:PUnit->Sem α} (h:W k rz (f ()) Q X σ):W k rz (if c then(PySem.standAt pos>>=f) else f ()) Q X σ:=W.ite (fun _=>W.cY h) fun _=>h
theorem W.eqB {β:Type}{m:Sem β}{a:β}{f:β->Sem α} (e:m=Pure.pure a) (h:W k rz (f a) Q X σ):W k rz (m>>=f) Q X σ:=I.eq e h
theorem Kx.Jv.mkL (n:k.Jv a) (w:At k L τ) (nf:τ.Off a){vs:bS av}{m:Nat} (e:τ.get a=aa ⟨.type "list",au,.seq vs m,#[]⟩) (r:dF (er τ.g) vs.toList xs){fz:aj} (h:Mine.mk fz xs τ.H P):
  ∃ g H x,er g (.ref a) x/\τ.g.le g/\At k L ⟨τ.s,g,H⟩/\P x H/\∀ b,b≠a->τ.Off b->(⟨τ.s,g,H⟩:Sx).Off b:=by
 cases fz with
 |false=>exact⟨τ.g,_,.ref a,rfl,.refl _,n.adopt (o:=.bE xs) (h':=τ.s.heap) (tk:=τ.s.toks) w nf (fun _ _=>rfl) (.mk vs m e r),h.2 a nf.h,fun b ne f=>⟨f.z,(Hp.zY _ ne).trans f.h,f.d⟩⟩
 |true=>
  refine⟨τ.g.yF a (.bE xs),τ.H,.bE xs,RM,Gh.ll nf.z,?_,h.2,fun b ne f=>⟨(Gh.sV ne).trans f.z,f.h,f.d⟩⟩
  have:=w.move (Rel.JS (s':=τ.s) (x:=.bE xs) w.rel n.st nf.z nf.d (fun _ _ h=>h) (.mk vs m e (r.bT fun _ _ e=>e.le (Gh.ll nf.z))) rfl rfl rfl) (Gh.ll nf.z) fun b m f o e=>⟨⟨o.slots,e⟩,(Gh.sV (n.no b m)).trans f.z,(Hp.zH (n.no b m)).trans f.h,f.d⟩
  rwa [uC nf.h] at this
structure LG (k:Kx) (ρ:Sx) (rS:Env) (vars:ah (Str×d8)):Prop where
 kind:rS.scope.kind=.function
 nm:∀ p∈vars,p.2=.local->rS.kindOf p.1=aa .local
 ns:∃ m,ρ.s.heap.Ns rS.locals m
 new:k.Jv rS.locals
 off:ρ.Off rS.locals
theorem LG.go {rS:Env}{vars vs:ah (Str×d8)}{cellsOf:ah (Str×d8)->ah av} (G:LG k ρ rS vars) (z:At k L ρ) (hv:∀ p∈vs,p∈vars){Q:cR->Sx->Prop} (q:∀ h',At k L (ρ.up h' ρ.s.toks)->Q () (ρ.up h' ρ.s.toks)):W k rz (comprehension.letGo rS cellsOf vs) Q X ρ:=by
 obtain⟨m,hn⟩:=G.ns
 exact W.any (wpAny_comp_letGo G.kind vs ρ.s m (fun p hp=>G.nm p (hv p hp)) hn fun h' m' _ hs=>⟨ρ.g,ρ.H,q h' (G.new.turn z G.off fun b o nb e=>(hs.2 b nb).trans e)⟩)
noncomputable def RY (use:aB (av->Sem cR)) (acc:av) (rS:Env) (cellsOf:ah (Str×d8)->ah av) (vars:ah (Str×d8)):Sem av:=match use with
 |none=>do holding [acc] (comprehension.letGo rS cellsOf vars.reverse);pure acc
 |some u=>do
  rule "comprehension.stores-exchanged"
  holding (cellsOf vars) (u acc)
  comprehension.letGo rS cellsOf (vars.reverse.drop 1++vars.reverse.take 1)
  pure .none
structure Yu (h h':bB) (ls aI aD aL:ax):Prop where
 nI:h.get? aI=au
 nD:h.get? aD=au
 nL:h.get? aL=au
 ID:aI≠aD
 IL:aI≠aL
 DL:aD≠aL
 gI:h'.get? aI=aa {cls:=.type "list_iterator",data:=.fields #[.ref ls,.int 0 0]}
 gD:h'.get? aD=aa {cls:=.type "list",data:=.seq #[]}
 gr:∀ b o,h.get? b=aa o->h'.get? b=aa o
theorem three {h h1 h2 h':bB}{ls:ax}{o1 o2 o:Obj} (e1:h.push o1=h1) (e2:h1.push o2=h2) (c1:o1={cls:=.type "list_iterator",data:=.fields #[.ref ls,.int 0 0]}) (c2:o2={cls:=.type "list",data:=.seq #[]})
  (hs:Heap.SameBut h2.objs.size (h2.push o) h'):Yu h h' ls h.objs.size h1.objs.size h2.objs.size:=
 have nd:=di h1
 have nl:=di h2
 have gi:h1.get? h.objs.size=aa o1:=e1▸jg h (c1▸rfl)
 have gd:h2.get? h1.objs.size=aa o2:=e2▸jg h1 (c2▸rfl)
 have g2:∀ b x,h1.get? b=aa x->h2.get? b=aa x:=fun b x e=>e2▸jN _ e
 have g3:∀ b x,h2.get? b=aa x->h'.get? b=aa x:=fun b x e=>(hs.2 b fun q=>bP nl (q▸e)).trans (jN _ e)
 have ge:∀ b x,h.get? b=aa x->h1.get? b=aa x:=fun b x e=>e1▸jN _ e
 {nI:=di h
  nD:=lj fun x e=>bP nd (ge _ _ e)
  nL:=lj fun x e=>bP nl (g2 _ _ (ge _ _ e))
  ID:=fun e=>bP nd (e▸gi)
  IL:=fun e=>bP nl (e▸g2 _ _ gi)
  DL:=fun e=>bP nl (e▸gd)
  gI:=c1▸g3 _ _ (g2 _ _ gi)
  gD:=c2▸g3 _ _ gd
  gr:=fun b x e=>g3 _ _ (g2 _ _ (ge _ _ e))}
theorem W.attempt {β:Type}{m:Sem β}{f:Except av β->Sem α}{P:β->Sx->Prop} (h:W k rz m P Kk σ) (K:∀ b τ,P b τ->W k rz (f (.ok b)) Q X τ):W k rz (m.attempt>>=f) Q X σ:=
 W.bind (P:=fun r τ=>∃ b,r=.ok b/\P b τ) (I.attempt (I.bT h (fun b _ ⟨g,H,q⟩=>⟨g,H,b,rfl,q⟩) fun _ _=>Jw.none)) fun r τ ⟨b,e,q⟩=>e▸K b τ q
theorem RX {fz tup:aj}{elt c:E}{fL fv:ah Nm} (Se:SE elt) (St:ST c){x target iter:ay}{ifs:ah ay}{gx:bY}{pos:Pos}{aI aD aL ls:ax}{h':bB}{tk:Nat}{cs:ah (Str×ax)}{src:V}{full:ah V}
  (z:At k L τ) (T:Yu τ.s.heap h' ls aI aD aL) (hn:h'.Ns aL fun _=>au) (F:InF k.sc gx fv fL) (kd:gx.kind=.function) (C:GP k.env gx.names cs) (hm:Km tup fL target=ag) (he:mE (fP k.sc gx) elt x=ag)
  (hi:cond c.yL (l0 ifs) (l1 ifs fun t=>mE (fP k.sc gx) c t)=ag) (ev:er τ.g (.ref ls) src) (q2:full.length<=line) (h:Uu src full (W' k.C elt tup fL c (L.only fv)) (fun ys H2=>mk fz ys H2 P) τ.H) (q1:gN τ.H src=aa full){vars:ah (Str×d8)} (hv:∀ p∈vars,p∈gx.names):
  W k rz (run (.compStart (.ListComp x [⟨target,iter,ifs,0⟩] gx pos) 0 (.ref aI) (.ref aD) (AK k.env gx aL cs))) (fun _ ρ=>∃ g H y,er g (.ref aD) y/\τ.g.le g/\At k L ⟨ρ.s,g,H⟩/\P y H/\LG k ⟨ρ.s,g,H⟩ (AK k.env gx aL cs) vars) Kk (τ.up h' tk):=by
 obtain⟨J,j0,jd,js⟩:=h
 have J1:UI k gx fv fL cs aL τ:=⟨F,kd,C,T.nL,L,z⟩
 have w:At (k.inner J1) (L.only fv) (τ.up h' tk):=z.inner J1 T.gr hn
 have N:UK (k.inner J1) aI aD:=⟨T.ID,(z.new T.nI).inner J1 T.IL T.nI,(z.new T.nD).inner J1 T.DL T.nD⟩
 have fI:=z.rep.fresh T.nI
 have fD:=z.rep.fresh T.nD
 have J0:CJ (k.inner J1) aI aD ls src full J (L.only fv) full.length (τ.up h' tk):=.mk [] full _ ⟨w,⟨0,⟨_,T.gI,rfl,rfl⟩,rfl⟩,⟨#[],_,T.gD,.nil⟩,ev,⟨fI.z,fI.h,fI.d⟩,⟨fD.z,fD.h,fD.d⟩⟩ (fun _ _ e=>e) j0 (gX (jF _)) rfl
 refine I.run (by intro x;cases x) (I.pN (KL (prog:=k.c.prog) (w:=k.c.w) (OV (k:=k.inner J1) (rz:=false) _ _ (OU Se St N hm (fun x hx=>.loc (F.fL x hx) (.head _)) he hi (fun x hx=>bb fun m=>F.apart x m hx) q2 jd js) full.length J0) fun P q=>wpAny_pyIter_listiter ⟨_,T.gI,rfl,rfl⟩ q) fun r s' hr=>?_)
 obtain⟨rfl,g,H,acc,L',w,vs,m,hD,hq,nD,q⟩:=hr
 obtain⟨g',H',y,ey,l,z',q',off⟩:=(z.new T.nD).mkL (z.outer w) nD hD hq q
 exact⟨g,H,g',H',y,ey,w.rel.le.trans l,z',q',⟨kd,fun p hp e=>F.loc p (hv p hp) e,w.ns,z.new T.nL,off _ (l6 T.DL) (w.own _ (.head _))⟩⟩
theorem DG {fz tup:aj}{elt it c:E}{fL fv:ah Nm} (Se:SE elt) (Si:SE it) (St:ST c){x:ay}{g:PySem.Comprehension}{gx:bY}{pos:Pos} {use:aB (av->Sem cR)}{Q:av->Sx->Prop} (z:At k L σ)
  (hm:(g.is_async==0&&g.iter.ctorIdx != 7&&mE k.sc it g.iter&&Km tup fL g.target&&mE (fP k.sc gx) elt x&&gx.kind==.function&&Fp k.sc gx fv fL&&cond c.yL (l0 g.ifs) (l1 g.ifs fun t=>mE (fP k.sc gx) c t))=ag)
  (h:wE k.C (.comp fz elt tup fL it c fv) L σ.H P (lZ X L))
  (fin:∀ ρ y a rS cellsOf vars,σ.g.le ρ.g->er ρ.g (.ref a) y->At k L ρ->P y ρ.H->LG k ρ rS vars->W k rz (RY use (.ref a) rS cellsOf vars) Q X ρ):
  W k rz (comprehension (.ListComp x [g] gx pos) gx k.env (firstIterPos [g] pos) (newList []) (firstAsync [g]) (firstIter [g] k.env) use) Q X σ:=by
 have hi:=bx hm
 have F:=inF (bx (aU hm))
 have kd:gx.kind=.function:=eq_of_beq (bx (aU (aU hm)))
 have he:=bx (aU (aU (aU hm)))
 have ht:=bx (ir hm)
 have h1:=bx (ir (aU hm))
 have h7:=l7.mp (bx (ir (aU (aU hm))))
 obtain⟨target,iter,ifs,as⟩:=g
 obtain rfl:as=0:=eq_of_beq (ir (aU (aU (aU hm))))
 unfold comprehension
 refine Si.step z h1 h fun v τ src ev l z q=>W.cY ?_
 obtain⟨full,q1,q2,J,j0,jd,js⟩:=q
 obtain⟨ls,rfl,sq⟩:∃ ls,v=.ref ls/\SeqAt τ ls "list" full:=z.gL (p:=fun xs=>xs=full) ev ⟨full,q1,rfl⟩ fun a xs s e=>⟨a,rfl,e▸s⟩
 obtain⟨vs,hl,ra⟩:=sq.list
 refine W.eqB (m:=foldedSetIterable iter k.env (.ref ls)) (Dy h7 _ _) (W.leaf (Gk (L_ hl ⟨τ.g,τ.H,W.U4 (W.leaf (Tj ⟨τ.g,τ.H,?_⟩ (by decide+kernel)))⟩)))
 refine W.leaf (KO (fun p hp hf=>k.co _ (F.free p hp hf)) fun cs C=>⟨τ.g,τ.H,?_⟩)
 refine W.leaf (wpAny_newFunctionEnv F.Kj (fun _ hx=>by contradiction) (fun h' hn hs=>⟨τ.g,τ.H,?_⟩) kd)
 show W k rz (holding [.ref _] _) Q X _
 have hf:∀ p∈gx.names.filter fun p=>(p.2==.local || p.2==.cell)&&p.1 != (".0":Str),p∈gx.names:=fun p m=>(nT.mp m).1
 refine W.holding (W.attempt (W.holding (RX (fz:=fz) (vars:=gx.names.filter fun p=>(p.2==.local || p.2==.cell)&&p.1 != (".0":Str)) Se St z (three rfl rfl rfl rfl hs) hn F kd C ht he hi ev q2 ⟨J,j0,jd,js⟩ q1 hf)) fun f ρ o=>?_)
 obtain⟨g,H,y,ey,l',z',q',G⟩:=o
 cases use with
 |none=>exact fin ⟨ρ.s,g,H⟩ y _ _ _ _ (l.trans l') ey z' q' G
 |some u=>exact fin ⟨ρ.s,g,H⟩ y _ _ _ _ (l.trans l') ey z' q' G
theorem WQ {fz tup:aj}{elt it c:E}{fL fv:ah Nm} (Se:SE elt) (Si:SE it) (St:ST c):SE (.comp fz elt tup fL it c fv):=fun{k rz L σ x P X} z hm h=>qh hm fun x gs gx p hh=>rA hh fun g hg=>by
 rw[arm_eval_ListComp]
 refine DG Se Si St z hg h fun ρ y a rS cellsOf vars l ey w q G=>?_
 refine W.bind (P:=fun _ τ=>Ok k L σ P (.ref a) τ) (W.holding (G.go w (fun p m=>TL.mp m) fun h' w=>.mk y ey l w q)) fun _ τ o=>W.pure o
inductive Oky (k:Kx) (σ:Sx) (P:PV) (kk:V->b5->Prop) (τ:Sx):Prop
 |mk (L:b5) (y:V) (l:σ.g.le τ.g) (z:At k L τ) (q:P y τ.H) (q':kk y L)
theorem RW {fz tup:aj}{elt it c:E}{fL fv:ah Nm} (Se:SE elt) (Si:SE it) (St:ST c){x:ay}{g:PySem.Comprehension}{gx:bY}{pos:Pos}{u:av->Sem cR}{kk:V->b5->Prop} (z:At k L σ)
  (hm:(g.is_async==0&&g.iter.ctorIdx != 7&&mE k.sc it g.iter&&Km tup fL g.target&&mE (fP k.sc gx) elt x&&gx.kind==.function&&Fp k.sc gx fv fL&&cond c.yL (l0 g.ifs) (l1 g.ifs fun t=>mE (fP k.sc gx) c t))=ag)
  (h:wE k.C (.comp fz elt tup fL it c fv) L σ.H P (lZ X L)) (hu:∀ ρ v y,er ρ.g v y->At k L ρ->W (k.at ρ) rz (u v) (GO (k.at ρ) ρ (kk y)) X ρ):
  W k rz (comprehension (.ListComp x [g] gx pos) gx k.env (firstIterPos [g] pos) (newList []) (firstAsync [g]) (firstIter [g] k.env) (aa u)) (fun _=>Oky k σ P kk) X σ:=by
 refine DG Se Si St z hm h fun ρ y a rS cellsOf vars l ey w q G=>?_
 refine W.leaf (sx ⟨ρ.g,ρ.H,W.bind (W.holding (W.back w (hu ρ _ y ey w))) fun _ τ o=>?_⟩)
 obtain⟨L2,h2,tk,rfl,z2,q2⟩:=o
 obtain⟨m,hn⟩:=G.ns
 obtain⟨o,es,ep,ho,hd⟩:=hn
 have st:=G.new.off w z2 ho G.off
 have G2:LG k (ρ.up h2 tk) rS vars:=⟨G.kind,G.nm,⟨m,o,es,ep,st.1,hd⟩,G.new,st.2⟩
 exact W.bind (P:=fun _ τ=>Oky k σ P kk τ) (G2.go (w.back z2) (fun p m=>TL.mp ((iS.mp m).elim Ja yt)) fun h' w=>.mk L2 y l w q q2) fun _ τ o=>W.pure o
end
def IsT (x:ay):Prop:=∀ (env:Env) (w:Sem av),isTrue x env w=(do let v <- w;standAt x.pos;holding [v] (truthy v))
structure EW (e:E):Prop where
 se:SE e
 st:ST e
 sp:e.part=ag->SP e
structure EsW (es:Es):Prop where
 YI:Ml es
 sb:SB es
 sbt:SBt es
 abd:WV es
 sj:es.parts=ag->SJ es
theorem B8 {e:E} (S:SE e) (t:∀ {sc x},mE sc e x=ag->IsT x):ST e:=fun z hm h hR=>Qb S z hm h hR (t hm _ _)
theorem EW.plain {e:E} (S:SE e) (hq:e.part=ao) (t:∀ {sc x},mE sc e x=ag->IsT x):EW e:=⟨S,B8 S t,fun h=>absurd h (uY hq)⟩
theorem T.c {x:ay}{f:d9->aj} (h:gh x f=ag):IsT x:=eQ (P:=IsT) h fun _ _ _ _ _ _=>rfl
theorem T.n {x:ay}{s:Str} (h:nu s x=ag):IsT x:=gP (P:=IsT) h fun _ _ _=>rfl
theorem T.s {x:ay}{f:ay->ay->aj} (h:iP x f=ag):IsT x:=jm (P:=IsT) h fun _ _ _ _ _ _=>rfl
theorem T.l {x:ay}{n:Str}{g:ah ay->aj} (h:s8 n x g=ag):IsT x:=mP (P:=IsT) h fun _ _ _ _ _ _=>rfl
theorem EW.all:∀ e:E,EW e:=by
 refine E.rec (motive_1:=EW) (motive_2:=EsW) ?_ ?_ ?_ ?_ ?_ ?_ ?_ ?_ ?_ ?_ ?_ ?_ ?_ ?_ ?_ ?_ ?_ ?_ ?_ ?_ ?_ ?_ ?_ ?_ ?_ ?_ ?_ ?_ ?_ ?_ ?_
 ·exact .plain WH rfl T.c
 ·exact fun _=>.plain WS rfl T.c
 ·exact fun _=>.plain aax rfl T.c
 ·exact⟨GK,B8 GK T.c,fun _=>WE⟩
 ·exact fun _=>.plain UC rfl T.c
 ·exact fun _=>.plain aar rfl T.n
 ·exact fun _=>.plain WM rfl fun h=>T.n (aU h)
 ·exact fun _ _ _ a b=>.plain (aaA a.se b.se) rfl fun h=>Dp (P:=IsT) h fun _ _ _ _ _ _ _=>rfl
 ·exact fun _ a=>.plain (aau a.se) rfl fun h=>oC (P:=IsT) h fun o _ _ hh _ _=>(eq_of_beq (aU hh):o=.USub)▸rfl
 ·exact fun _ a=>⟨aas a.se,aai a.st,nofun⟩
 ·exact fun _ _ s=>⟨Pn s.sb,Pj s.sbt,nofun⟩
 ·exact fun _ _ _ d a b=>⟨aaw d.st a.se b.se,aaj d.st a.st b.st,nofun⟩
 ·exact fun _ _ _ a b=>⟨aaz a.se b.se,aak a.se b.se,nofun⟩
 ·exact fun _ _ _ _ _ a b d=>⟨WR a.se b.se d.se,Wy a.se b.se d.se,nofun⟩
 ·exact fun _ _ a=>.plain (WT a.se) rfl fun h=>lb (P:=IsT) h fun _ _ _ _ _ _=>rfl
 ·exact fun _ _ a=>.plain (aav a.se) rfl T.s
 ·exact fun _ _ a b=>.plain (aay a.se b.se) rfl T.s
 ·exact fun _ _ _ _ a b d=>.plain (Uz a.se b.se d.se) rfl T.s
 ·exact fun _ _ s=>.plain (WL s.YI) rfl fun h=>HF (P:=IsT) h fun _ _ _ _ _=>rfl
 ·exact fun _ s=>.plain (Uy s.YI) rfl fun h=>pD (P:=IsT) h fun _ _ _ _ _ _=>rfl
 ·exact fun _ _ s=>.plain (WO s.abd) rfl fun h=>HH (P:=IsT) h fun _ _ _ _ _ _=>rfl
 ·exact fun _ _ s=>.plain (UA s.YI) rfl T.l
 ·exact fun _ _ _ s=>.plain (aat s.YI) rfl T.l
 ·exact fun _ _ _ a s=>.plain (WK a.se s.YI) rfl fun h=>rm (P:=IsT) h fun _ _ _ _ _ _ _=>rfl
 ·exact fun _ _ s=>.plain (UB s.YI) rfl T.l
 ·exact fun _ _ _ _ _ _ _ a b d=>.plain (WQ a.se b.se d.st) rfl fun h=>qh (P:=IsT) h fun _ _ _ _ _ _ _=>rfl
 ·exact fun _ s=>.plain (WN s.sj) rfl fun h=>tN (P:=IsT) h fun _ _ _ _ _=>rfl
 ·exact fun _ a=>⟨Jh (Mk a.se),B8 (Jh (Mk a.se)) fun h=>nq (P:=IsT) h fun _ _ _ _ _ _ _=>rfl,fun _=>Mk a.se⟩
 ·exact .plain (fun _ _ h=>h.elim) rfl fun h=>rm (P:=IsT) h fun _ _ _ _ _ _ _=>rfl
 ·exact⟨zK,fun _ _ h=>h.elim,fun _ _ h=>h.elim,trivial,fun _=>aaq⟩
 ·exact fun _ _ a s=>⟨sJ a.se s.YI,WU a.se s.sb,UD a.st s.sbt,⟨a.se,s.abd⟩,fun h=>WG (a.sp (aU h)) (s.sj (bx h))⟩
@[elab_as_elim] theorem HC {n:Str}{f:ay->aj}{P:ay->Prop}{x:ay} (h:J5 n x f=ag) (K:∀ o j q p,f o=ag->P (.Subscript o (.Constant (.str n) j q) p)):P x:=
 jm (P:=P) h fun o i p h=>eQ (P:=fun i=>P (.Subscript o i p)) (aU h) fun c j q hc=>vE (P:=fun c=>P (.Subscript o (.Constant c j q) p)) hc fun s hs=>(eq_of_beq hs:s=n)▸K o j q p (bx h)
@[elab_as_elim] theorem Dq {n:Str}{f:ay->aj}{P:ay->Prop}{x:ay} (h:ES n x f=ag) (K:∀ o p,f o=ag->P (.Attribute o n p)):P x:=
 lb (P:=P) h fun o a p h=>(eq_of_beq (aU h):a=n)▸K o p (bx h)
@[elab_as_elim] theorem vF {f:ay->ay->aj}{P:aY->Prop}{y:aY} (h:Dr y f=ag) (K:∀ t v p,f t v=ag->P (.Assign [t] v p)):P y:=
 HE (P:=P) h fun ts v p h=>rA (P:=fun ts=>P (.Assign ts v p)) h fun t ht=>K t v p ht
@[elab_as_elim] theorem HG {f:ay->ah aY->aj}{P:PySem.ExceptHandler->Prop}{x:PySem.ExceptHandler} (h:Dn x f=ag) (K:∀ t b p,f t b=ag->P (.ExceptHandler (aa t) au b p)):P x:=match x,h with
 |.ExceptHandler ty nm b p,h=>QU (P:=fun nm=>P (.ExceptHandler ty nm b p)) (aU h) (uw (P:=fun ty=>P (.ExceptHandler ty au b p)) (bx h) fun t ht=>K t b p ht)
@[elab_as_elim] theorem ad5 {α:Type}{P:ah α->Prop}{l:ah α}{f:α->aj}{g:ah α->aj} (h:lc l f g=ag) (K:∀ x r,f x=ag->g r=ag->P (x::r)):P l:=match l,h with
 |[],h=>by contradiction
 |x::r,h=>K x r (aU h) (bx h)
structure aaD (env:Env) (own:ah ax) (fr:ah Env):Prop where
 top:∃ l,fr=env::l
 own:own=ownOf env
abbrev Kx.Full (k:Kx):Prop:=aaD k.env k.own k.fr
inductive mh (k:Kx) (Q:PO) (τ:Sx):iR->Prop
 |next (L:b5) (z:At k L τ) (q:Q .next L τ.H):mh k Q τ .next
 |brk (L:b5) (z:At k L τ) (q:Q .brk L τ.H):mh k Q τ .brk
 |cont (L:b5) (z:At k L τ) (q:Q .cont L τ.H):mh k Q τ .cont
 |ret (L:b5) (v:av) (x:V) (e:er τ.g v x) (z:At k L τ) (q:Q (.ret x) L τ.H):mh k Q τ (.ret v)
def SS (st:S):Prop:=∀ {k:Kx}{rz:aj}{L:b5}{σ:Sx}{Q:PO}{X:fk}{y:aY},k.Full->At k L σ->mS k.sc st y=ag->wS k.C rz st L σ.H Q X->W k rz (exec y k.env) (fun f τ=>mh k Q τ f) X σ
def Ju (st:Ss):Prop:=∀ {k:Kx}{rz:aj}{L:b5}{σ:Sx}{Q:PO}{X:fk}{y:ah aY},k.Full->At k L σ->OB k.sc st y=ag->wSs k.C rz st L σ.H Q X->W k rz (execs y k.env) (fun f τ=>mh k Q τ f) X σ
theorem oU {v:ay} (h:zy v=ag) (t:aB ay) (l:Nat) (env:Env):swapsWith v t l env=pure ao:=by
 cases v<;>first |rfl |contradiction
theorem RE {g:Gh}{x:V}{a:ax} (h:flat x=ag) (e:er g (.ref a) x):False:=by
 cases x with
 |none=>contradiction
 |bool=>contradiction
 |int=>obtain⟨_,e⟩:=e;contradiction
 |str=>obtain⟨_,e⟩:=e;contradiction
 |bytes=>obtain⟨_,e⟩:=e;contradiction
 |_=>contradiction
theorem RP (v:ay) (p:Pos):dropValue v p=dropValue (.JoinedStr [] p) p∨dropValue v p=fun _=>pure .next:=by
 cases v<;>first |exact .inr rfl |(refine .inl ?_;kernel_rfl)
theorem OS {g:Gh}{x:V}{u:av} (h:flat x=ag) (e:er g u x) (v:ay) (p:Pos):dropValue v p u=pure .next:=by
 refine(RP v p).elim (fun q=>?_) fun q=>congrFun q u
 rw[q]
 cases u with
 |ref=>exact(RE h e).elim
 |_=>rfl
theorem WB:SS .pass:=fun{k rz L σ Q X y} F z hm h=>Ou hm fun p _=>W.cY (W.pure (.next L z h))
theorem aao:SS .brk:=fun{k rz L σ Q X y} F z hm h=>Ka hm fun p _=>W.cY (W.pure (.brk L z h))
theorem WA:SS .yH:=fun{k rz L σ Q X y} F z hm h=>rk hm fun o p ho=>QU ho (W.cY (W.pure (.ret L .none .none rfl z h)))
theorem aam {e:E}:SS (.ret e):=fun{k rz L σ Q X y} F z hm h=>rk hm fun o p ho=>uw ho fun v hv=>
 W.cY (SE.step (EW.all e).se (f:=fun x=>pure (Flow.ret x)) z hv h fun u τ x e l z q=>W.pure (.ret L u x e z q))
theorem WD {e:E}:SS (.expr e):=fun{k rz L σ Q X y} F z hm h=>Ov hm fun v p hh=>by
 rw[arm_exec_Expr]
 refine W.cY ?_
 have hi:interactive k.env=ao:=by unfold interactive;rw[k.kind];rfl
 rw[hi]
 refine W.eq (bb cj) ?_
 rw[oU (bx hh)]
 refine W.eqB rfl (W.eq (bb cj) (SE.step (EW.all e).se z (aU hh) h fun u τ x e l z q=>?_))
 rw[OS q.1 e]
 exact W.pure (.next L z q.2)
theorem W.ifb {k:Kx}{rz:aj}{σ:Sx}{X:fk}{α:Type}{Q:α->Sx->Prop}{t:aj}{a b:Sem α} (h:cond t (W k rz a Q X σ) (W k rz b Q X σ)):W k rz (if t=ag then a else b) Q X σ:=match t,h with
 |true,h=>W.eq (a8 rfl) h
 |false,h=>W.eq (bb cj) h
theorem ac1 {d:E}{a b:Ss} (S:Ju a) (T:Ju b):SS (.dp d a b):=fun{k rz L σ Q X y} F z hm h=>Vw hm fun t u v p hh=>by
 rw[arm_exec_If]
 refine W.cY (W.qr ((EW.all d).st (P:=fun t H1=>cond t (wSs k.C rz a L H1 Q X) (wSs k.C rz b L H1 Q X)) z (aU (aU hh)) h fun v H q=>q) fun t τ l z q=>W.ifb ?_)
 cases t with
 |true=>exact S F z (bx (aU hh)) q
 |false=>exact T F z (bx hh) q
theorem ZN {c a b:aj} (hf:c=ao) (h:cond c a b=ag):b=ag:=by subst hf;exact h
theorem Wz:Ju .nil:=fun{k rz L σ Q X y} F z hm h=>tw (P:=fun y=>W k rz (execs y k.env) (fun f τ=>mh k Q τ f) X σ) hm (W.pure (.next L z h))
theorem Uv {st:S}{r:Ss} (hf:st.VQ=ao) (S:SS st) (T:Ju r):Ju (.cons st r):=fun{k rz L σ Q X y} F z hm h=>by
 refine ad5 (P:=fun y=>W k rz (execs y k.env) (fun f τ=>mh k Q τ f) X σ) (ZN (c:=st.VQ) hf hm) fun y ys h1 h2=>?_
 rw[PySem.execs_cons]
 refine W.bind (S F z h1 h) fun f τ o=>?_
 cases o with
 |next L z q=>exact T F z h2 q
 |brk L z q=>exact W.pure (.brk L z q)
 |cont L z q=>exact W.pure (.cont L z q)
 |ret L v x e z q=>exact W.pure (.ret L v x e z q)
theorem Mg {x:Nm}{r:Ss} (T:Ju r):Ju (.cons (.freeze x) r):=fun{k rz L σ Q X y} F z hm h=>by
 obtain⟨a,xs,e1,e2,q⟩:=h
 have zn:σ.g.Z a=au:=lj fun x hx=>bP (z.rep.zm a x hx) e2
 have w:At k L ⟨σ.s,σ.g.yF a (.bE xs),σ.H.drop a⟩:=z.move (Rel.JS z.rel (fun o e f=>bP (z.rel.off a o e f).h e2) zn (fun b q=>bP (z.rep.dz a b q).2 e2) (fun _ _ h=>h) (SeqAt.bT (z.rep.yJ a _ e2) ⟨Gh.ll zn,fun _ h=>h,fun _ _ _ h=>h⟩) rfl rfl rfl) (Gh.ll zn)
  fun b m f o e=>have ne:b≠a:=fun q=>bP f.h (q▸e2);⟨⟨o.slots,e⟩,(Gh.sV ne).trans f.z,(Hp.zH ne).trans f.h,f.d⟩
 refine T F (k:=k) (σ:=⟨σ.s,σ.g.yF a (.bE xs),σ.H.drop a⟩) {w with loc:=fun y v e=>c7 e (fun yx e=>?_) fun _ e=>w.loc y v e} hm q
 cases e
 obtain⟨u,q1,q2⟩:=z.loc x _ e1
 cases(show u=.ref a from q1)
 exact⟨.ref a,.mk a rfl (a8 rfl),yx▸q2⟩
section
variable {k:Kx}{rz:aj}{L:b5}{σ τ ρ:Sx}{X:fk}{Q:PO}{e v:E}{f x:Nm}{op:Bo}
theorem At.Ls (z:At k L σ){x y:V}{v u:av}{R:PV} (ex:er σ.g v x) (ey:er σ.g u y) (h:Bz op x y fun z=>R z σ.H):W k rz (inplaceOp op.op v u) (Ok k L σ R) X σ:=by
 cases op with
 |add=>exact g2 ex ey h fun i t j u q=>W.any (PySem.P.iadd_int (z.HL rfl q))
 |sub=>exact g2 ex ey h fun i t j u q=>W.any (PySem.P.isub_int (z.HL rfl q))
 |bor=>exact g2 ex ey h fun i t j u ⟨h1,h2,q⟩=>W.any (aac (z.HL (v9 h1 h2) q))
 |shr=>exact g2 ex ey h fun i t j u ⟨h0,h1,h2,q⟩=>W.any (acT h1 (z.HL (zX h0) q))
 |_=>exact h.elim
theorem vL {t v:ay}{p:Pos} (hs:swapsWith v (aa t) p.line k.env=pure ao) (hw:swappedStores [t] v k.env=pure au) (he:(assignEach [t] k.env).map (·.2)=[assign t k.env]){R:iR->Sx->Prop}
  (h:W k rz (eval v k.env>>=fun u=>assign t k.env u>>=fun _=>pure Flow.next) R X σ):W k rz (exec (.Assign [t] v p) k.env) R X σ:=by
 rw[TF]
 refine W.cY (W.eqB (m:=swapsWithSole [t] v p.line k.env) hs (W.eq (bb cj) ?_))
 rw[hw,he]
 exact h
theorem JJ {v o:ay}{a:Str}{p:Pos}{l:Nat}{env:Env}:swapsWith v (aa (.Attribute o a p)) l env=pure ao:=by cases v<;>rfl
theorem Od {v o i:ay}{p:Pos}{l:Nat}{env:Env}:swapsWith v (aa (.Subscript o i p)) l env=pure ao:=by cases v<;>rfl
theorem W.done {m:Sem cR} (h:W k rz m (Oku k L σ fun H=>Q .next L H) X σ):W k rz (m>>=fun _=>Pure.pure Flow.next) (fun f τ=>mh k Q τ f) X σ:=W.v_ h fun τ _ z q=>W.pure (.next L z q)
theorem Mh:SS (.setAttr e f v):=fun{k rz L σ Q X y} F z hm h=>vF hm fun t w p ht=>Dq ht fun o q hh=>vL JJ rfl rfl (SE.step (EW.all v).se z (bx hh) h fun u τ yv eu l z q=>
 W.done (W.eq (arm_assign_Attribute ..) (SE.pA (EW.all e).se z (aU hh) q fun ov τ x ex l z q=>W.cY (W.v_ (W.holding (W.any (z.Mw q ex (eu.le l)))) fun τ' l' z q=>W.release (.mk (l.trans l') z q)))))
theorem Hb {s:Str}{n:Nat}{p:Pos}{α:Type}{g:av->Sem α}{R:α->Sx->Prop}{vs:ah av} (z:At k L σ) (h:At k L (σ.up σ.s.heap (σ.s.toks+1))->W k rz (g (.str s σ.s.toks)) R X (σ.up σ.s.heap (σ.s.toks+1))):
  W k rz (holding vs (eval (.Constant (.str s) n p) k.env)>>=g) R X σ:=
 W.bind (P:=fun i ρ=>i=.str s σ.s.toks/\ρ=σ.up σ.s.heap (σ.s.toks+1)) (W.holding (W.any (GD ⟨σ.g,σ.H,rfl,rfl⟩))) fun i ρ hi=>by
  obtain⟨rfl,rfl⟩:=hi
  exact h z.tok
theorem Pk:SS (.c4 e f v):=fun{k rz L σ Q X y} F z hm h=>vF hm fun t w p ht=>HC ht fun o n q' q hh=>vL Od rfl rfl (SE.step (EW.all v).se z (bx hh) h fun u τ yv eu l z q=>
 W.done (W.eq (arm_assign_Subscript ..) (SE.pA (EW.all e).se z (aU hh) q fun ov τ x ex l z q=>Hb z fun z=>W.cY (W.v_ (W.holding (W.any (z.Mx q ex (eu.le l)))) fun τ' l' z q=>W.release (.mk (l.trans l') z q)))))
theorem nj {n:Nm} (F:k.Full) (h:tO k.sc n=ag):k.wy n:=Xh h jL jL |>.elim (fun e=>.loc e (F.own▸.head _)) fun e=>.cell e fun _ m=>F.own▸m
theorem W.RR {m:Sem cR} (h:W k rz m (GO k σ fun L=>Q .next L σ.H) X σ):W k rz (m>>=fun _=>Pure.pure Flow.next) (fun f τ=>mh k Q τ f) X σ:=W.XT h fun L hp tk z q=>W.pure (.next L z q)
theorem aap:SS (.aug x op e):=fun{k rz L σ Q X y} F z hm h=>nk hm fun t o w p hh=>by
 obtain⟨old,e1,h⟩:=h
 obtain rfl:=eq_of_beq (bx (aU (aU hh)))
 refine gP (P:=fun t=>W k rz (exec (.AugAssign t op.op w p) k.env) (fun f τ=>mh k Q τ f) X σ) (aU (aU (aU hh))) fun p'=>?_
 rw[arm_exec_AugAssign]
 refine W.cY (W.bind (P:=fun u τ=>er σ.g u old/\τ=σ) (HT z e1 fun u eu=>⟨eu,rfl⟩) fun ov τ o=>?_)
 obtain⟨eo,rfl⟩:=o
 refine SE.pA (EW.all e).se z (bx hh) h fun u τ' yv eu l z q=>W.cY (W.nG (W.operate (z.Ls (R:=fun r H=>Q .next (L.set x r) H) (eo.le l) eu q)) fun nv τ rv er l z q=>W.cY (W.RR (DR z (nj F (bx (aU hh))) er q)))
theorem Mi:SS (.ic e f op v):=fun{k rz L σ Q X y} F z hm h=>nk hm fun t o w p ht=>Dq (P:=fun t=>W k rz (exec (.AugAssign t o w p) k.env) (fun f τ=>mh k Q τ f) X σ) ht fun u q hh=>by
 obtain rfl:=eq_of_beq (aU (aU hh))
 rw[arm_exec_AugAssign_2]
 refine W.cY (SE.step (EW.all e).se z (bx (aU hh)) h fun ov τ x ex l z q=>?_)
 obtain⟨old,e1,q⟩:=q
 refine W.nG (σ:=τ) (P:=fun r H=>xK x H f r fun H=>Q .next L H) (W.holding (W.cY (W.nG (P:=fun r H=>r=old/\H=τ.H) (W.any (z.M7 e1 ex ⟨rfl,rfl⟩)) fun u τ1 y1 eo l1 z1 qq=>?_))) fun nv τ3 rv er l3 z3 q3=>W.cY (W.v_ (W.holding (W.any (z3.Mw (Q:=fun H=>Q .next L H) q3 (ex.le l3) er))) fun τ l z q=>W.rel (W.pure (.next L z q)))
 obtain⟨rfl,e⟩:=qq
 exact SE.pA (EW.all v).se z1 (bx hh) (e▸q) fun vv τ2 yv ev l2 z2 q2=>W.cY (W.later (l1.trans l2) (W.operate (z2.Ls (R:=fun r H=>xK x H f r fun H=>Q .next L H) (eo.le l2) ev q2)))
theorem Pl:SS (.sm e f op v):=fun{k rz L σ Q X y} F z hm h=>nk hm fun t o w p ht=>HC (P:=fun t=>W k rz (exec (.AugAssign t o w p) k.env) (fun f τ=>mh k Q τ f) X σ) ht fun u n q' q'' hh=>by
 obtain rfl:=eq_of_beq (aU (aU hh))
 rw[arm_exec_AugAssign_3]
 refine W.cY (SE.step (EW.all e).se z (bx (aU hh)) h fun ov τ x ex l z q=>Hb z fun z=>?_)
 obtain⟨old,e1,q⟩:=q
 refine W.nG (σ:=τ.up τ.s.heap (τ.s.toks+1)) (P:=fun r H=>zg x H f r fun H=>Q .next L H) (W.holding (W.cY (W.nG (P:=fun r H=>r=old/\H=τ.H) (W.any (z.Rz e1 ex ⟨rfl,rfl⟩)) fun u τ1 y1 eo l1 z1 qq=>?_))) fun nv τ3 rv er l3 z3 q3=>W.cY (W.v_ (W.holding (W.any (z3.Mx (Q:=fun H=>Q .next L H) q3 (ex.le l3) er))) fun τ l z q=>W.rel (W.pure (.next L z q)))
 obtain⟨rfl,e⟩:=qq
 exact SE.pA (EW.all v).se z1 (bx hh) (e▸q) fun vv τ2 yv ev l2 z2 q2=>W.cY (W.later (l1.trans l2) (W.operate (z2.Ls (R:=fun r H=>zg x H f r fun H=>Q .next L H) (eo.le l2) ev q2)))
theorem Ek {xs:ah ay}{n:Nat}{p:Pos}{v:ay} (h:QW v=ag):swappedStores [.Tuple xs n p] v k.env=pure au:=by
 cases v<;>first |rfl |contradiction
theorem Mj {xs:ah Nm}:SS (.jA xs e):=fun{k rz L σ Q X y} F z hm h=>vF hm fun t w p hh=>by
 have ht:=aU (aU (aU (aU hh)))
 have h2:=l_.mp (bx (aU (aU (aU hh))))
 have go:=SE.step (rz:=rz) (EW.all e).se (f:=fun u=>assign t k.env u>>=fun _=>pure Flow.next) z (bx (aU (aU hh))) h fun u τ yv eu l z q=>W.RR (P8 (P:=fun L1=>Q .next L1 τ.H) z ht (fun x hx=>nj F (h2 x hx)) eu q)
 exact pD (P:=fun t=>W k rz (eval w k.env>>=fun u=>assign t k.env u>>=fun _=>pure Flow.next) (fun f τ=>mh k Q τ f) X σ->W k rz (exec (.Assign [t] w p) k.env) (fun f τ=>mh k Q τ f) X σ) ht (fun ys n q _=>vL (oU (bx hh) _ _ _) (Ek (bx (aU hh))) rfl) go
theorem ac6 {P:E->Prop}{e:E} (h:e.isC=ag) (K:∀ fz elt tup fL it c fv,P (.comp fz elt tup fL it c fv)):P e:=by cases e with
 |comp=>exact K ..
 |_=>exact absurd h cj
theorem Pm:SS (.bz x e):=fun{k rz L σ Q X y} F z hm h=>vF hm fun t w p hh=>by
 have hx:=nj F (bx (aU (aU hh)))
 refine gP (P:=fun t=>W k rz (exec (.Assign [t] w p) k.env) (fun f τ=>mh k Q τ f) X σ) (aU (aU (aU hh))) fun q=>?_
 have plain:swapsWith w (aa (.Name (dP x) q)) p.line k.env=pure ao->W k rz (exec (.Assign [.Name (dP x) q] w p) k.env) (fun f τ=>mh k Q τ f) X σ:=fun hs=>vL hs rfl rfl
  (SE.step (EW.all e).se z (bx (aU hh)) h fun u τ yv eu l z q=>W.RR (rU z hx eu q))
 refine(md.mp (bx hh)).elim (fun hc=>plain (oU hc _ _ _)) fun hc=>?_
 refine ac6 (P:=fun e=>wS k.C rz (.bz x e) L σ.H Q X->mE k.sc e w=ag->W k rz (exec (.Assign [.Name (dP x) q] w p) k.env) (fun f τ=>mh k Q τ f) X σ) hc (fun fz elt tup fL it c fv h hm=>?_) h (bx (aU hh))
 refine qh (P:=fun w=>(swapsWith w (aa (.Name (dP x) q)) p.line k.env=pure ao->W k rz (exec (.Assign [.Name (dP x) q] w p) k.env) (fun f τ=>mh k Q τ f) X σ)->W k rz (exec (.Assign [.Name (dP x) q] w p) k.env) (fun f τ=>mh k Q τ f) X σ) hm (fun x' gs gx p' hg=>rA (P:=fun gs=>(swapsWith (.ListComp x' gs gx p') (aa (.Name (dP x) q)) p.line k.env=pure ao->W k rz (exec (.Assign [.Name (dP x) q] (.ListComp x' gs gx p') p) k.env) (fun f τ=>mh k Q τ f) X σ)->W k rz (exec (.Assign [.Name (dP x) q] (.ListComp x' gs gx p') p) k.env) (fun f τ=>mh k Q τ f) X σ) hg fun g hg plain=>?_) plain
 obtain⟨b,hs⟩:∃ b,swapsWith (.ListComp x' [g] gx p') (aa (.Name (dP x) q)) p.line k.env=pure b:=⟨_,rfl⟩
 cases b with
 |false=>exact plain hs
 |true=>
  rw[TF]
  refine W.cY (W.eqB (m:=swapsWithSole [.Name (dP x) q] (.ListComp x' [g] gx p') p.line k.env) hs (W.eq (a8 rfl) ?_))
  refine W.bind (P:=fun _=>Oky k σ (fun v H1=>Q .next (L.set x v) H1) fun y L'=>L'=L.set x y) (W.bind (RW (u:=fun v=>assign (.Name (dP x) q) k.env v) (kk:=fun y L'=>L'=L.set x y) (EW.all elt).se (EW.all it).se (EW.all c).st z hg h fun ρ v y ev w=>rU (k:=k.at ρ) w.start hx ev rfl) fun _ τ o=>W.pure o) fun _ τ o=>?_
  obtain⟨L2,y,l,z,q,rfl⟩:=o
  exact W.pure (.next _ z q)
end
section
variable {M:eE}{A:bF}{E:av->aF->Prop}{s:aF}
theorem HR {az:bB}{l:ah Env}{e La:ax}{cls a0 fl:av}{Q:cR->aF->Prop} (k1:az.StaysIn s.heap) (k2:az.get? e=au) (k3:s.heap.FunFrames az l) (k4:s.heap.TracedAtW az e cls a0 fl)
  (h:∀ h',Heap.HeldW az l e cls a0 La h'->s.heap.UpToSlots h'->Q () {s with heap:=h'}):
  aO M A (do
   if (<- field (.ref e) 1)==.none then unsupported "frame.own-activation:exception-without-traceback"
   setFlight (.ref e) (aa La)) Q E s:=by
 obtain⟨oe,vs,T,oT,ts,he,Jp,hd,h1,hnT,hTe,hT,hdT,h3⟩:=k4
 have lt:3 < ts.size:=(Array.getElem?_eq_some_iff.mp h3).1
 refine bf (LD he hd h1 (fW (fun z=>by contradiction) ?_))
 have fin:aO M A (setFlight (.ref e) (aa La)) Q E s:=by
  unfold setFlight
  refine bf (LD he hd h1 (Ut rfl ?_))
  have off:∀ b,b≠T->(s.heap.update T (Obj.mapFields (·.setIfInBounds 3 ((aa La).elim Value.none fun f=>rawInt f)))).get? b=s.heap.get? b:=fun b hb=>Jf _ _ (l6 hb)
  have nb:∀ b o,s.heap.get? b=aa o->(∀ vs,o.data≠.fields vs)->b≠T:=fun b o hb hn q=>by
   subst q;cases hT.symm.trans hb;exact hn ts hdT
  refine wpAny_setField hT hdT lt (h _ ⟨fun b o q=>(off b fun z=>bP hnT (z▸q)).trans (k1 b o q),k2,k3.of_keeps fun b o hb hn=>⟨o,(off b (nb b o hb hn)).trans hb,rfl⟩,?_⟩ fun b o hb hn=>⟨o.slots,(off b (nb b o hb hn)).trans hb⟩)
  exact⟨oe,vs,T,_,_,(off e (l6 hTe)).trans he,Jp,hd,h1,hnT,hTe,NH _ hT (Obj.isFreed_of_fields (Ub hdT _)),Ub hdT _,by simp [lt]⟩
 first
  |exact fin
  |exact bf (bW fin)
end
section
variable {k:Kx}{rz:aj}{L:b5}{σ τ ρ:Sx}{X:fk}{Q:PO}
theorem Ih {az h h1 h':bB}{fr:ah Env} (ff:h.FunFrames az fr){b:ax}{o:Obj} (hb:b∈jM fr) (e:h.get? b=aa o) (q:∃ sl,h1.get? b=aa {o with slots:=sl}) (u:h1.UpToSlots h'):∃ sl,h'.get? b=aa {o with slots:=sl}:=by
 obtain⟨sl,q⟩:=q
 obtain⟨_,o',e',hn⟩:=ff.mem hb
 cases e.symm.trans e'
 exact u b {o with slots:=sl} q hn
theorem Th.slots {s':aF} (z:At k L σ) (t:Th k.c k.frs σ τ s'){h':bB} (u:s'.heap.UpToSlots h'):Th k.c k.frs σ τ {s' with heap:=h'}:={t with sl:=fun b o e f m=>Ih z.fm.ff m e (t.sl b o e f m) u}
theorem HM (F:k.Full){e:av}{s':aF} (h:Jw k ao X e s'){M:eE}{P:cR->aF->Prop}{E':av->aF->Prop} (q:∀ JQ,aaC k X e JQ->P () JQ):aO M k.A (noteFrame e k.env) P E' s':=by
 cases h with
 |ZE L σ z f=>
  obtain⟨ea,a0,D,τ,he,t,f,x⟩:=f
  subst he
  obtain⟨l,hl⟩:=F.top
  obtain⟨f0,l',e0,La,hf⟩:=k.ca.top
  cases hl.symm.trans e0
  exact wpAny_looks_onW (k.ca.frames.trans (aW aa hl)) hf (hl▸f) fun h' hh hu=>q _ (.mk L σ τ D ea a0 La rfl hf z (t.slots z hu) (hl.symm▸hh) x)
 |held h=>
  obtain⟨L,σ,τ,D,ea,a0,La,he,hf,z,t,f,x⟩:=h
  subst he
  exact X6 hf f.2.2.2 (q _ (.mk L σ τ D ea a0 La rfl hf z t f x))
 |made L σ D ea vs hr=>contradiction
theorem OX {e:av}{s':aF} (h:aaC k X e s'){M:eE}:cameBackBy M k.A k.env (fun e s'=>Jw k rz X e s') e s':=by
 obtain⟨L,σ,τ,D,ea,a0,La,he,hf,z,t,⟨k1,k2,k3,k4⟩,x⟩:=h
 subst he
 unfold cameBackBy
 rw[hf]
 exact HR k1 k2 k3 k4 fun h' hh hu=>.held (.mk L σ τ D ea a0 La rfl hf z (t.slots z hu) hh x)
def Yw (k:Kx) (rz:aj) (Q:PO) (X:fk) (r:fq) (s':aF):Prop:=match r with
 |.ok f=>fM (mh k Q · f) s'
 |.error e=>cameBackBy k.M k.A k.env (fun e s'=>Jw k rz X e s') e s'
inductive NM (k:Kx) (rz:aj) (c:fj) (J:Nat->Sx->Prop) (Q:PO) (X:fk) (n:Nat) (τ:Sx):Fin->Prop
 |done (f:iR) (h:mh k Q τ f):NM k rz c J Q X n τ (.done f)
 |again (m:Nat) (h:m < n) (j:J m τ):NM k rz c J Q X n τ (.again c)
 |out (c':fj) (hq:c'.quiet=ag) (h:iI k.M k.A c' (Yw k rz Q X) τ.s):NM k rz c J Q X n τ (.again c')
theorem Hz (F:k.Full){c:fj}{t:Sem Fin} (hq:c.quiet=ag) (hd:rn c) (hA:k.A.under c=k.A) (den:k.M.den c=t.onRaise fun x=>do noteFrame x k.env;theTreesLotGoes x) (J:Nat->Sx->Prop)
  (turn:∀ n σ,J n σ->W k ao t (fun f τ=>NM k rz c J Q X n τ f) X σ) (n:Nat) (h:J n σ):W k rz (runOwn c k.env) (fun f τ=>mh k Q τ f) X σ:=by
 have go:∀ n s,fM (J n) s->iI k.M k.A c (Yw k rz Q X) s:=fun n=>by
  induction n using Nat.strongRecOn with
  |ind n ih=>
   intro s j
   obtain⟨g,H,j⟩:=j
   refine I.tree hd ?_
   rw[hA,den]
   refine I.onRaise (I.bT (turn n ⟨s,g,H⟩ j) (fun f s' o=>?_) fun e s' h=>I.leaf (HM F h fun JQ hh=>I.any (wpAny_theTreesLotGoes (OX hh))))
   obtain⟨g',H',o⟩:=o
   cases o with
   |done f h=>exact⟨g',H',h⟩
   |again m h j=>exact⟨hq,ih m h s' ⟨g',H',j⟩⟩
   |out c' hq h=>exact⟨hq,h⟩
 exact I.runOwn (by intro x;cases x) (I.pN (go n σ.s ⟨σ.g,σ.H,h⟩) fun r s' hr=>match r,hr with
  |.ok _,hr=>hr
  |.error _,hr=>hr)
inductive WJ (k:Kx) (J:Nat->b5->Hp->Prop) (n:Nat) (σ:Sx):Prop
 |mk (L:b5) (z:At k L σ) (j:J n L σ.H)
theorem Uw {d:E}{b:Ss} (S:Ju b):SS (.kD d b):=fun{k rz L σ Q X y} F z hm h=>J6 hm fun t u v p hh=>by
 refine tw (P:=fun v=>W k rz (exec (.While t u v p) k.env) (fun f τ=>mh k Q τ f) X σ) (aU (aU hh)) ?_
 obtain⟨J,n,j0,hs⟩:=h
 rw[arm_exec_While]
 refine W.cY (Hz F (t:=whileTurn t u [] k.env) rfl (fun _ _=>rfl) rfl rfl (WJ k J) (fun n σ h=>?_) n (.mk L z j0))
 obtain⟨L,z,j⟩:=h
 unfold whileTurn
 refine W.qr ((EW.all d).st (P:=fun t H1=>cond t (wSs k.C ao b L H1 (mj (fun L H=>∃ j,j < n/\J j L H) Q) X) (Q .next L H1)) z (bx (aU hh)) (hs n L σ.H j) fun v H q=>q) fun t τ l z q=>W.ifb ?_
 cases t with
 |true=>
  refine W.bind (S F z (bx hh) q) fun f τ o=>?_
  cases o with
  |next L z q=>obtain⟨m,hm,q⟩:=q;exact W.pure (.again m hm (.mk L z q))
  |brk L z q=>exact W.pure (.done _ (.next L z q))
  |cont L z q=>obtain⟨m,hm,q⟩:=q;exact W.pure (.again m hm (.mk L z q))
  |ret L v x e z q=>exact W.pure (.done _ (.ret L v x e z q))
 |false=>exact W.bind (m:=execs [] k.env) (P:=fun f τ'=>f=.next/\τ'=τ) (W.pure ⟨rfl,rfl⟩) fun f τ' o=>W.pure (.done _ (o.1▸o.2▸.next L z q))
end
section
variable {k:Kx}{rz:aj}{L:b5}{σ τ ρ:Sx}{X:fk}{Q:PO}{aI:ax}{x:Nm}{b:Ss}{e:E}{α β:Type}
inductive NxE (aI:ax) (σ:Sx):aB av->Sx->Prop
 |mk (h':bB) (tk:Nat) (hs:∀ b o,b≠aI->σ.get b=aa o->h'.get? b=aa o):NxE aI σ au (σ.up h' tk)
inductive NxI (aI:ax) (σ:Sx) (It:Sx->Prop) (y:V):aB av->Sx->Prop
 |mk (v:av) (h':bB) (tk:Nat) (e:er σ.g v y) (hs:∀ b o,b≠aI->σ.get b=aa o->h'.get? b=aa o) (i:It (σ.up h' tk)):NxI aI σ It y (aa v) (σ.up h' tk)
def Nx (k:Kx) (aI:ax) (σ:Sx) (P:aB av->Sx->Prop):Prop:=aO k.M k.A (pyNext (.ref aI)) (fun r s'=>fM (P r) s') (fun _ _=>False) σ.s
section
variable {ι:Type} (m:ι->Nat) (It:ι->Sx->Prop) (J:ι->b5->Hp->Prop)
inductive WY (k:Kx) (aI:ax) (x:Nm) (b:Ss) (Q:PO) (X:fk) (i:ι) (L:b5) (σ:Sx):Prop
 |fin (q:Q .next L σ.H) (h:Nx k aI σ (NxE aI σ))
 |item (y:V) (i':ι) (lt:m i' < m i) (q:wSs k.C ao b (L.set x y) σ.H (mj (J i') Q) X) (h:Nx k aI σ (NxI aI σ (It i') y))
inductive FJ (k:Kx) (aI:ax) (n:Nat) (σ:Sx):Prop
 |mk (i:ι) (L:b5) (z:At k L σ) (nI:σ.Off aI) (t:It i σ) (j:J i L σ.H) (hn:n=m i)
theorem W.onRaise {m:Sem α}{g:av->Sem cR}{f:α->Sem β}{R:β->Sx->Prop}{P:α->Sx->Prop} (h:aO k.M k.A m (fun a s'=>fM (P a) s') (fun _ _=>False) σ.s) (K:∀ a τ,P a τ->W k rz (f a) R X τ):W k rz (m.onRaise g>>=f) R X σ:=
 W.bind (P:=P) (I.onRaise (I.bT (I.any h) (fun _ _ q=>q) fun _ _ q=>q.elim)) K
theorem Ii (F:k.Full) (S:Ju b) (hx:k.wy x){p:Pos}{u:ah aY} (hm:OB k.sc b u=ag) (N:k.Jv aI) (hs:∀ i L L' σ τ,At k L σ->σ.Off aI->At (k.at σ) L' τ->It i σ->It i τ/\τ.Off aI)
  (st:∀ i L σ,At k L σ->It i σ->J i L σ.H->WY m It J k aI x b Q X i L σ) (i:ι) (z:At k L σ) (nI:σ.Off aI) (t:It i σ) (j:J i L σ.H):W k rz (runOwn (.forLoop (.Name (dP x) p) (.ref aI) u [] k.env) k.env) (fun f τ=>mh k Q τ f) X σ:=by
 refine Hz F (t:=forTurn (.Name (dP x) p) (.ref aI) u [] k.env) rfl (fun _ _=>rfl) rfl rfl (FJ m It J k aI) (fun n σ h=>?_) (m i) (.mk i L z nI t j rfl)
 obtain⟨i,L,z,nI,t,j,rfl⟩:=h
 unfold forTurn
 refine W.cY ?_
 have off:∀ {h' tk},(σ.up h' tk).Off aI:=⟨nI.z,nI.h,nI.d⟩
 cases st i L σ z t j with
 |fin q h=>
  refine W.onRaise h fun r τ o=>?_
  cases o with
  |mk h' tk hs=>exact W.pure (.out _ rfl (I.anyC (codeAny_block (wpAny_execs_nil ⟨σ.g,σ.H,.next L (N.turn (tk:=tk) z nI hs) q⟩))))
 |item y i' lt q h=>
  refine W.onRaise h fun r τ o=>?_
  cases o with
  |mk v h' tk e hs' t=>
   have z1:=N.turn (tk:=tk) z nI hs'
   refine W.bind (m:=letOwnedTupleGo (.Name (dP x) p) (.ref aI) v) (P:=fun _ ρ=>ρ=σ.up h' tk) (W.pure rfl) fun _ ρ o=>?_
   subst o
   refine W.bind (W.back z1 (rU (k:=k.at (σ.up h' tk)) (P:=fun L'=>L'=L.set x y) z1.start hx e rfl)) fun _ ρ o=>?_
   obtain⟨L',h2,tk2,rfl,z2,rfl⟩:=o
   have adY:((σ.up h' tk).up h2 tk2).Off aI:=⟨nI.z,nI.h,nI.d⟩
   have t2:=(hs _ _ _ _ _ z1 off z2 t).1
   have z2:=z1.back z2
   refine W.bind (W.back z2 (S (k:=k.at ((σ.up h' tk).up h2 tk2)) F z2.start hm q)) fun f ρ o=>?_
   have go:∀ {L3},At (k.at ((σ.up h' tk).up h2 tk2)) L3 ρ->J i' L3 ρ.H->FJ m It J k aI (m i') ρ:=fun z3 q=>have t3:=hs _ _ _ _ _ z2 adY z3 t2;.mk i' _ (z2.back z3) t3.2 t3.1 q rfl
   cases o with
   |next L z3 q=>exact W.pure (.again _ lt (go z3 q))
   |brk L z3 q=>exact W.pure (.done _ (.next L (z2.back z3) q))
   |cont L z3 q=>exact W.pure (.again _ lt (go z3 q))
   |ret L v x e z3 q=>exact W.pure (.done _ (.ret L v x e (z2.back z3) q))
end
theorem aan:Ju b->SS (.uE x e b):=fun S {k rz L σ Q X y} F z hm h=>HD hm fun t it u v p hh=>by
 have hx:=nj F (bx (aU (aU (aU hh))))
 have h7:=l7.mp (bx (aU (aU hh)))
 refine tw (P:=fun v=>W k rz (exec (.For t it u v p) k.env) (fun f τ=>mh k Q τ f) X σ) (ir (aU hh)) ?_
 refine gP (P:=fun t=>W k rz (exec (.For t it u [] p) k.env) (fun f τ=>mh k Q τ f) X σ) (bx (ir hh)) fun p'=>?_
 rw[arm_exec_For]
 refine W.cY (SE.step (EW.all e).se z (bx (aU hh)) h fun v τ src ev l z q=>?_)
 obtain⟨full,q1,J,j0,jd,js⟩:=q
 obtain⟨ls,rfl,sq⟩:∃ ls,v=.ref ls/\SeqAt τ ls "list" full:=z.gL (p:=fun xs=>xs=full) ev ⟨full,q1,rfl⟩ fun a xs s e=>⟨a,rfl,e▸s⟩
 obtain⟨vs,hl,ra⟩:=sq.list
 refine W.eqB (m:=foldedSetIterable it k.env (.ref ls)) (Dy h7 _ _) (W.cY (W.leaf (Gk (L_ hl ⟨τ.g,τ.H,?_⟩))))
 have na:=di τ.s.heap
 have N:=z.new na
 have f:=z.rep.fresh na
 refine Ii (fun r:ah V=>r.length) (fun r σ=>er σ.g (.ref ls) src/\∃ i,σ.s.heap.IsListIter τ.s.heap.objs.size ls i/\full.drop i=r) J F S hx (bx hh) N (fun i L L' σ τ z f w o=>?_) (fun r L σ z t j=>?_) full (z.grow (tk:=τ.s.toks) fun _ _ h=>jN _ h) ⟨f.z,f.h,f.d⟩
  ⟨ev,0,⟨_,jg _ rfl,rfl,rfl⟩,rfl⟩ j0
 ·obtain⟨ev,i,⟨o,ho,hc,hd⟩,e⟩:=o
  have h1:=N.off z w ho f
  exact⟨⟨ev.le w.rel.le,i,⟨o,h1.1,hc,hd⟩,e⟩,h1.2⟩
 ·obtain⟨ev,i,hit,e⟩:=t
  cases r with
  |nil=>
   obtain⟨q1,q2⟩:=jd _ _ j
   obtain⟨vs,hv,ra⟩:=(z.zB ev q1).list
   exact .fin q2 (X2 k.ca.hd hit hv (X8 (fE ra▸XX.mp e)) fun h' hs=>⟨σ.g,σ.H,.mk h' σ.s.toks hs⟩)
  |cons y r=>
   obtain⟨q1,q2⟩:=js _ _ _ _ j
   obtain⟨vs,hv,ra⟩:=(z.zB ev q1).list
   obtain⟨e1,e2⟩:=drop_cons e
   obtain⟨v,e3,e4⟩:=ra.get e1
   exact .item y r (nU _) q2 (X7 hit hv ((BH ..).symm.trans e3) fun h' Py hs=>⟨σ.g,σ.H,.mk v h' σ.s.toks e4 (fun b o nb e=>(hs.2 b nb).trans e) ⟨ev,i+1,Py,e2⟩⟩)
end
theorem JR (a b:Int):Builtin.Range.rangeSize a b 1=((b-a).toNat:Int):=by
 rw[rangeSize_one];split<;>lia
section
variable {k:Kx}{rz:aj}{L:b5}{σ τ ρ:Sx}{X:fk}{Q:PO}{aI:ax}{x:Nm}{b:Ss}{lo hi:E}
inductive Rng (k:Kx) (L:b5) (P:Int->Int->Hp->Prop) (v:av) (τ:Sx):Prop
 |mk (r:ax) (i j:Int) (t u w:Tok) (e:v=.ref r) (h:IsRange τ.s.heap r i j 1 t u w) (z:At k L τ) (b:-(2 ^ 62)<=i/\i < 2 ^ 62/\-(2 ^ 62)<=j/\j < 2 ^ 62) (q:P i j τ.H)
theorem MA (z:At k L σ){P:Int->Int->Hp->Prop}{i j:Int}{t u w:Tok}{tk:Nat} (b:-(2 ^ 62)<=i/\i < 2 ^ 62/\-(2 ^ 62)<=j/\j < 2 ^ 62) (q:P i j σ.H):
  fM (Rng k L P (.ref σ.s.heap.objs.size)) {σ.s with heap:=σ.s.heap.push {cls:=.type "range",data:=.fields #[.int i t,.int j u,.int 1 w]},toks:=tk}:=
 ⟨σ.g,σ.H,.mk _ i j t u w rfl (IsRange.new ..) (z.grow fun _ _ h=>jN _ h) b q⟩
theorem YQ (z:At k L σ){it:ay}{P:Int->Int->Hp->Prop} (hm:Q8 k.sc lo hi it=ag) (h:wE k.C lo L σ.H (fun l H1=>wE k.C hi L H1 (fun h H2=>B9 l h lo.yL fun i j=>P i j H2) (lZ X L)) (lZ X L)):
  W k rz (eval it k.env) (Rng k L P) X σ:=mP hm fun q xs p hh=>by
 have go:∀ {es:Es}{R:ah V->Hp->Prop},Ml es->u1 k.sc es xs=ag->wEs k.C es L σ.H R (lZ X L)->(∀ us vs τ,dF (er τ.g) us vs->At k L τ->R vs τ.H->W k rz (call (.type "range") us) (Rng k L P) X τ)->
   W k rz (eval (.Call (.Name ("range":Str) q) xs [] p) k.env) (Rng k L P) X σ:=fun{es R} S hm h K=>by
  refine W.Jj (by decide+kernel) (W.any (AA z (aU hh) k.D.gr ⟨σ.g,σ.H,I.callWith_builtin (iN hm) (fun a=>nofun) (I.bT (tu S z hm h) (fun ar s' q=>?_) fun _ _ w=>w)⟩))
  obtain⟨g,H,ek,ys,e,l,z,q⟩:=q
  rw[ek]
  exact K _ _ ⟨s',g,H⟩ e z q
 cases hn:lo.yL with
 |true=>
  have h2:u1 k.sc (.cons hi .nil) xs=ag:=by have:=bx hh;rw[hn] at this;exact this
  obtain rfl:=UJ hn
  refine go (sJ (EW.all hi).se zK) (R:=fun vs H2=>Kh vs fun h=>B9 .none h ag fun i j=>P i j H2) h2 h fun us vs τ e z q=>oE e q fun u y e q=>?_
  obtain⟨i,j,hl,rfl,h1,h2,h3,h4,q⟩:=q
  cases hl
  obtain⟨t,rfl⟩:=e
  exact W.any (call_range_1 (MA z ⟨h1,h2,h3,h4⟩ q))
 |false=>
  have h2:u1 k.sc (.cons lo (.cons hi .nil)) xs=ag:=by have:=bx hh;rw[hn] at this;exact this
  rw[hn] at h
  refine go (sJ (EW.all lo).se (sJ (EW.all hi).se zK)) (R:=fun vs H2=>on2 vs fun l h=>B9 l h ao fun i j=>P i j H2) h2 h fun us vs τ e z q=>QS e q fun u y w y' e e' q=>?_
  obtain⟨i,j,hl,rfl,h1,h2,h3,h4,q⟩:=q
  refine gI (p:=fun i'=>i'=i) (G:=fun u=>W k rz (call (.type "range") [u,w]) (Rng k L P) X τ) e ⟨_,hl,rfl⟩ fun i' t e=>?_
  subst e
  obtain⟨t',rfl⟩:=e'
  exact W.any (call_range_2 (MA z ⟨h1,h2,h3,h4⟩ q))
theorem WC:Ju b->SS (.forR x lo hi b):=fun S {k rz L σ Q X y} F z hm h=>HD hm fun t it u v p hh=>by
 have hx:=nj F (bx (aU (aU hh)))
 have hr:=bx (aU hh)
 refine tw (P:=fun v=>W k rz (exec (.For t it u v p) k.env) (fun f τ=>mh k Q τ f) X σ) (ir hh) ?_
 refine gP (P:=fun t=>W k rz (exec (.For t it u [] p) k.env) (fun f τ=>mh k Q τ f) X σ) (bx (aU (aU (aU hh)))) fun p'=>?_
 rw[arm_exec_For]
 refine W.cY (W.bind (YQ z hr h) fun v τ o=>?_)
 obtain⟨r,i,j,t',u',w',rfl,h,z,⟨b1,b2,b3,b4⟩,J,j0,jd,js⟩:=o
 refine W.eqB (m:=foldedSetIterable it k.env (.ref r)) (mP (P:=fun it=>foldedSetIterable it k.env (.ref r)=pure (.ref r)) hr fun _ _ _ _=>rfl) (W.cY (W.leaf (Gk (wpAny_pyIter_range h (small_one b1 b2 b3 b4) ⟨τ.g,τ.H,?_⟩))))
 rw[JR]
 have na:=di τ.s.heap
 have N:=z.new na
 have f:=z.rep.fresh na
 refine Ii (fun i:Nat×Int=>i.1) (fun i σ=>IsRangeIter σ.s.heap τ.s.heap.objs.size i.2 (i.1:Int) 1) (fun i L H=>J i.1 i.2 L H) F S hx (bx hh) N (fun i L L' σ τ z f w o=>N.off z w o f) (fun i L σ z t j=>?_) ((j-i).toNat,i) (z.grow (tk:=τ.s.toks) fun _ _ h=>jN _ h) ⟨f.z,f.h,f.d⟩
  (jg _ rfl) j0
 obtain⟨n,i⟩:=i
 cases n with
 |zero=>exact .fin (jd _ _ _ j) (wpAny_pyNext_range_end k.ca.hd t (Gf 0) fun h' hs=>⟨σ.g,σ.H,.mk h' σ.s.toks hs⟩)
 |succ n=>exact .item (.int i) (n,i+1) (nU _) (js _ _ _ _ j) (wpAny_pyNext_range_item t (Gq.mpr (sC n)) fun h' Py hs=>⟨σ.g,σ.H,.mk _ h' (σ.s.toks+1) ⟨_,rfl⟩ (fun b o nb e=>(hs.2 b nb).trans e) ((Int.add_sub_cancel (n:Int) 1:((n+1:Nat):Int)-1=n)▸Py)⟩)
end
inductive aeS (h:bB) (C:ax) (bmB:ah av) (newId:b_):Prop
 |mk (bm:ah av) (N:ax) (nm:Str) (q:Str) (bs:ah av) (Zu:aj) (sn:ah Str) (sub:ah av) (ab:aj) (col:aB aj) (dd:aB ax) (k0 k1 k2 k3 k5:aB av) (mN:Str->aB av)
  (ho:h.get? C=aa (excClassObj nm q C N bs bm Zu sn sub ab col dd k0 k1 k2 k3 k5 newId)) (hN:h.Ns N mN) (hi:mN "__init__"=au) (T:OwnTail h bmB bm)
theorem Nb {K:cW}{h:bB}{C:ax}{bmB:ah av}{newId:b_} (X:K.In h) (q:ZG K C bmB newId=ag):aeS h C bmB newId:=
 uw (P:=fun y=>K.lookup C=y->_) q (fun o q ho=>by
  obtain⟨cl,dd,dt,l⟩:=o
  obtain⟨l⟩:=l
  refine Oq (P:=fun cl=>K.lookup C=aa ⟨cl,dd,dt,⟨l⟩⟩->_) q (fun ty q ho=>?_) ho
  refine QQ (P:=fun dt=>K.lookup C=aa ⟨.type ty,dd,dt,⟨l⟩⟩->_) (bx q) (fun cd q' ho=>?_) ho
  obtain⟨nm,bs,mro,ns,qn,hd,sn,sub,ab,col,del⟩:=cd
  refine OF (P:=fun mro=>K.lookup C=aa ⟨.type ty,dd,.cls ⟨nm,bs,mro,ns,qn,hd,sn,sub,ab,col,del⟩,⟨l⟩⟩->_) q' (fun c bm q' ho=>?_) ho
  refine OF (P:=fun l=>K.lookup C=aa ⟨.type ty,dd,.cls ⟨nm,bs,c::bm,ns,qn,hd,sn,sub,ab,col,del⟩,⟨l⟩⟩->_) (bx q') (fun k0 r s ho=>?_) ho
  refine OF (P:=fun l=>K.lookup C=aa ⟨.type ty,dd,.cls ⟨nm,bs,c::bm,ns,qn,hd,sn,sub,ab,col,del⟩,⟨k0::l⟩⟩->_) s (fun k1 r s ho=>?_) ho
  refine OF (P:=fun l=>K.lookup C=aa ⟨.type ty,dd,.cls ⟨nm,bs,c::bm,ns,qn,hd,sn,sub,ab,col,del⟩,⟨k0::k1::l⟩⟩->_) s (fun k2 r s ho=>?_) ho
  refine OF (P:=fun l=>K.lookup C=aa ⟨.type ty,dd,.cls ⟨nm,bs,c::bm,ns,qn,hd,sn,sub,ab,col,del⟩,⟨k0::k1::k2::l⟩⟩->_) s (fun k3 r s ho=>?_) ho
  refine OF (P:=fun l=>K.lookup C=aa ⟨.type ty,dd,.cls ⟨nm,bs,c::bm,ns,qn,hd,sn,sub,ab,col,del⟩,⟨k0::k1::k2::k3::l⟩⟩->_) s (fun k4 r s ho=>?_) ho
  refine rA (P:=fun l=>K.lookup C=aa ⟨.type ty,dd,.cls ⟨nm,bs,c::bm,ns,qn,hd,sn,sub,ab,col,del⟩,⟨k0::k1::k2::k3::k4::l⟩⟩->_) (bx s) (fun k5 _ ho=>?_) ho
  refine uw (P:=fun k4=>K.lookup C=aa ⟨.type ty,dd,.cls ⟨nm,bs,c::bm,ns,qn,hd,sn,sub,ab,col,del⟩,⟨[k0,k1,k2,k3,k4,k5]⟩⟩->_) (aU s) (fun n s ho=>?_) ho
  refine Vv (P:=fun n=>K.lookup C=aa ⟨.type ty,dd,.cls ⟨nm,bs,c::bm,ns,qn,hd,sn,sub,ab,col,del⟩,⟨[k0,k1,k2,k3,aa n,k5]⟩⟩->_) s (fun n s ho=>?_) ho
  have q1:=aU q'
  have q2:=aU q1
  have q3:=aU q2
  have q4:=aU q3
  refine Ak (P:=fun c=>K.lookup C=aa ⟨.type ty,dd,.cls ⟨nm,bs,c::bm,ns,qn,hd,sn,sub,ab,col,del⟩,⟨[k0,k1,k2,k3,aa (.builtin n),k5]⟩⟩->_) (aU q4) (fun c e ho=>?_) ho
  rw[eq_of_beq (aU q),eq_of_beq e,eq_of_beq s,show del=ao from not_of (bx q4)] at ho
  exact .mk bm ns nm qn bs hd sn sub ab col dd k0 k1 k2 k3 k5 _ (X _ _ ho) (.of_isNs (isNs_of_in X (bx q2))) (nsMap_none_of_in X (bx q2) (eq_of_beq (bx q1))) (tail_of_in X (bx q3))) rfl
theorem Hq {env:Env} (x:Sem av):raiseStmt env (aa x) au=x>>=fun v=>raiseStmt env (aa (pure v)) au:=rfl
section
variable {k:Kx}{rz:aj}{L:b5}{σ τ ρ:Sx}{X:fk}{C:Cn}{e:E}
inductive Yv (k:Kx) (rz:aj) (X:fk) (L:b5) (C:Cn) (v:av) (τ:Sx):Prop
 |mk (σ:Sx) (ea:ax) (vs:ah av) (e:v=.ref ea) (hr:rz=ag) (z:At k L σ) (m:Heap.MadeExcOf σ.s.heap τ.s.heap ea (.ref (k.c.T.cA C)) vs) (gens:τ.s.gens=σ.s.gens) (drawn:τ.s.drawn=σ.s.drawn) (os:τ.s.os=σ.s.os) (x:X C L σ.H)
theorem Q7 (z:At k L σ){xs:ah ay}{p q:Pos} (hg:oX k.sc (Str.ofString C.s)=ag) (hE:C.isExc=ag) (hm:u1 k.sc (.cons e .nil) xs=ag) (h:wE k.C e L σ.H (fun v H1=>rz=ag/\UH v/\X C L H1) (lZ X L)):
  W k rz (eval (.Call (.Name (Str.ofString C.s) p) xs [] q) k.env) (Yv k rz X L C) X σ:=by
 refine W.Jj (rO C) (W.any (kM z hg (k.D.gc C) ⟨σ.g,σ.H,W.callWith (iN hm) (k.D.exk C hE) (W.bT (tu (P:=fun vs H=>Kh vs fun v=>rz=ag/\UH v/\X C L H) (sJ (EW.all e).se zK) z hm h) fun a τ ha=>?_)⟩))
 obtain⟨ek,ys,ey,l,z,q⟩:=ha
 refine⟨z.here,?_⟩
 rw[ek]
 refine oE (G:=fun us=>W k rz (call (.ref (k.c.T.cA C)) us []) (Yv k rz X L C) X τ) ey q fun u v e q=>?_
 obtain⟨hr,_,hx⟩:=q
 obtain⟨tl,N,nm,q',bs,Zu,sn,sub,ab,col,dd,k0,k1,k2,k3,k5,mN,hCo,hN,hni,T⟩:=Nb z.here (k.D.exc C hE)
 obtain⟨⟨hp,gs,dr,tk,os⟩,g,H⟩:=τ
 exact W.any (wpAny_call_exc_subT Yq T hCo hN hni (fun h' ea hx'=>⟨g,H,.mk ⟨⟨hp,gs,dr,tk,os⟩,g,H⟩ ea _ rfl hr z hx' rfl rfl rfl hx⟩) (by rw[l8];exact(by decide:1<=16777216)))
theorem Ux:SS (.cC C e):=fun{k rz L σ Q X y} F z hm h=>J_ hm fun a b p hh=>QU (P:=fun b=>W k rz (exec (.Raise a b p) k.env) (fun f τ=>mh k Q τ f) X σ) (aU hh) (uw (P:=fun a=>W k rz (exec (.Raise a au p) k.env) (fun f τ=>mh k Q τ f) X σ) (bx hh) fun x hx=>rm (P:=fun x=>W k rz (exec (.Raise (aa x) au p) k.env) (fun f τ=>mh k Q τ f) X σ) hx fun f xs Kq q hh=>by
 have hE:=bx (aU (aU hh))
 refine tw (P:=fun Kq=>W k rz (exec (.Raise (aa (.Call f xs Kq q)) au p) k.env) (fun f τ=>mh k Q τ f) X σ) (bx (aU hh)) (gP (P:=fun f=>W k rz (exec (.Raise (aa (.Call f xs [] q)) au p) k.env) (fun f τ=>mh k Q τ f) X σ) (ir hh) fun p'=>?_)
 rw[arm_exec_Raise]
 refine W.cY (W.eq (Hq (eval (.Call (.Name (Str.ofString C.s) p') xs [] q) k.env>>=fun v=>standAt p>>=fun _=>pure v)) (W.bind (W.bind (Q7 z (bx (aU (aU (aU hh)))) hE (bx hh) h) fun v τ o=>W.cY (W.pure o)) fun v τ o=>?_))
 obtain⟨σ',ea,vs,rfl,hr,z,m,gn,dr,os,hx⟩:=o
 obtain⟨tl,N,nm,q',bs,Zu,sn,sub,ab,col,dd,k0,k1,k2,k3,k5,mN,hCo,hN,hni,T⟩:=Nb z.here (k.D.exc C hE)
 obtain⟨t,ht,_,_⟩:=m.there
 exact W.any (wpAny_raiseStmt_made_sub (T.hasType Yq.hasBase) k.ca.hd (bW ⟨ea,t,rfl,m.keeps _ _ hCo,ht,.made L σ' C ea vs hr rfl z m gn dr os hx⟩)))
end
namespace I
section
variable {M:eE}{A:bF}{E:av->aF->Prop}{s:aF}{env:Env}
theorem tryStmt {body orelse:Sem iR}{h₀:ExceptHandler}{Q:iR->aF->Prop}
  (h:h_ M A body (fun f s₁=>match f with |.next=>h_ M A orelse Q E s₁ |f=>Q f s₁) (fun e s₁=>aO M A (noteFrame e env) (fun _ s₂=>aO M A (setFlight e au) (fun _ s₃=>h_ M A (handleBy e env [h₀]) Q E s₃) E s₂) E s₁) s):
  h_ M A (PySem.tryStmt ao body [h₀] orelse [] env) Q E s:=by
 unfold PySem.tryStmt
 refine ifT rfl ?_
 refine bind (attempt (bT h (fun f s₁ h₁=>?_) fun e s₁ h₁=>?_))
 ·cases f with
  |next=>exact h₁
  |_=>exact pure h₁
 ·exact bind (bT (any h₁) (fun _ _ h₂=>HY cj (bind (bT (any h₂) (fun _ _ h₃=>HY cj (HY cj h₃)) fun _ _ x=>x))) fun _ _ x=>x)
end
end I
section
variable {k:Kx}{rz:aj}{L:b5}{σ τ ρ:Sx}{X:fk}{Q:PO}{b:Ss}{C:Cn}
theorem At.KP {s':aF} (z:At k L σ) (t:Th k.c k.frs σ τ s') (st:τ.s.heap.StaysIn s'.heap):At k L ⟨s',τ.g,τ.H⟩:=
 z.step
  {le:=t.le
   rep:=t.rep.keeps (fun b o e _=>st b o e) fun b o e=>st b o (t.rep.stays b o e)
   keep:=fun b o e f _=>⟨fun m=>st b o (t.k b o e f m),Z' (t.sl b o e f) fun m=>⟨o.slots,st b o (t.k b o e f m)⟩⟩
   off:=fun b o e f=>have w:=t.off b o e f;⟨w.z,w.h,w.d⟩
   gens:=t.gens
   drawn:=t.drawn
   os:=t.os}
theorem AN (F:k.Full) (z:At k L σ){h:Hr}{hb:ah aY} (hm:mH k.sc h hb=ag) (hw:wH h L σ.H Q):∃ b₀,hb=[b₀]/\∀ {A':bF}{E':av->aF->Prop},aO k.M A' (execs hb k.env) (fun f s'=>fM (fun τ=>mh k Q τ f) s') E' σ.s:=by
 cases h with
 |Qp b=>exact rA (P:=fun hb=>∃ b₀,hb=[b₀]/\∀ {A':bF}{E':av->aF->Prop},aO k.M A' (execs hb k.env) (fun f s'=>fM (fun τ=>mh k Q τ f) s') E' σ.s) hm fun y hy=>⟨y,rfl,fun{A' E'}=>by
   refine rk (P:=fun y=>aO k.M A' (execs [y] k.env) (fun f s'=>fM (fun τ=>mh k Q τ f) s') E' σ.s) hy fun o p ho=>uw (P:=fun o=>aO k.M A' (execs [.Return o p] k.env) (fun f s'=>fM (fun τ=>mh k Q τ f) s') E' σ.s) ho fun x hx=>
    eQ (P:=fun x=>aO k.M A' (execs [.Return (aa x) p] k.env) (fun f s'=>fM (fun τ=>mh k Q τ f) s') E' σ.s) hx fun c n q hc=>wX (P:=fun c=>aO k.M A' (execs [.Return (aa (.Constant c n q)) p] k.env) (fun f s'=>fM (fun τ=>mh k Q τ f) s') E' σ.s) hc fun d hd=>?_
   obtain rfl:=eq_of_beq hd
   exact bf (bf (BO (bf (bW (bW (bW ⟨σ.g,σ.H,.ret L (.bool d) (.bool d) rfl z hw⟩))))))⟩
 |setB x b=>exact rA (P:=fun hb=>∃ b₀,hb=[b₀]/\∀ {A':bF}{E':av->aF->Prop},aO k.M A' (execs hb k.env) (fun f s'=>fM (fun τ=>mh k Q τ f) s') E' σ.s) hm fun y hy=>⟨y,rfl,fun{A' E'}=>by
   refine vF (P:=fun y=>aO k.M A' (execs [y] k.env) (fun f s'=>fM (fun τ=>mh k Q τ f) s') E' σ.s) hy fun t v p hh=>gP (P:=fun t=>aO k.M A' (execs [.Assign [t] v p] k.env) (fun f s'=>fM (fun τ=>mh k Q τ f) s') E' σ.s) (aU (aU hh)) fun q=>
    eQ (P:=fun v=>aO k.M A' (execs [.Assign [.Name (dP x) q] v p] k.env) (fun f s'=>fM (fun τ=>mh k Q τ f) s') E' σ.s) (bx hh) fun c n q' hc=>wX (P:=fun c=>aO k.M A' (execs [.Assign [.Name (dP x) q] (.Constant c n q') p] k.env) (fun f s'=>fM (fun τ=>mh k Q τ f) s') E' σ.s) hc fun d hd=>?_
   obtain rfl:=eq_of_beq hd
   refine bf (bf (BO (bf (bW (fW cj (bf (bW ?_)))))))
   refine bf (bW (bf (bf (BO (Tz (pj (zW (P:=fun L'=>Q .next L' σ.H) z (nj F (bx (aU hh))) (v:=.bool d) (y:=.bool d) rfl hw) (fun u s' o=>?_) fun _ _ e=>e))))))
   obtain⟨g,H,L',h',tk,e,z',q'⟩:=o
   cases e
   exact bW (bW ⟨σ.g,σ.H,.next L' z' q'⟩)⟩
 |other=>exact hw.elim
theorem N_ {D:Cn} (h:C.under D=ag):C.isExc=ag:=by
 unfold Cn.isExc
 unfold Cn.under at h
 cases e:C.sup with
 |nil=>rw[e] at h;contradiction
 |cons=>rfl
theorem U0 (z:At k L σ){A':bF}{tup:aj}{cs:ah Cn}{ty:ay}{ea:ax} (hC:C.isExc=ag) (hx:Looks k.M σ.s.heap (typeOf (.ref ea)) (.ref (k.c.T.cA C))) (hm:mTy k.sc tup cs ty=ag)
  {P:aj->aF->Prop}{E1 E2:av->aF->Prop} (q:∀ h',(∀ b o,σ.get b=aa o->h'.get? b=aa o)->P (cs.any C.under) {σ.s with heap:=h'}):
  aO k.M A' (eval ty k.env) (fun cv s₁=>aO k.M A' (excMatches (.ref ea) cv) P E1 s₁) E2 σ.s:=by
 have ld:∀ {C':Cn}{x:ay}{Q:av->aF->Prop},Q9 k.sc C' x=ag->Q (.ref (k.c.T.cA C')) σ.s->aO k.M A' (eval x k.env) Q E2 σ.s:=fun{C' x Q} h q=>
  gP (P:=fun x=>aO k.M A' (eval x k.env) Q E2 σ.s) (aU (aU h)) fun p=>Lz (kM z (bx (aU h)) (k.D.gc C') q) (rO C')
 cases tup with
 |false=>
  refine rA (P:=fun cs=>(∀ h',(∀ b o,σ.get b=aa o->h'.get? b=aa o)->P (cs.any C.under) {σ.s with heap:=h'})->_) hm (fun C1 h1 q=>?_) q
  exact ld h1 ((exm_one z.here hx (k.D.exm C C1 hC (bx h1))).here (LV (C.under C1)▸q σ.s.heap fun _ _ e=>e))
 |true=>
  refine pD (P:=fun ty=>aO k.M A' (eval ty k.env) (fun cv s₁=>aO k.M A' (excMatches (.ref ea) cv) P E1 s₁) E2 σ.s) hm fun xs n p hh=>?_
  refine OI (P:=fun cs=>(∀ h',(∀ b o,σ.get b=aa o->h'.get? b=aa o)->P (cs.any C.under) {σ.s with heap:=h'})->_) hh (fun C1 C2 hh q=>?_) q
  refine OI (P:=fun xs=>aO k.M A' (eval (.Tuple xs n p) k.env) (fun cv s₁=>aO k.M A' (excMatches (.ref ea) cv) P E1 s₁) E2 σ.s) hh fun x y hh=>?_
  have h1:=aU hh
  have h2:=bx hh
  refine gP (P:=fun x=>aO k.M A' (eval (.Tuple [x,y] n p) k.env) (fun cv s₁=>aO k.M A' (excMatches (.ref ea) cv) P E1 s₁) E2 σ.s) (aU (aU h1)) fun p1=>?_
  refine gP (P:=fun y=>aO k.M A' (eval (.Tuple [_,y] n p) k.env) (fun cv s₁=>aO k.M A' (excMatches (.ref ea) cv) P E1 s₁) E2 σ.s) (aU (aU h2)) fun p2=>?_
  rw[Tw]
  refine bf (BO (bf ?_))
  show aO _ _ (spliced [(ao,eval (.Name (Str.ofString C1.s) p1) k.env),(ao,eval (.Name (Str.ofString C2.s) p2) k.env)]) _ _ _
  refine Ua (Lz (kM z (bx (aU h1)) (k.D.gc C1) (Ua (Lz (kM z (bx (aU h2)) (k.D.gc C2) (Calls.spliced_nil ?_)) (rO C2)))) (rO C1))
  refine Tv ?_ (by rw[l8];exact(by decide:2<=16777216))
  have grow:∀ b o,σ.get b=aa o->(σ.s.heap.push {cls:=.type "tuple",data:=.seq [.ref (k.c.T.cA C1),.ref (k.c.T.cA C2)].toArray}).get? b=aa o:=fun b o e=>jN _ e
  have hp:=jg σ.s.heap (o:={cls:=.type "tuple",data:=.seq [.ref (k.c.T.cA C1),.ref (k.c.T.cA C2)].toArray}) rfl
  have ha:exmAny k.K (.ref (k.c.T.cA C)) [.ref (k.c.T.cA C1),.ref (k.c.T.cA C2)]=aa (C.under C1 || (C.under C2 || false)):=by
   unfold exmAny
   rw[k.D.exm C C1 hC (bx h1)]
   unfold exmAny
   rw[k.D.exm C C2 hC (bx h2)]
   rfl
  exact(exm_tup2 (z.here.keeps grow) (hx.keeps grow) hp ha).here (q _ grow)
end
section
variable {k:Kx}{rz:aj}{L:b5}{σ τ ρ:Sx}{X:fk}{Q:PO}{b:Ss}{C:Cn}
theorem aal {h:Hr}{tup:aj}{cs:ah Cn}:Ju b->SS (.Eh b tup cs h):=fun S {k rz L σ Q X y} F z hm hw=>QK hm fun body hs oe fin p hh=>
 tw (P:=fun oe=>W k rz (exec (.Try body hs oe fin p) k.env) (fun f τ=>mh k Q τ f) X σ) (aU (aU hh)) (tw (P:=fun fin=>W k rz (exec (.Try body hs [] fin p) k.env) (fun f τ=>mh k Q τ f) X σ) (bx (aU hh))
 (rA (P:=fun hs=>W k rz (exec (.Try body hs [] [] p) k.env) (fun f τ=>mh k Q τ f) X σ) (bx hh) fun hd E_=>HG (P:=fun hd=>W k rz (exec (.Try body [hd] [] [] p) k.env) (fun f τ=>mh k Q τ f) X σ) E_ fun ty hb q hh=>by
 have h1:=bx (aU hh)
 have h2:=aU (aU hh)
 have h3:=bx hh
 rw[arm_exec_Try]
 refine W.cY (I.tryStmt (I.bT (S F z h1 hw) (fun f s₁ hh=>?_) fun e s₁ hx=>?_))
 ·obtain⟨g,H,o⟩:=hh
  cases o with
  |next L z q=>exact I.pure ⟨g,H,.next L z q⟩
  |brk L z q=>exact⟨g,H,.brk L z q⟩
  |cont L z q=>exact⟨g,H,.cont L z q⟩
  |ret L v x e z q=>exact⟨g,H,.ret L v x e z q⟩
 ·refine HM F hx fun s₂ hh=>?_
  obtain⟨L1,σ1,τ,D,ea,a0,La,he,hf,z1,t,f1,UO,hx2⟩:=hh
  subst he
  refine wpAny_landsW f1 fun h' yP hu=>?_
  have t2:=t.slots z1 hu
  have z2:=z1.KP t2 yP.1
  have hE:D.isExc=ag:=(List.any_eq_true.mp UO).elim fun _ hd=>N_ hd.2
  obtain⟨ob,hob,Jp⟩:=yP.there
  have LT:Looks k.M h' (typeOf (.ref ea)) (.ref (k.c.T.cA D)):=by
   obtain⟨cl,dd,dt,sl⟩:=ob
   subst Jp
   exact(Lx hob).andThen .now
  refine I.any (wpAny_handleBy_cons (codeAny_handlers_test (U0 (σ:=⟨{s₂ with heap:=h'},τ.g,τ.H⟩) z2 hE LT h2 fun h₅ grow=>?_)) nofun)
  rw[UO]
  have t3:=t2.slots z1 (acN grow)
  have hf5:=flying_keeps yP grow
  obtain⟨b₀,rfl,_⟩:=AN F (z1.KP t3 hf5.1) h3 hx2
  refine codeAny_handlers_suite (lands_againW hf5 fun h₆ aer hu6=>?_)
  obtain⟨b₁,e,K⟩:=AN F (z1.KP (t3.slots z1 hu6) aer.1) h3 hx2
  exact K))
theorem Ju.all:∀ ss:Ss,Ju ss:=by
 refine Ss.rec (motive_1:=SS) (motive_2:=Ju) ?_ ?_ ?_ ?_ ?_ ?_ ?_ ?_ ?_ ?_ ?_ ?_ ?_ ?_ ?_ ?_ ?_ ?_ ?_ ?_ ?_
 ·exact fun _=>WD
 ·exact fun _ _=>Pm
 ·exact fun _ _=>Mj
 ·exact fun _ _ _=>Mh
 ·exact fun _ _ _=>Pk
 ·exact fun _ _ _=>aap
 ·exact fun _ _ _ _=>Mi
 ·exact fun _ _ _ _=>Pl
 ·exact fun _ _ _ S T=>ac1 S T
 ·exact fun _ _ S=>Uw S
 ·exact fun _ _ _ S=>aan S
 ·exact fun _ _ _ _ S=>WC S
 ·exact fun _=>aam
 ·exact WA
 ·exact fun _ _=>Ux
 ·exact fun _ _ _ _ S=>aal S
 ·exact aao
 ·exact WB
 ·exact fun _ {k rz L σ Q X y} F z hm h=>absurd (show ao=ag from hm) cj
 ·exact Wz
 ·intro st r U T
  cases e:st.VQ with
  |false=>exact Uv e U T
  |true=>
   cases st with
   |freeze=>exact Mg T
   |_=>exact absurd e cj
end
inductive wC (az:bB) (f:Fn) (dv:av):Prop
 |no (h:f.dflt=[]) (e:dv=.none)
 |one (d:ax) (o:Obj) (n:Nat) (i:Int) (t:Tok) (e:dv=.ref d) (ho:az.get? d=aa o) (hd:o.data=.seq #[.int i t] n) (h:f.dflt=[.int i])
structure WZ (c:Cx) (f:Fn) (fd:eR) (body:ah aY):Prop where
 bd:fd.body=.stmts body
 m:OB fd.scope f.body body=ag
 kind:fd.scope.kind=.function
 co:fd.scope.isCoroutine=ao
 gen:fd.scope.isGenerator=ao
 gl:fd.globals=mainGlobals
 bl:fd.builtins=builtinsNs
 clo:fd.closure=[]
 po:fd.params.posonlyargs=[]
 ar:fd.params.args.map (·.arg)=f.ps.map dP
 va:fd.params.vararg=au
 ko:fd.params.kwonlyargs=[]
 kw:fd.params.kwarg=au
 nodup:f.ps.Nodup
 loc:∀ x∈f.ps,tO fd.scope x=ag
 QY:∀ p∈fd.scope.names,p.2≠.free
 dfl:wC c.az f fd.defaults
 code:c.az.CodeRec fd.code fd.qualname
structure NQ (c:Cx):Prop where
 fn:∀ f,∃ o fd body,c.az.get? (c.T.fA f)=aa o/\o.data=.func fd/\WZ c f fd body
 lim:c.az.NoLimit
section
variable {α:Type}{n:Str}{l:ah (Str×α)}{names:ah Str}{us:ah α}
theorem wZ {m:Str}{v:α} (h:n≠m):((m,v)::l).lookup n=l.lookup n:=by rw[L7,beq_false_of_ne h]
theorem lookup_mem:∀ {l:ah (Str×α)},n∈l.map (·.1)->∃ v,l.lookup n=aa v
 |(m,v)::l,h=>if e:n=m then⟨v,e▸SK⟩ else(wZ (l:=l) e).symm▸lookup_mem ((dT.mp h).resolve_left e)
theorem zL:∀ {names:ah Str}{us:ah α},(names.zip us).map (·.1)=names.take us.length
 |[],_=>xA.symm
 |_::_,[]=>rfl
 |n::names,_::us=>aW (n:: ·) zL
theorem M9 {m:Str}{v:α}:∀ {ns:ah Str},m∉ns->ns.filterMap (fun n=>(((m,v)::l).lookup n).map fun v=>(n,v))=ns.filterMap (fun n=>(l.lookup n).map fun v=>(n,v))
 |[],_=>rfl
 |n::ns,h=>by rw[GI,GI,wZ (l:=l) (v:=v) (fun e:n=m=>h (e▸.head _)),M9 fun q=>h (.tail _ q)]
theorem PD:∀ {names:ah Str}{us:ah α},names.Nodup->names.length=us.length->names.filterMap (fun n=>((names.zip us).lookup n).map fun v=>(n,v))=names.zip us
 |[],us,_,_=>rfl
 |n::ns,[],_,h=>by contradiction
 |n::ns,u::us,hn,h=>by
  rw[T_,GI,SK,M9 (qy.mp hn).1,PD (qy.mp hn).2 (xu h)];rfl
noncomputable def fill:ah (Str×α)->ah (Str×α)->ah (Str×α)
 |[],r=>r
 |x::l,r=>fill l (if (r.lookup x.1).isNone=ag then r++[(x.1,x.2)] else r)
theorem M_:∀ {l r:ah (Str×α)},(∀ x∈l,∃ v,r.lookup x.1=aa v)->fill l r=r
 |[],_,_=>rfl
 |x::l,r,h=>by
  obtain⟨v,e⟩:=h x (.head _)
  rw[fill,bb (by rw[e];exact cj)]
  exact M_ fun y m=>h y (.tail _ m)
theorem MV (d:α):∀ {names:ah Str}{us:ah α},names.Nodup->us.length+1=names.length->∃ z,names.drop us.length=[z]/\z∈names/\(names.zip us).lookup z=au/\names.zip us++[(z,d)]=names.zip (us++[d])
 |[z],[],_,_=>⟨z,rfl,.head _,rfl,rfl⟩
 |n::ns,u::us,hn,h=>by
  obtain⟨z,e1,e2,e3,e4⟩:=MV d (qy.mp hn).2 (xu h)
  exact⟨z,e1,.tail _ e2,(wZ fun e:z=n=>(qy.mp hn).1 (e▸e2)).trans e3,aW ((n,u):: ·) e4⟩
 |_::_::_,[],_,h=>nomatch h
end
section
variable {M:eE}{A:bF}{s:aF}{E:av->aF->Prop}
theorem Fg (f:Str×av->ah (Str×av)->Sem (ForInStep (ah (Str×av)))) (hf:∀ x r,f x r=if (r.lookup x.1).isNone=ag then pure (.yield (r++[(x.1,x.2)])) else pure (.yield r)){Q:ah (Str×av)->aF->Prop}:∀ {l r t:ah (Str×av)},fill l r=t->Q t s->aO M A (forIn l r f) Q E s
 |[],r,t,e,q=>by rw[Tu];exact bW (Eq.mp (aW (Q · s) e.symm) q)
 |x::l,r,t,e,q=>by
  rw[Gr,hf]
  exact if h:(r.lookup x.1).isNone=ag then(a8 h).symm▸bf (bW (Fg f hf ((aW (fill l) (a8 h)).symm.trans e) q)) else(bb h).symm▸bf (bW (Fg f hf ((aW (fill l) (bb h)).symm.trans e) q))
theorem RI {p:Str->aj}{l:ah Str} (h:∀ x∈l,p x=ao):¬ (!(l.filter p).isEmpty)=ag:=by
 rw[Je.mpr fun x m=>uY (h x m)]
 exact nofun
theorem DS {fd:eR}{names:ah Str}{us us' ds:ah av} (po:fd.params.posonlyargs=[]) (ar:fd.params.args.map (·.arg)=names) (va:fd.params.vararg=au) (ko:fd.params.kwonlyargs=[]) (kw:fd.params.kwarg=au)
  {Q:ah (Str×av)->aF->Prop} (hd:∀ {P:aB (bS av)->aF->Prop},(∀ o,(o.getD #[]).toList=ds->P o s)->aO M A (seqItems? fd.defaults) P E s) (hn:names.Nodup) (h1:us.length<=names.length)
  (h2:names.length-(ds.drop (ds.length-names.length)).length<=us.length) (h3:fill ((names.drop (names.length-(ds.drop (ds.length-names.length)).length)).zip (ds.drop (ds.length-names.length))) (names.zip us)=names.zip us') (h4:names.length=us'.length) (q:Q (names.zip us') s):
  aO M A (bindArgs fd ⟨us,[]⟩) Q E s:=by
 obtain⟨nm,qn,⟨p1,p2,p3,p4,p5,p6,p7⟩,bd,sc,gl,cl,df,kd,dc,pm,an,cd,ct,bl⟩:=fd
 obtain rfl:p1=[]:=po
 obtain rfl:p3=au:=va
 obtain rfl:p4=[]:=ko
 obtain rfl:p6=au:=kw
 obtain rfl:p2.map (·.arg)=names:=ar
 unfold bindArgs
 refine bf (bW ?_)
 refine bf (hd fun o e=>?_)
 rw[e]
 refine fW (fun h=>Ga.mpr h1 (ig (aU h))) (fW (RI fun n m=>?_) (bf (Fg _ (fun _ _=>rfl) h3 ?_)))
 ·obtain⟨v,e⟩:=lookup_mem (l:=(p2.map (·.arg)).zip us) (n:=n) (zL (names:=p2.map (·.arg)) (us:=us)▸(List.take_subset_take_left _ h2 m))
  exact aW Option.isNone e
 ·refine bf (bW (fW cj (bW ?_)))
  exact Eq.mp (aW (fun l=>Q l s) (((aW (List.filterMap _) (fT _)).trans (PD hn h4)).symm)) q
theorem Sh {c:Cx}{f:Fn}{fd:eR}{body:ah aY} (O:WZ c f fd body) (st:c.az.StaysIn s.heap){g:Gh}{us:ah av}{vs ws:ah V} (e:dF (er g) us vs) (hf:pJ f vs=aa ws){Q:ah (Str×av)->aF->Prop}
  (q:∀ us',dF (er g) us' ws->Q ((f.ps.map dP).zip us') s):aO M A (bindArgs fd ⟨us,[]⟩) Q E s:=by
 have hn:(f.ps.map dP).Nodup:=Gx.mpr (O.nodup.imp fun Dx he=>Dx (qi he))
 have hl:(f.ps.map dP).length=f.ps.length:=cF ..
 have all:∀ {ds:ah av},vs.length=f.ps.length->vs=ws->(∀ {P:aB (bS av)->aF->Prop},(∀ o,(o.getD #[]).toList=ds->P o s)->aO M A (seqItems? fd.defaults) P E s)->aO M A (bindArgs fd ⟨us,[]⟩) Q E s:=fun{ds} h e' hd=>by
  subst e'
  have l1:us.length=(f.ps.map dP).length:=e.length.trans (h.trans hl.symm)
  exact DS (us':=us) O.po O.ar O.va O.ko O.kw hd hn (gX l1) (aK (jc ..) (gX l1.symm)) (M_ fun x m=>lookup_mem (zL (names:=f.ps.map dP) (us:=us)▸(l1▸sH (l:=f.ps.map dP)).symm▸Ja (List.of_mem_zip m).1)) l1.symm (q us e)
 unfold pJ at hf
 cases O.dfl with
 |no h1 h2=>
  refine c7 hf (fun VW hw=>all (ds:=[]) VW (eS hw) fun h=>?_) fun _ hw=>?_
  ·rw[h2];exact bW (h au rfl)
  ·rw[h1] at hw;contradiction
 |one d o n i t e1 ho hd h1=>
  have hs:∀ {P:aB (bS av)->aF->Prop},(∀ o,(o.getD #[]).toList=[.int i t]->P o s)->aO M A (seqItems? fd.defaults) P E s:=fun h=>by rw[e1];exact wpAny_seqItems (st _ _ ho) hd (h _ rfl)
  refine c7 hf (fun VW hw=>all VW (eS hw) hs) fun _ hw=>?_
  rw[h1] at hw
  refine c7 hw (fun VW hw=>?_) fun _ hw=>by contradiction
  cases hw
  have l1:us.length+1=(f.ps.map dP).length:=(aW (· +1) e.length).trans (VW.trans hl.symm)
  obtain⟨z,z1,z2,z3,z4⟩:=MV (.int i t) hn l1
  have k1:[Value.int i t].drop ([Value.int i t].length-(f.ps.map dP).length)=[.int i t]:=aW (List.drop · [Value.int i t]) (NJ (l1▸eH (bX us.length):1<=(f.ps.map dP).length))
  have k2:(f.ps.map dP).length-1=us.length:=l1▸rfl
  refine DS (us':=us++[.int i t]) O.po O.ar O.va O.ko O.kw hs hn (l1▸Ge _) ?_ ?_ (l1.symm.trans (bN (as:=us) (bs:=[Value.int i t])).symm) (q _ (e.append (.cons ⟨t,rfl⟩ .nil)))
  ·rw[k1];exact gX k2
  ·rw[k1]
   show fill (((f.ps.map dP).drop ((f.ps.map dP).length-1)).zip _) _=_
   rw[k2,z1]
   exact(a8 (aW Option.isNone z3)).trans z4
end
namespace I
section
variable {prog:dx}{w:dQ}{A:bF}{R:fq->aF->Prop}{s:aF}
theorem Cr {a:ax}{args:Args}{o:Obj}{fd:eR}{body:ah aY} (MY:A.depth < recursionLimit) (ho:s.heap.get? a=aa o)
  (Zv:o.data=.func fd) (Xz:fd.scope.isCoroutine=ao) (aeo:fd.scope.isGenerator=ao) (acb:fd.body=.stmts body) (Zy:s.heap.CodeRec fd.code fd.qualname)
  (h:aO (model prog w) A.in1 (bindArgs fd args) (fun binds s₁=>
   aO (model prog w) A.in1 (newFunctionEnv fd.scope fd.globals fd.closure binds (fd.qualname++".<locals>.") (aa a) fd.code au fd.builtins)
    (fun env s₂=>s₂.heap.NoLimit/\iI (model prog w) A (.func body env) R s₂) (fun e s'=>R (.error e) s') s₁) (fun e s'=>R (.error e) s') s):
  iI (model prog w) A (.call (.ref a) args) R s:=by
 refine tree (fun _ _=>rfl) (any ?_)
 show aO _ A.in1 (callAny (.ref a) args) _ _ s
 unfold callAny
 refine bf (xq ho ?_)
 obtain⟨c,oc,vs,tq,hc,hoc,hdc,hq⟩:=Zy
 rw[Zv]
 show aO _ _ (callFunction a fd args) _ _ _
 unfold callFunction
 rw[Xz,aeo,acb,hc]
 rw[hc] at h
 refine bf (m:=field (.ref c) 1) (LD hoc hdc hq (bf (bW ?_)))
 exact bf (pj h (fun binds s₁ h₁=>bf (pj h₁ (fun env s₂ h₂=>bf (wpAny_enterFrame h₂.1 MY
  (bW (And.intro rfl h₂.2)))) fun _ _ h'=>h')) fun _ _ h'=>h')
theorem func {body:ah aY}{env:Env}
  (h:h_ (model prog w) (A.deeper env) (execs body env) (fun f s'=>R (.ok (.ret (match f with |.ret v=>v |_=>.none))) s')
   (fun e s'=>aO (model prog w) (A.deeper env) (leaving env e) (fun _ JQ=>R (.error e) JQ) (fun e' JQ=>R (.error e') JQ) s') s):
  iI (model prog w) A (.func body env) R s:=by
 refine tree (fun _ _=>rfl) ?_
 show h_ _ (A.deeper env) (do PySem.point;match <- (execs body env).onRaise (leaving env) with |.ret v=>ret v |_=>ret .none) _ _ s
 refine bind (point (bind (onRaise (bT h (fun f s' h'=>?_) fun _ _ h'=>any h'))))
 cases f<;>exact pure h'
end
end I
theorem uI {x:Str}:∀ {names:ah (Str×d8)}{k:Nat}{acc:ah (Str×ax)},(∃ a,acc.lookup x=aa a)->∃ a,(cellsFrom k names acc).lookup x=aa a
 |[],_,_,h=>h
 |(n,kd)::r,k,acc,h=>by
  unfold cellsFrom
  refine if e:(kd==.cell)=ag then(a8 e).symm▸uI (names:=r) ?_ else(bb e).symm▸uI h
  rw[L7]
  split
  ·exact⟨_,rfl⟩
  ·exact h
theorem uH {x:Str}:∀ {names:ah (Str×d8)}{k:Nat}{acc:ah (Str×ax)},(x,NameKind.cell)∈names->∃ a,(cellsFrom k names acc).lookup x=aa a
 |(n,kd)::r,k,acc,h=>by
  unfold cellsFrom
  refine(dT.mp h).elim (fun e=>?_) fun h=>if e:(kd==.cell)=ag then(a8 e).symm▸uH (names:=r) h else(bb e).symm▸uH h
  cases e
  exact(a8 rfl).symm▸uI ⟨k,SK⟩
structure qU (c:Cx) (K:cW) (A:bF) (fr:ah Env) (n:Nat) (C:CC) (σ:Sx) (env:Env):Prop where
 D:Gd c K
 hC:sP c n C
 hb:Yy (A.deeper env) n
 ca:Ca (A.deeper env) (env::fr)
 R:Rep c σ
 fm:Fm c fr σ
 kind:env.scope.kind=.function
 gl:env.globals=mainGlobals
 bl:env.builtins=builtinsNs
 own:∀ a∈ownOf env,σ.get a=au
 apart:∀ n n' a,(n,a)∈env.cells->(n',a)∈env.cells->n=n'
 lc:∀ n a,(n,a)∈env.cells->a≠env.locals
 co:∀ n,env.kindOf n=aa .cell∨env.kindOf n=aa .free->∃ a,env.cells.lookup n=aa a
 hf:env.frame=aa env.locals
section
variable {c:Cx}{K:cW}{A:bF}{fr:ah Env}{n:Nat}{C:CC}{σ:Sx}{env:Env}
noncomputable def qU.kx (E:qU c K A fr n C σ env):Kx:=
 {c:=c,K:=K,D:=E.D,A:=A.deeper env,env:=env,fr:=env::fr,C:=C,n:=n,own:=ownOf env,st:=σ,hC:=E.hC,hb:=E.hb,ca:=E.ca,sub:=fun _ m=>m,kind:=E.kind,gl:=E.gl,bl:=E.bl
  ob:=fun b m=>E.R.az (E.own b m),apart:=E.apart,lc:=E.lc,co:=E.co,ef:=fun f l e=>by cases e;rfl}
theorem qU.full (E:qU c K A fr n C σ env):E.kx.Full:=⟨⟨fr,rfl⟩,rfl⟩
theorem qU.start (E:qU c K A fr n C σ env){h':bB}{tk:Nat} (grow:∀ b o,σ.get b=aa o->h'.get? b=aa o){m:Str->aB av} (hn:h'.Ns env.locals m) (cl:∀ n a,(n,a)∈env.cells->∃ v,h'.IsCell a v):At E.kx b5.none (σ.up h' tk) where
 rel:=.grow E.R grow
 fm:=⟨.cons (fun e=>nomatch e.symm.trans E.kind) E.hf hn (E.R.az (E.own _ (.head _))) (nA E.fm.ff fun b _ o e=>⟨o.slots,grow b o e⟩),fun b hb=>have hb:b∈env.locals::jM fr:=vK (l:=fr) E.hf▸hb;have w:σ.Off b:=(dT.mp hb).elim (fun e=>E.R.fresh (E.own b (e▸.head _))) (E.fm.ffn b);⟨w.z,w.h,w.d⟩⟩
 loc:=fun _ _ e=>by contradiction
 own:=fun b m=>have w:=E.R.fresh (E.own b m);⟨w.z,w.h,w.d⟩
 ns:=⟨m,hn⟩
 cl:=cl
theorem Dk {k:Kx} (F:k.Full){A':bF}{E':av->aF->Prop} (f:Str×av->PUnit->Sem (ForInStep PUnit)) (hf:∀ n v u,f (n,v) u=(do storeName k.env n v;pure (.yield ⟨⟩))):
  ∀ {xs:ah Nm}{us:ah av}{ws:ah V}{L:b5}{σ:Sx},At k L σ->dF (er σ.g) us ws->xs.length=ws.length->(∀ x∈xs,tO k.sc x=ag)->aO k.M A' (forIn ((xs.map dP).zip us) PUnit.unit f) (fun u s'=>fM (GO k σ (fun L'=>L'=L.sets xs ws) ()) s') E' σ.s
 |[],us,ws,L,σ,z,_,hl,_=>by
  obtain rfl:=qO.mp hl.symm
  exact bW ⟨σ.g,σ.H,.mk L σ.s.heap σ.s.toks rfl z rfl⟩
 |x::xs,us,[],L,σ,z,e,hl,_=>by contradiction
 |x::xs,us,y::ws,L,σ,z,e,hl,hx=>by
  obtain⟨u,us,rfl,e1,e2⟩:=e.XJ
  rw[gu,T_,Gr,hf]
  refine bf (bf (pj (zW (P:=fun L'=>L'=L.set x y) z (nj F (hx x (.head _))) e1 rfl) (fun _ s' o=>bW ?_) fun _ _ w=>w))
  obtain⟨g,H,L',h',tk,e,z',rfl⟩:=o
  cases e
  exact pj (Dk F f hf (L:=L.set x y) (σ:=σ.up h' tk) z' e2 (xu hl) fun z m=>hx z (.tail _ m)) (fun _ s' ⟨g,H,o⟩=>⟨g,H,GO.from o⟩) fun _ _ w=>w
theorem ZI {f:Fn}{fd:eR}{body:ah aY} (O:WZ c f fd body) (D:Gd c K) (hC:sP c n C) (hb:∀ env,Yy (A.deeper env) n) (hd:A.handled=au) (gd:A.guards=aa []) (hfr:A.frames=aa fr) (R:Rep c σ) (F:Fm c fr σ)
  {us:ah av}{ws:ah V} (e:dF (er σ.g) us ws) (hl:f.ps.length=ws.length){qual:Str}{fa:aB ax}{cd:av}{A':bF}{E':av->aF->Prop}{Q:Env->aF->Prop}
  (q:∀ env (E:qU c K A fr n C σ env) h' tk,env.scope=fd.scope->At E.kx (b5.none.sets f.ps ws) (σ.up h' tk)->Q env (σ.up h' tk).s):
  aO (model c.prog c.w) A' (newFunctionEnv fd.scope fd.globals fd.closure ((f.ps.map dP).zip us) qual fa cd au fd.builtins) Q E' σ.s:=by
 have sz:(σ.s.heap.push {cls:=.type "frame",data:=.dict #[]}).objs.size=σ.s.heap.objs.size+1:=LZ ..
 have core:∀ cs h1,CellsOk h1 (σ.s.heap.objs.size+1) cs->(∃ m,h1.Ns σ.s.heap.objs.size m)->(∀ b o,σ.get b=aa o->h1.get? b=aa o)->(∀ {x},(x,NameKind.cell)∈fd.scope.names->∃ a,cs.lookup x=aa a)->
   aO (model c.prog c.w) A' (forIn ((f.ps.map dP).zip us) PUnit.unit (fun x _=>storeName (newEnv fd.scope σ.s.heap.objs.size fd.globals cs qual fa cd au fd.builtins) x.1 x.2>>=fun _=>pure (.yield ⟨⟩))>>=fun _=>pure (newEnv fd.scope σ.s.heap.objs.size fd.globals cs qual fa cd au fd.builtins)) Q E' {σ.s with heap:=h1}:=fun cs h1 ok hNs grow look=>by
  have fresh:∀ k,σ.s.heap.objs.size<=k->σ.get k=au:=fun k hk=>lj fun o e=>Ga.mpr hk (qw e)
  have E:qU c K A fr n C σ (newEnv fd.scope σ.s.heap.objs.size fd.globals cs qual fa cd au fd.builtins):=
   {D:=D,hC:=hC,hb:=hb _,R:=R,fm:=F,kind:=O.kind,gl:=O.gl,bl:=O.bl,hf:=rfl
    ca:=⟨hd,gd,aW (Option.map _) hfr,_,_,rfl,_,rfl⟩
    own:=fun a m=>(dT.mp m).elim (fun e=>e▸fresh _ (bD _)) fun m=>have⟨⟨n,b⟩,hm,e⟩:=l9.mp m;e▸fresh _ (L9 (ok.empty n b hm).2)
    apart:=fun n n' a h1 h2=>name_of_addr ok.apart h1 h2
    lc:=fun n a hm e=>Nat.not_succ_le_self _ ((show a=σ.s.heap.objs.size from e)▸(ok.empty n a hm).2)
    co:=fun n h=>h.elim (fun h=>look (mem_of_lookup h)) fun h=>absurd rfl (O.QY _ (mem_of_lookup h))}
  refine bf (pj (Dk (A':=A') E.full _ (fun _ _ _=>rfl) (E.start (h':=h1) (tk:=σ.s.toks) grow hNs.choose_spec fun n a hm=>⟨_,(ok.empty n a hm).1⟩) e hl fun x m=>O.loc x m) (fun _ s' o=>bW ?_) fun _ _ w=>w)
  obtain⟨g,H,L',h2,tk,e,z,rfl⟩:=o
  cases e
  exact q _ E h2 tk rfl z
 rw[O.clo]
 unfold newFunctionEnv
 exact bf (LI (bf (wpAny_layCells _ (fun _ _ _=>rfl) _ _ _ _ (core _ _ (sz▸cellsFrom_ok fd.scope.names (σ.s.heap.push {cls:=.type "frame",data:=.dict #[]}) (σ.s.heap.objs.size+1) [] ⟨fun _ _ hm=>(by contradiction),List.Pairwise.nil⟩ (gX sz.symm))
  ⟨_,(Heap.Ns.new σ.s.heap (.type "frame")).keeps (TC fd.scope.names _)⟩ (fun b o e=>TC _ _ b o (jN _ e)) uH))))
end
section
variable {c:Cx}{K:cW}{A:bF}{fr:ah Env}{n:Nat}{C:CC}{σ τ τ1:Sx}{env:Env}{X:PX}{L:b5}{s':aF}
theorem qU.aby (E:qU c K A fr n C σ env){b:ax}{o:Obj} (e:σ.get b=aa o):b∉ownOf env:=fun m=>bP (E.own b m) e
theorem qU.frs (E:qU c K A fr n C σ env){b:ax}{o:Obj} (e:σ.get b=aa o) (m:b∉jM fr):b∉jM (env::fr):=fun h=>have h:b∈env.locals::jM fr:=vK (l:=fr) E.hf▸h
 (dT.mp h).elim (fun q=>E.aby e (q▸.head _)) m
theorem qU.pop (E:qU c K A fr n C σ env) (z:At E.kx L τ):Rel c (jM fr) [] σ τ:={z.rel with
 keep:=fun b o e f _=>have w:sM (jM (env::fr)) b o τ.s.heap:=z.rel.keep b o e f (E.aby e);⟨fun m=>w.k (E.frs e m),w.slots⟩}
theorem qU.Kp (E:qU c K A fr n C σ env) (z:At E.kx L τ1) (t:Th c (jM (env::fr)) τ1 τ s'){D:Cn}{ea:ax}{a0:av}{h':bB} (f1:Heap.FlyingW τ.s.heap fr ea (.ref (c.T.cA D)) a0 h') (u:s'.heap.UpToSlots h') (hx:X D τ.H):ExC c fr σ X (.ref ea) {s' with heap:=h'}:=by
 have t2:Th c (jM (env::fr)) τ1 τ {s' with heap:=h'}:=t.slots (k:=E.kx) z u
 have r:=E.pop z
 refine .mk ea a0 D τ rfl ⟨r.le.trans t.le,t.rep,fun b o e f m=>t2.k b o ((r.keep b o e f nofun).k m) (r.off b o e f) (E.frs e m),fun b o e f m=>?_,fun b o e f=>?_,t.gens.trans r.gens,t.drawn.trans r.drawn,t.os.trans r.os⟩ f1 hx
 ·obtain⟨sl,e1⟩:=(r.keep b o e f nofun).slots
  exact t2.sl b {o with slots:=sl} e1 (r.off b o e f) (vK (l:=fr) E.hf▸.tail _ m)
 ·obtain⟨sl,e1⟩:=(r.keep b o e f nofun).slots
  exact t.off b {o with slots:=sl} e1 (r.off b o e f)
theorem qU.Rb (E:qU c K A fr n C σ env){M:eE}{e:av}{E':av->aF->Prop} (h:Jw E.kx ag (wU X) e s'):aO M (A.deeper env) (leaving env e) (fun _ JQ=>ExC c fr σ X e JQ) E' s':=by
 cases h with
 |ZE L τ1 z f=>
  obtain⟨ea,a0,D,τ,he,t,f,x⟩:=f
  subst he
  exact wpAny_leaves_onW E.ca.frames E.hf f fun h' yP u=>E.Kp z t yP u x
 |held h=>
  obtain⟨L,τ1,τ,D,ea,a0,La,he,hf,z,t,f,x⟩:=h
  subst he
  unfold leaving
  refine bf (X6 hf f.2.2.2 (wpAny_landsW f fun h' yP u=>?_))
  obtain⟨k1,k2,⟨_,_,k3⟩,k4⟩:=yP
  exact E.Kp z t ⟨k1,k2,k3,k4⟩ u x
 |made L τ1 D ea vs hr he z m gens drawn os x=>
  subst he
  refine wpAny_leaves_madeW (base:=hideAll τ1.s.heap (jM (env::fr))) E.ca.frames E.hf (fun b o q=>of_hideAll _ q) (funFrames_hide z.fm.ff fun aeC he b hb=>List.mem_filterMap.mpr ⟨aeC,he,hb⟩) m fun h' t yP _ _ u=>?_
  refine E.Kp (τ:=⟨{τ1.s with heap:=hideAll τ1.s.heap (jM (env::fr))},τ1.g,τ1.H⟩) z ⟨.refl _,z.rep.keeps (fun b o e f=>LC _ e fun hm=>f (z.fm.ffn b hm)) fun b o e=>LC _ (z.rep.stays b o e) fun hm=>bP (z.fm.ff.mem hm).1 e,fun b o e _ nm=>LC _ e nm,fun b o e _ _=>⟨o.slots,m.keeps b o e⟩,fun b o e f=>⟨f.z,f.h,f.d⟩,gens,drawn,os⟩ yP u x
theorem RB {f:Fn}{vs ws:ah V} (h:pJ f vs=aa ws):f.ps.length=ws.length:=by
 unfold pJ at h
 refine c7 h (fun e h=>eS h▸e.symm) fun _ h=>?_
 cases hd:f.dflt with
 |nil=>rw[hd] at h;contradiction
 |cons d ds=>
  rw[hd] at h
  exact c7 h (fun e h=>eS h▸e.symm.trans (bN (as:=vs) (bs:=[d])).symm) fun _ h=>by contradiction
theorem Iz (D:Gd c K) (F:NQ c) (IH:sP c n (aM n)){f:Fn}{vs:ah V}{Q:PV}{us:ah av} (h:aM (n+1) f vs σ.H Q X) (hb:W4 A (n+1)) (hd:A.handled=au) (gd:A.guards=aa []) (hfr:A.frames=aa fr) (R:Rep c σ) (fm:Fm c fr σ) (e:dF (er σ.g) us vs):
  iI (model c.prog c.w) A (.call (.ref (c.T.fA f)) ⟨us,[]⟩) (Back (OkC c fr σ Q) (ExC c fr σ X)) σ.s:=by
 obtain⟨ws,hw,h⟩:=h
 obtain⟨o,fd,body,ho,hdt,O⟩:=F.fn f
 have b1:=hb.depth
 have b2:=hb.units
 refine I.Cr (by show A.depth < 1000;exact cw [A.depth,n] bJ 0x3e823001 0x387231210406150040 b1 aQ) (R.stays _ _ ho) hdt O.co O.gen O.bd (O.code.keeps R.stays) (Sh O R.stays e hw fun us' e'=>ZI O D IH (fun env=>⟨by show A.depth+1+_<=_;exact cw [A.depth,n] bJ 0x384231006151200440 0x387231210406150040 b1 aQ,by show A.units+3+_+_<=_;exact cw [A.units,n] bJ 0x26ac233c13103c1532004440 0x26ac232813121043c1500440 b2 aQ⟩) hd gd hfr R fm e' (RB hw) fun env E h' tk hsc z=>⟨F.lim.keeps z.rep.stays,I.func ?_⟩)
 refine I.bT (Ju.all f.body E.full z (by show OB env.scope f.body body=ag;rw[hsc];exact O.m) h) (fun fl s' hh=>?_) fun ev s' hx=>E.Rb hx
 obtain⟨g',H',o⟩:=hh
 cases o with
 |next L z q=>exact .mk g' H' .none rfl (E.pop z) q
 |brk L z q=>exact q.elim
 |cont L z q=>exact q.elim
 |ret L v x e z q=>exact .mk g' H' x e (E.pop z) q
theorem Nq (D:Gd c K) (F:NQ c):∀ n,sP c n (aM n)
 | 0=>fun f vs σ Q X h=>h.elim
 |n+1=>fun f vs σ Q X h A fr us hb ca R fm e=>Iz D F (Nq D F n) h hb ca.hd ca.gd ca.frames R fm e
end
theorem Ze {o:aB (aB av)}{i:Int} (h:isI o i=ag):∃ t,o=aa (aa (.int i t)):=
 uw h fun o h=>uw h fun v h=>HB h fun j t h=>eq_of_beq (a:=j) (b:=i) h▸⟨t,rfl⟩
theorem Vt {α:Type}{o:aB α}{p:α->aj} (h:o.all p=ag){x:α} (e:o=aa x):p x=ag:=by subst e;exact h
theorem ach {c:Cx}{K:cW} (X:K.In c.az) (hT:c.T=dR) (h:good K=ag):Gd c K:=by
 have h:=aU h
 have hC:=BC (p:=Ic K) (aU (aU h))
 have hF:=BB (p:=w8 K) (bx (aU h))
 have h:=bx h
 have hG:=aU (aU (aU h))
 have hB:=l_.mp (bx (aU (aU h)))
 obtain⟨prog,w,az,T⟩:=c
 cases(show T=dR from hT)
 have exc:∀ C:Cn,C.isExc=ag->M4 K C=ag:=fun C e=>(md.mp (bx (aU (hC C)))).elim (fun q=>absurd e (uY (not_of q))) id
 exact
  {inb:=X
   cls:=fun C hf=>by
    have h:=(md.mp (aU (aU (hC C)))).elim (fun q=>absurd (uU.mp q) hf) id
    exact
     {ga:=eq_of_beq (ir (ir (aU h)))
      sa:=eq_of_beq (bx (ir (ir h)))
      ng:=eq_of_beq (bx (ir (aU (aU (aU h)))))
      pl:=bx (ir (aU (aU h)))
      hd:=bx (ir (aU h))
      fld:=fun f m=>eq_of_beq (l_.mp (bx (ir h)) f m)
      mks:=bx (aU (aU (aU h)))
      ini:=fun f e=>eq_of_beq (Vt (bx (aU (aU h))) e)
      bk:=fun m f e=>eq_of_beq (w9 (P:=fun m f=>VP (findIn K (.ref (dR.cA C)) (dP m)) (.ref (dR.fA f))) (bx (aU h)) e)
      clk:=bx h}
   fnk:=fun f=>⟨aU (aU (aU (hF f))),bx (aU (aU (hF f)))⟩
   gk:=fun n i e=>Ze (w9 (P:=fun n i=>isI (nsIn K mainGlobals (dP n)) i) hG e)
   gf:=fun f t=>(md.mp (bx (aU (hF f)))).elim (fun q=>absurd t (uY (not_of q))) eq_of_beq
   gc:=fun C=>eq_of_beq (bx (hC C))
   gb:=fun b=>have q:XC K b=ag:=hB b (by cases b<;>repeat first |exact .head _ |apply List.Mem.tail);⟨eq_of_beq (aU q),eq_of_beq (bx q)⟩
   gr:=⟨eq_of_beq (bx (aU h)),eq_of_beq (bx h)⟩
   exc:=fun C e=>aU (aU (exc C e))
   exk:=fun C e=>bx (aU (exc C e))
   exm:=fun C D e e'=>(md.mp (BC (p:=fun D=>!D.isExc || exmOne K (.ref (dR.cA C)) (.ref (dR.cA D))==aa (C.under D)) (bx (exc C e)) D)).elim (fun q=>absurd e' (uY (not_of q))) eq_of_beq}
section
variable {az:bB}{K:cW}{f:Fn}{v:av}{q:Str}
theorem Su {x:V}{j:Int} (h:kq x=aa j):x=.int j:=by
 cases x with
 |int=>cases h;rfl
 |_=>contradiction
theorem ZJ (X:K.In az) (h:M5 K f v=ag):wC az f v:=
 (md.mp h).elim (fun h=>.no (uU.mp (aU h)) (eq_of_beq (bx h))) fun h=>Ak (P:=fun v=>wC az f v) h fun d h=>uw (P:=fun y=>K.lookup d=y->wC az f (.ref d)) h (fun o h e=>by
  obtain⟨oc,od,dt,sl⟩:=o
  refine QN (P:=fun dt=>K.lookup d=aa ⟨oc,od,dt,sl⟩->wC az f (.ref d)) h (fun ds n h e=>?_) e
  obtain⟨l⟩:=ds
  refine rA (P:=fun l=>K.lookup d=aa ⟨oc,od,.seq ⟨l⟩ n,sl⟩->wC az f (.ref d)) h (fun w h e=>?_) e
  refine HB (P:=fun w=>K.lookup d=aa ⟨oc,od,.seq ⟨[w]⟩ n,sl⟩->wC az f (.ref d)) h (fun i t h e=>?_) e
  refine rA (P:=fun l=>f.dflt=l->wC az f (.ref d)) h (fun x h q=>?_) rfl
  refine uw (P:=fun y=>kq x=y->wC az f (.ref d)) h (fun j h r=>?_) rfl
  exact .one d _ n i t rfl (X _ _ e) rfl (q.trans (by rw[Su r,eq_of_beq h]))) rfl
theorem Nc:∀ {a b:ah Nat},V5 a b=ag->a=b
 |[],_,h=>(uU.mp h).symm
 |_::_,[],h=>by contradiction
 |x::a,y::b,h=>by cases Jd (aU h);rw[Nc (bx h)]
theorem YH {a b:Str} (h:V5 a.cps.toList b.cps.toList=ag):a=b:=by
 obtain⟨a⟩:=a
 obtain⟨b⟩:=b
 exact aW Str.mk (Array.ext' (Nc h))
theorem V9 (X:K.In az) (h:Ib K v q=ag):az.CodeRec v q:=
 Ak (P:=fun v=>az.CodeRec v q) h fun c h=>uw (P:=fun y=>K.lookup c=y->az.CodeRec (.ref c) q) h (fun o h e=>by
  obtain⟨oc,od,dt,sl⟩:=o
  refine Vz (P:=fun dt=>K.lookup c=aa ⟨oc,od,dt,sl⟩->az.CodeRec (.ref c) q) h (fun vs h e=>?_) e
  refine uw (P:=fun y=>vs[1]? =y->az.CodeRec (.ref c) q) h (fun w h r=>?_) rfl
  exact QI (P:=fun w=>vs[1]? =aa w->az.CodeRec (.ref c) q) h (fun q' t h r=>by cases YH h;exact⟨_,_,vs,t,rfl,X _ _ e,rfl,r⟩) r) rfl
theorem HA {α:Type}{o:aB α} (h:o.isNone=ag):o=au:=Option.isNone_iff_eq_none.mp h
theorem acm {c:Cx} (X:K.In c.az){fd:eR}{body:ah aY} (hb:fd.body=.stmts body) (h:Rx K f fd=ag) (s:rD f (fd.scope,fd.params,body)=ag):WZ c f fd body:=
 {bd:=hb,m:=aU (ir (ir (aU (aU s)))),kind:=eq_of_beq (bx (ir (ir (aU (aU s))))),co:=not_of (bx (ir (ir (aU s)))),gen:=not_of (bx (ir (ir s))),po:=uU.mp (bx (ir (aU (aU (aU s))))),ar:=eq_of_beq (bx (ir (aU (aU s)))),va:=HA (bx (ir (aU s))),ko:=uU.mp (bx (ir s)),kw:=HA (bx (aU (aU (aU s)))),nodup:=ig (bx (aU (aU s))),loc:=l_.mp (bx (aU s)),QY:=fun p m=>l7.mp (l_.mp (bx s) p m),gl:=eq_of_beq (ir h),bl:=eq_of_beq (bx (aU (aU (aU h)))),clo:=uU.mp (bx (aU (aU h))),dfl:=ZJ X (bx (aU h)),code:=V9 X (bx h)}
theorem aa8 {P:Inf->aj}{fd:eR} (h:o1 (Ks fd) P=ag):∃ body,fd.body=.stmts body/\P (fd.scope,fd.params,body)=ag:=by
 unfold Ks at h
 cases hb:fd.body with
 |stmts b=>rw[hb] at h;exact⟨b,rfl,h⟩
 |expr b=>rw[hb] at h;contradiction
theorem ZD {c:Cx} (X:K.In c.az) (hT:c.T=dR) (h:good K=ag) (lim:c.az.NoLimit):NQ c:=by
 have hF:=BB (p:=w8 K) (bx (aU (aU h)))
 have hS:=BB (p:=fun f=>o1 (XS K (dR.fA f)) (rD f)) (bx h)
 refine⟨fun f=>?_,lim⟩
 refine uw (P:=fun y=>K.lookup (dR.fA f)=y->_) (bx (hF f)) (fun o h e=>?_) rfl
 obtain⟨oc,od,dt,sl⟩:=o
 refine Vy (P:=fun dt=>K.lookup (dR.fA f)=aa ⟨oc,od,dt,sl⟩->_) h (fun fd h e=>?_) e
 have s:=hS f
 unfold XS at s
 rw[e] at s
 obtain⟨body,hb,s⟩:=aa8 (fd:=fd) s
 exact⟨_,fd,body,hT▸X _ _ e,rfl,acm X hb h s⟩
end
theorem Hs:∀ {os:ah Obj}{i:Nat}{as:ah Nat}{a:Nat}{o:Obj},((a:ax),o)∈pick i as os->∃ j,a=i+j/\os[j]? =aa o/\o.isFreed=ao
 |[],i,as,a,o,h=>absurd h uV
 |x::os,i,[],a,o,h=>absurd h uV
 |x::os,i,b::as,a,o,h=>by
  have step:∀ {as},((a:ax),o)∈pick (i+1) as os->∃ j,a=i+j/\(x::os)[j]? =aa o/\o.isFreed=ao:=fun h=>have⟨j,e,r⟩:=Hs h;⟨j+1,e.trans (iD i 1 j),r⟩
  have h:((a:ax),o)∈cond (Nat.beq i b) (cond x.isFreed (pick (i+1) as os) ((b,x)::pick (i+1) as os)) (pick (i+1) (b::as) os):=h
  cases e:Nat.beq i b with
  |false=>rw[e] at h;exact step h
  |true=>
   rw[e] at h
   cases hf:x.isFreed with
   |true=>rw[hf] at h;exact step h
   |false=>
    rw[hf] at h
    refine(dT.mp h).elim (fun q=>?_) step
    cases q
    exact⟨0,(Jd e).symm,rfl,hf⟩
theorem Q5 {K:cW}{a:ax}{o:Obj} (h:K.lookup a=aa o):(a,o)∈K:=by
 induction K with
 |nil=>contradiction
 |cons p K ih=>
  rw[L7] at h
  split at h
  ·rename_i q;cases h;rw[eq_of_beq q];exact .head _
  ·exact .tail _ (ih h)
theorem Ve (as:ah Nat) (h:bB):Frag.In (pick 0 as h.objs.toList) h:=fun a o e=>by
 obtain⟨j,e,h2,h3⟩:=Hs (Q5 e)
 rw[jF] at e
 subst e
 exact Heap.get?_some_iff.mpr ⟨(BH ..).symm.trans h2,h3⟩
theorem KA {s:aF} (e:good (pick 0 Q2 s.heap.objs.toList)=ag):∃ K:cW,K.In s.heap/\good K=ag:=⟨_,Ve _ _,e⟩
open _root_.PySem.Sem (wp)
theorem NV {M:eE}{t:Sem Fin}{R:fq->aF->Prop}{s:aF} (h:h_ M callerA t (fun fin s'=>∃ f,fin=.done f/\R (.ok f) s') (fun e s'=>R (.error e) s') s) (p:Pos):
  wp M ⟨.builtin "claim.caller" {},au,au,[],au⟩ t (Sem.finPost M ⟨.builtin "claim.caller" {},au,au,[],au⟩ R) (fun e _ s'=>R (.error e) s') p s:=by
 refine BJ M _ t (fun fin p' s' h'=>?_) (fun _ _ _ h'=>h') p s (h _ p caller_in (fun _ _=>by rfl) fun x hx=>by contradiction)
 obtain⟨f,rfl,hf⟩:=h'
 exact hf
theorem P5 {prog:dx}{w:dQ}{t:Sem Fin}{s:aF}{R:fq->aF->Prop} (aec:s.asleep)
  (h:h_ (model prog w) callerA t (fun fin s'=>∃ f,fin=.done f/\(R (.ok f) s'/\leftWithCleanup s'.gens=ao)) (fun e s'=>R (.error e) s'/\leftWithCleanup s'.gens=ao) s):
  ∃ n r s' JQ,runN (denote table) prog w n s ⟨t,.builtin "claim.caller" {},default,[]⟩=.halted (outcomeOf r) s'/\
   schedN (denote table) prog w n (.single s ⟨t,.builtin "claim.caller" {},default,[]⟩)=.halted (outcomeOf r) s'/\s'.forget=JQ.forget/\R r JQ:=by
 obtain⟨n,r,s₁,s₂,hs,hn,hfo,hR⟩:=wp_halts_full (M:=model prog w) (R:=R) aec (NV (R:=fun r s'=>R r s'/\leftWithCleanup s'.gens=ao) h default)
 exact⟨n,r,s₂,s₁,hn,hs,hfo,hR⟩
theorem KR {c:ClaimW}{tree:ah av->Sem Fin}{w:dQ}{s:aF}{free:ax->Prop}{gens:Prop}{br:bB->Prop} (hz:s.asleep) (x9:s.gens=#[])
  (abV:∀ args,c.pre args=ag->WData.layableAll args=ag->∀ ord:ah cI->ah cI,(∀ l,(ord l).Perm l)->
   ∃ vs s₁,layAllW c.records (classAt s.heap) w.params ord args s=aa (vs,s₁)/\
    h_ (model c.prog w) callerA (tree vs) (fun fin s'=>∃ f,fin=.done f/\(c.Ends s args vs s₁ (.ok f) s'/\s'.os=s.os/\AllBare s'.gens/\br s'.heap))
     (fun e s'=>c.Ends s args vs s₁ (.error e) s'/\s'.os=s.os/\AllBare s'.gens/\br s'.heap) s₁):
  c.CallFrom (fun vs=>⟨tree vs,.builtin "claim.caller" {},default,[]⟩) w free gens br s:=by
 intro args E9 Ru ord Rr
 obtain⟨vs,s₁,x8,ab_⟩:=abV args E9 Ru ord Rr
 have Jq:=layAllW_rest _ _ _ x8
 obtain⟨k,r,s',JQ,Ky,Zj,hfo,Rv,hos,hkp⟩:=P5 (prog:=c.prog) (w:=w) (t:=tree vs) (s:=s₁) (R:=fun r s'=>c.Ends s args vs s₁ r s'/\s'.os=s.os/\br s'.heap)
  (Shared.asleep_of_life Jq.2.2.2 hz)
  (I.bT ab_ (fun fin s' ⟨f,e,h1,h2,h3,h4⟩=>⟨f,e,⟨h1,h2,h4⟩,acM h3⟩) fun e s' ⟨h1,h2,h3,h4⟩=>⟨⟨h1,h2,h4⟩,acM h3⟩)
 obtain⟨eh,_,_,eo,_⟩:=Shared.forget_eq hfo
 have Rv:=Rv.congr eh
 have hkp:br s'.heap:=eh▸hkp
 rw[<- eo] at hos
 have ab4:s'.heap.life=s.heap.life:=(runN_life _ _ _ Ky).trans Jq.2.2.2
 refine⟨vs,s₁,x8,k,_,s',Zj,?_,(fun _ i x hx=>by rw[x9] at hx;simp at hx),hkp,by rw[ab4],Shared.rest_eq hos⟩
 exact Or.imp (fun h=>Exists.imp (fun v h=>⟨aW outcomeOf h.1,h.2.1,h.2.2.1,h.2.2.2.1,fun b o y _=>h.2.2.2.2.1 b o y,h.2.2.2.2.2⟩) h)
  (fun h=>Exists.imp (fun e h=>Exists.imp (fun ob h=>Exists.imp (fun cls h=>⟨aW outcomeOf h.1,h.2.1,h.2.2.1,h.2.2.2.1,h.2.2.2.2.1,fun b o y _=>h.2.2.2.2.2 b o y⟩) h) h) h) Rv
abbrev Yt (q:dx) (loose:ah Str) (XP:(Str->aB av)->bB->Prop) (YP:dQ->bB->Prop) (r:RowW) (d:DefRec) (kwd:ah (Str×ay)) (run:av->ah av->Sem av):Prop:=
 ∀ (w:dQ) (s₀ s₁:aF) (mg mb:Str->aB av),Ground q loose r.records XP w s₀ mg mb s₁.heap->YP w s₁.heap->∀ (a:ax),mg d.name=aa (.ref a)->s₁.gens=#[]->
  ∀ (args:ah WData) (vals:ah av) (as:ah ax),r.claim.pre args=ag->WData.layableAll args=ag->Laid r.records w s₀ s₁ args vals as->
   h_ (model r.prog w) callerA (run (.ref a) vals) (fun v s'=>GoodWG r.claim (classAt s₀.heap) (ExcName.means s₀.heap) args s₁ (.ok (.ret v)) s')
    (fun e s'=>GoodWG r.claim (classAt s₀.heap) (ExcName.means s₀.heap) args s₁ (.error e) s') s₁
theorem PySem.W.holds_open {r:OpenRow}{q:dx}{loose:ah Str}{Xt:aF->aj}{XP:(Str->aB av)->bB->Prop}{α:Type}{Yf:aF->α}{Ya:dQ->α}{YP:dQ->bB->Prop}{d:DefRec}{kwd:ah (Str×ay)}{N:Nat}
  (left:LeftO r.prog q loose Xt Yf Ya N) (hY:∀ w s,Yf s=Ya w->YP w s.heap) (hYk:∀ w h h',YP w h->(∀ b o,h.get? b=aa o->h'.get? b=aa o)->YP w h')
  (hX:∀ s,Xt s=ag->XP (s.heap.nsMap mainGlobals) s.heap) (hXk:∀ mg h h',XP mg h->(∀ b o,h.get? b=aa o->h'.get? b=aa o)->XP mg h')
  (Zt:defOf q r.name=aa (d,kwd)) (hp:r.prog.theDef r.name=aa (d.params,d.body,d.scope)) (hk:kwWritten? d.params.kwonlyargs d.params.kw_defaults=aa kwd) (hRf:∀ s,Xt s=ag->RecFacts r.records s.heap) (UP:(!r.writes || r.records.isEmpty)=ag)
  (k1:r.wellSaid=ag) (ok:(chainsOk q&&opensWell r.prog&&(frees r.toRowW&&r.within.isEmpty))=ag) (hb:r.prog.bare) (hw:r.toRowW.promised)
  (call:Yt q loose XP YP r.toRowW d kwd fun f vs=>_root_.PySem.call f vs):r.Holds:=by
 refine⟨k1,hw,?_⟩
 obtain⟨ok,k5⟩:=ed.mp ok
 obtain⟨hch,o1⟩:=ed.mp ok
 obtain⟨k5,k6⟩:=ed.mp k5
 obtain⟨Xs,hu,ha,hap,hm⟩:=frees_parts k5
 refine⟨⟨hb,o1,by show r.makers.map _=[];rw[hm];rfl⟩,hw.witness,fun w=>⟨(left.behind hX hch w).1,fun s' hs'=>?_⟩⟩
 obtain⟨s₀,hf,hg0,s,hT,hz,x9,hg,Po,y⟩:=(left.behind (XP:=fun mg h=>XP mg h/\RecFacts r.records h) (fun s hs=>⟨hX s hs,hRf s hs⟩) hch w).2 s' hs'
 have G0:Ground q loose [] XP w s (s.heap.nsMap mainGlobals) (s.heap.nsMap builtinsNs) s.heap:=⟨Po.T,Po.B,Po.D,Po.TE,Po.TD,Po.W,Po.X.1,Po.cls,Po.has,Po.apart,Po.once,Po.K⟩
 have RF:=Po.X.2
 have hT':=hT
 refine⟨s₀,hf,hg0,s,hT,(fun n hn=>by
  obtain rfl:n=r.name:=by split at hn<;>simp_all
  exact pinned_of_view hg G0 Zt hp hk),RF.1,RF.2.1,?_⟩
 have x9:s.gens=#[]:=Array.eq_empty_of_size_eq_zero (uR.mp x9)
 have G:Ground q loose r.records XP w s _ _ s.heap:=RF.ground G0
 refine KR (c:=r.toRowW.claim) hz x9 fun args E9 Ru ord Rr=>?_
 obtain⟨⟨vs,s₁⟩,x8⟩:=Yl.mp (layAllW_isSome (P:=w.params) (ord:=ord) G.has args r.args s (pre_splitW E9).1)
 have keeps:=layAllW_keeps _ _ _ x8
 have Jq:=layAllW_rest _ _ _ x8
 obtain⟨as,hrd,hin,hold⟩:=reads_layAllW Rr _ _ _ x8 Ru s₁.heap (fun _ _ e=>e)
 have L:Laid r.records w s s₁ args vs as:=⟨⟨ord,Rr,x8⟩,hrd,hin,hold,keeps,Jq.1.trans x9,Jq.2.2.1⟩
 have G₁:=G.keeps hXk keeps
 obtain⟨a,o,pm,cd,doc,dV,kV,h1,_⟩:=G₁.fn Zt
 have h:=call w s s₁ _ _ G₁ (hYk _ _ _ (hY w s y) keeps) a (defOf_name Zt▸h1) L.gens args vs as E9 Ru L
 have hi:=ident_freeW hu ha hap
 have hwi:r.toRowW.claim.within=[]:=uU.mp k6
 refine⟨vs,s₁,x8,I.bind (I.any (wpAny_nsGet G₁.T.g ?_))⟩
 rw[show(s.heap.nsMap mainGlobals) r.name=aa (.ref a) from h1]
 exact I.bind (I.bT h (fun v s' g=>I.pure ⟨_,rfl,have z:=g.laid (c:=r.toRowW.claim) Xs hwi hi L;⟨z.1,z.2.1,z.2.2,fun q=>⟨namesKept_of hT' hg _ keeps g.2.1.old,noTable UP q⟩⟩⟩)
  fun e s' g=>have z:=g.laid (c:=r.toRowW.claim) Xs hwi hi L;⟨z.1,z.2.1,z.2.2,fun q=>⟨namesKept_of hT' hg _ keeps g.2.1.old,noTable UP q⟩⟩)
open _root_.PySem _root_.PyProof.Rows
theorem Hp.set_set (H:Hp) (a:ax) (o p:Mo):(H.set a o).set a p=H.set a p:=by
 funext b
 show(if b=a then aa p else(if b=a then aa o else H b))=if b=a then aa p else H b
 split<;>rfl
theorem le_refl (H:Hp):H.le H:=fun _ _ h=>h
theorem le_trans {a b c:Hp} (x:a.le b) (y:b.le c):a.le c:=fun _ _ h=>y _ _ (x _ _ h)
theorem a_ {H:Hp}{a b:ax}{o:Mo} (h:H a=aa o) (k:H b=au):a≠b:=fun e=>by rw[e,k] at h;contradiction
theorem f5 {H H1:Hp}{a:ax}{o:Mo} (l:H.le H1) (h:H a=au):H.le (H1.set a o):=fun b p e=>(bb (a_ e h)).trans (l _ _ e)
theorem iB {H:Hp}{a:ax}{o:Mo} (h:H a=au):H.le (H.set a o):=f5 (le_refl H) h
theorem VJ {H H1:Hp}{a:ax} (l:H.le H1) (h:H a=au):H.le (H1.drop a):=fun b p e=>(bb (a_ e h)).trans (l _ _ e)
theorem aN {H:Hp}{a:ax}{o:Mo}:(H.set a o) a=aa o:=a8 rfl
theorem bZ {H:Hp}{a b:ax}{o p:Mo} (n:b≠a) (h:H b=aa p):(H.set a o) b=aa p:=(bb n).trans h
section
variable {H:Hp}{ad:ax}{D:Cn}{fs:ah (Nm×V)}{f:Nm}{xs:ah V}{d:ah aA}
theorem M8 (h:H ad=aa (.inst D fs)):RA H f (.ref ad)=eG fs f:=by
 show((H ad).bind Mo.RD).bind _=_
 rw[h];rfl
theorem Fc (h:H ad=aa (.i_ fs)):OO H f (.ref ad)=eG fs f:=by
 show((H ad).bind Mo.ZK).bind _=_
 rw[h];rfl
theorem EZ (h:H ad=aa (.bE xs)):(H ad).bind Mo.tv=aa xs:=by rw[h];rfl
theorem acE (h:H ad=aa (.ba d)):(H ad).bind Mo.ba?=aa d:=by rw[h];rfl
theorem Lu (h:(H ad).bind Mo.tv=aa xs):H ad=aa (.bE xs):=by
 cases e:H ad with
 |none=>rw[e] at h;contradiction
 |some o=>rw[e] at h;cases o with
  |bE=>cases h;rfl
  |_=>contradiction
theorem fU (h:H ad=aa (.bE xs)):listOf H (.ref ad)=aa xs:=EZ h
theorem XK (h:H ad=aa (.inst D fs)):A6 H (.ref ad)=aa D:=by
 show(H ad).bind Mo.cls?=_
 rw[h];rfl
theorem XM (h:H ad=aa (.bE xs)):A6 H (.ref ad)=au:=by
 show(H ad).bind Mo.cls?=_
 rw[h];rfl
theorem XN (h:H ad=aa (.ba d)):A6 H (.ref ad)=au:=by
 show(H ad).bind Mo.cls?=_
 rw[h];rfl
theorem Ri (h:H ad=aa (.bE xs)):kindB H (.ref ad)=aa ag:=by
 show(H ad).bind Mo.kind?=_
 rw[h];rfl
theorem Rj (h:H ad=aa (.ba d)):kindB H (.ref ad)=aa ao:=by
 show(H ad).bind Mo.kind?=_
 rw[h];rfl
theorem P4 (h:H ad=aa (.bE xs)) (hl:xs.length<=line):truth H (.ref ad)=aa (!xs.isEmpty):=by
 show((H ad).bind Mo.tv).bind Ko=_
 rw[h];exact a8 hl
theorem QX (h:H ad=aa (.bE xs)):norm H (.ref ad)=.bE xs:=by
 unfold norm;rw[fU h];rfl
end
theorem lX {α:Type}{xs:ah α}{p:Nat}{u:α} (h:xs[p]? =aa u):p < xs.length:=(Yp.mp h).1
theorem YT {n p:Nat}{i:Int} (hi:i=p) (h:p < n) (hl:n<=line):Ac n i=aa p/\fits i:=by
 unfold line at hl
 subst hi
 refine⟨?_,by unfold fits;exact fw [p,n] 0x110110110040011000040001 R0 rI 0x100000043100 h hl aQ⟩
 unfold Ac
 rw[a8 (gw _),a8 (sE.mpr h)];rfl
theorem Va {n:Nat} (h:0 < n):Ac n (-1)=aa (n-1)/\fits (-1):=by
 refine⟨?_,by unfold fits;decide⟩
 unfold Ac
 rw[bb (by decide),a8 (by exact cw [n] bJ 0x12800183 33 h aQ)];congr 1;exact gg [] 0x1200000112844201 [n] 0x11001100400110110011000600110011001100070120201100110040011000011006001900190011000701202001 0x30102 33 h aQ
theorem gT {n d:Nat}{i:Int}{p:Nat} (hi:i=p) (hp:p<=n) (hn:n<=line):bound n d (.int i)=aa p:=by
 subst hi
 unfold line at hn
 show Bj n p=_
 unfold Bj
 rw[a8 (by exact fw [p,n] 0x110110110040011000040001 R0 dO 0x100000043100 hp hn aQ),clipAt_nat,dK hp]
theorem vR {α:Type} (xs:ah α) (k:Nat):cut xs k xs.length=xs.drop k:=by
 unfold cut;exact mv (by rw[fJ];exact bD _)
theorem Ik {α:Type} (xs:ah α) (k:Nat):cut xs 0 k=xs.take k:=rfl
theorem gj {α:Type} (xs:ah α) (k q:Nat):(cut xs k q).length<=xs.length:=by
 unfold cut;rw[eX,fJ];exact aK (je _ _) (jc _ _)
def PE (C:CC) (L:b5) (H:Hp) (e:E) (v:V):Prop:=∀ (Q:PV) (X:PX),Q v H->wE C e L H Q X
def GU (C:CC) (L:b5) (H:Hp) (e:Es) (v:ah V):Prop:=∀ (Q:ah V->Hp->Prop) (X:PX),Q v H->wEs C e L H Q X
def PB (C:CC) (L:b5) (H:Hp) (k:aj) (e:Es) (v:V):Prop:=∀ (Q:PV) (X:PX),Q v H->wB C k e L H Q X
def GN (C:CC) (L:b5) (H:Hp) (e:E) (n:Nat):Prop:=∀ (Q:PV) (X:PX),(∀ s:Str,s.length<=n->Q (.str s) H)->wE C e L H Q X
def NO (C:CC) (L:b5) (H:Hp) (e:Es):Prop:=∀ (Q:ah V->Hp->Prop) (X:PX),(∀ vs,Q vs H)->wEs C e L H Q X
def i9 (C:CC) (rz:aj) (r:Ss) (Q:PO) (X:fk):PO:=Mt (fun L1 H1=>wSs C rz r L1 H1 Q X) Q
theorem gi {α:Type}{v:α}{k:α->Prop} (h:k v):Got (aa v) k:=⟨v,rfl,h⟩
theorem i2 {i j:Int}{k:Int->Int->Prop} (h:k i j):oY (.int i) (.int j) k:=⟨i,rfl,j,rfl,h⟩
theorem E8 {α:Type}{xs:ah α}{k:Nat}{u:α}{P:α->Prop} (h:xs[k]? =aa u) (hl:xs.length<=line) (z:P u):Got (kq (.int k)) fun i=>Idx xs i P:=
 have a:=YT (n:=xs.length) (p:=k) (i:=k) rfl (lX h) hl
 ⟨k,rfl,k,u,a.2,a.1,h,z⟩
theorem AI {α:Type}{xs:ah α}{u:α}{P:α->Prop} (h:xs.getLast?=aa u) (z:P u):Got (kq (.int (-1))) fun i=>Idx xs i P:=by
 rw[D0] at h
 have a:=Va (n:=xs.length) (cE (bX _) (lX h))
 exact⟨-1,rfl,_,u,a.2,a.1,h,z⟩
theorem Rm {H:Hp}{ad:ax}{v:V}{xs:ah V}{P:V->Prop} (g:H ad=aa (.bE xs)) (h:Got (kq v) fun i=>Idx xs i P):Got (kq v) fun i=>Got ((H ad).bind Mo.tv) fun xs=>Idx xs i P:=
 have⟨i,e,q⟩:=h;⟨i,e,xs,EZ g,q⟩
theorem M' {H:Hp}{b:ax}{bs d:ah aA}{Q:PV} (h:H b=aa (.ba bs)) (hl:bs.length+d.length<=line) (q:Q .none (H.set b (.ba (bs++d)))):rq ao (.ref b) .jS [.bytes d] H Q:=⟨b,rfl,d,rfl,bs,h,hl,q⟩
theorem Rg {H:Hp}{b:ax}{xs:ah V}{x:V}{Q:PV} (h:H b=aa (.bE xs)) (hl:xs.length < line) (q:Q .none (H.set b (.bE (xs++[x])))):rq ag (.ref b) .dg [x] H Q:=⟨b,rfl,xs,h,hl,q⟩
section
variable {C:CC}{rz:aj}{H:Hp}{L:b5}{r a b:Ss}{e c:E}{es:Es}{v u w:V}{x f m:Nm}{i j:Int}{t:aj}{ad:ax}{D:Cn}{fs:ah (Nm×V)}{d d2:ah aA}{xs ys vs:ah V}{k p q:Nat}
theorem iO:PE C L H .none .none:=fun _ _ q=>q
theorem fG:PE C L H (.bool t) (.bool t):=fun _ _ q=>q
theorem aH:PE C L H (.int i) (.int i):=fun _ _ q=>q
theorem gR {bs:ah Nat}:PE C L H (.bytes bs) (.bytes (bs.map UInt8.ofNat)):=fun _ _ q=>q
theorem ai (h:L x=aa v):PE C L H (.aC x) v:=fun _ _ q=>⟨v,h,q⟩
theorem bw (h:Ry x=aa i):PE C L H (.glob x) (.int i):=fun _ _ q=>⟨i,h,q⟩
theorem gF (p:PE C L H e v) (h:v=w):PE C L H e w:=h▸p
theorem eW (p:PE C L H e (.int i)) (h:i=j):PE C L H e (.int j):=h▸p
theorem aP (p:PE C L H e (.ref ad)) (h:H ad=aa (.inst D fs)) (g:eG fs f=aa v):PE C L H (.aV e f) v:=fun Q X q=>p _ _ ⟨v,(M8 h).trans g,q⟩
theorem bI (p:PE C L H e (.obj D fs)) (g:eG fs f=aa v):PE C L H (.aV e f) v:=fun Q X q=>p _ _ ⟨v,g,q⟩
theorem bp (p:PE C L H e (.ref ad)) (h:H ad=aa (.i_ fs)) (g:eG fs f=aa v):PE C L H (.key e f) v:=fun Q X q=>p _ _ ⟨v,(Fc h).trans g,q⟩
theorem lS (p:PE C L H e v) (h:truth H v=aa t):PE C L H (.kL e) (.bool !t):=fun Q X q=>p _ _ ⟨t,h,q⟩
theorem QA (p:PE C L H e v) (h:truth H v=aa t){a b:E} (q:PE C L H (if t=ag then a else b) w):PE C L H (.ite e a b) w:=fun Q X z=>p _ _ ⟨t,h,by
 cases t
 ·exact q _ _ z
 ·exact q _ _ z⟩
theorem jC (p:PE C L H e (.int i)) (q:PE C L H c (.int j)):PE C L H (.bR .add e c) (.int (i+j)):=fun Q X z=>p _ _ (q _ _ (gi z))
theorem dM (p:PE C L H e (.int (k:Nat))):PE C L H (.bR .add e (.int 1)) (.int ((k+1:Nat):Int)):=fun Q X z=>p _ _ (gi (k:=fun j=>_) z)
theorem Vs (p:PE C L H e (.int i)):PE C L H (.bR .add e (.int j)) (.int (i+j)):=fun Q X z=>p _ _ (gi (k:=fun j=>_) z)
theorem cS (p:PE C L H e (.int (k:Nat))) (g:PE C L H c (.int (q:Nat))):PE C L H (.bR .add e c) (.int ((k+q:Nat):Int)):=fun Q X z=>p _ _ (g _ _ (gi z))
theorem jb (p:PE C L H e (.int i)) (q:PE C L H c (.int j)):PE C L H (.bR .sub e c) (.int (i-j)):=fun Q X z=>p _ _ (q _ _ (i2 z))
theorem Ez (p:PE C L H e (.int i)) (q:PE C L H c (.int j)) (hi:small i) (hj:small j):PE C L H (.bR .mul e c) (.int (i*j)):=fun Q X z=>p _ _ (q _ _ (gi ⟨hi,hj,z⟩))
theorem ML (p:PE C L H e (.int i)) (q:PE C L H c (.int j)) (h1:0 < j) (h2:j < 1073741824):PE C L H (.bR .fdiv e c) (.int (i / j)):=fun Q X z=>p _ _ (q _ _ (i2 ⟨h1,h2,z⟩))
theorem rj (p:PE C L H e (.int i)) (q:PE C L H c (.int j)) (h1:0 < j):PE C L H (.bR .mod e c) (.int (i % j)):=fun Q X z=>p _ _ (q _ _ (i2 ⟨h1,z⟩))
theorem sZ (p:PE C L H e (.int (k:Nat))) (z:PE C L H c (.int (q:Nat))):PE C L H (.bR .band e c) (.int ((k&&& q:Nat):Int)):=fun Q X y=>p _ _ (z _ _ (i2 ⟨gw _,gw _,y⟩))
theorem ED (p:PE C L H e (.int (k:Nat))) (z:PE C L H c (.int (q:Nat))):PE C L H (.bR .bor e c) (.int ((k |||q:Nat):Int)):=fun Q X y=>p _ _ (z _ _ (i2 ⟨gw _,gw _,y⟩))
theorem Ag (p:PE C L H e (.int (k:Nat))) (z:PE C L H c (.int (q:Nat))) (h1:small k) (h2:(q:Int)<=100):PE C L H (.bR .shl e c) (.int ((k <<< q:Nat):Int)):=fun Q X y=>p _ _ (z _ _ (i2 ⟨gw _,h1,gw _,h2,y⟩))
theorem YW (p:PE C L H e (.int (k:Nat))) (z:PE C L H c (.int (q:Nat))) (h2:(q:Int)<=100):PE C L H (.bR .shr e c) (.int ((k >>> q:Nat):Int)):=fun Q X y=>p _ _ (z _ _ (i2 ⟨gw _,gw _,h2,y⟩))
theorem zw (p:PE C L H e (.bytes d)) (q:PE C L H c (.bytes d2)) (h:d.length+d2.length<=line):PE C L H (.bR .add e c) (.bytes (d++d2)):=fun Q X z=>p _ _ (q _ _ (gi ⟨h,z⟩))
theorem Vj (p:PE C L H e (.bytes d)) (q:PE C L H c (.int j)) (h1:0<=j) (h2:j<=100) (h3:d≠[]) (h4:d.length<=16):PE C L H (.bR .mul e c) (.bytes (List.replicate j.toNat d).flatten):=fun Q X z=>p _ _ (q _ _ (gi ⟨h1,h2,h3,h4,z⟩))
theorem oB (p:PE C L H e (.bE xs)) (q:PE C L H c (.bE ys)) (h:xs.length+ys.length<=line):PE C L H (.bR .add e c) (.bE (xs++ys)):=fun Q X z=>p _ _ (q _ _ ⟨xs,ys,rfl,rfl,h,z⟩)
theorem eL (p:PE C L H e (.int i)) (q:PE C L H c (.int j)):PE C L H (.cB e .lt c) (.bool (decide (i < j))):=fun Q X z=>p _ _ (q _ _ (i2 z))
theorem Xg (p:PE C L H e (.int i)) (q:PE C L H c (.int j)):PE C L H (.cB e .le c) (.bool (decide (i<=j))):=fun Q X z=>p _ _ (q _ _ (i2 z))
theorem kn (p:PE C L H e (.int i)) (q:PE C L H c (.int j)):PE C L H (.cB e .gt c) (.bool (decide (j < i))):=fun Q X z=>p _ _ (q _ _ (i2 z))
theorem nh (p:PE C L H e (.int i)) (q:PE C L H c (.int j)):PE C L H (.cB e .ge c) (.bool (decide (j<=i))):=fun Q X z=>p _ _ (q _ _ (i2 z))
theorem cU (p:PE C L H e (.int i)) (q:PE C L H c (.int j)):PE C L H (.cB e .eq c) (.bool (decide (i=j))):=fun Q X h=>p _ _ (q _ _ ⟨_,rfl,h⟩)
theorem kI (p:PE C L H e (.int i)) (q:PE C L H c (.int j)):PE C L H (.cB e .ne c) (.bool (!decide (i=j))):=fun Q X h=>p _ _ (q _ _ ⟨_,rfl,h⟩)
theorem QD (p:PE C L H e v) (q:PE C L H c w) (h:tM 6 (norm H v) (norm H w)=aa t):PE C L H (.cB e .eq c) (.bool t):=fun Q X z=>p _ _ (q _ _ ⟨_,h,z⟩)
theorem iG (p:PE C L H e v) (q:PE C L H c w) (h:tM 6 (norm H v) (norm H w)=aa t):PE C L H (.cB e .ne c) (.bool !t):=fun Q X z=>p _ _ (q _ _ ⟨_,h,z⟩)
theorem YX (p:PE C L H e (.int i)):PE C L H (.cB e .is_ .none) (.bool ao):=fun Q X z=>p _ _ ⟨rfl,z⟩
theorem qg (p:PE C L H e .none):PE C L H (.cB e .lH .none) (.bool ao):=fun Q X z=>p _ _ ⟨rfl,z⟩
theorem QB (p:PE C L H e (.int i)):PE C L H (.cB e .lH .none) (.bool ag):=fun Q X z=>p _ _ ⟨rfl,z⟩
theorem YZ (p:PE C L H e (.bytes d)):PE C L H (.cB e .lH .none) (.bool ag):=fun Q X z=>p _ _ ⟨rfl,z⟩
theorem YY (p:PE C L H e (.obj D fs)):PE C L H (.cB e .lH .none) (.bool ag):=fun Q X z=>p _ _ ⟨rfl,z⟩
theorem iW {w:aA} (p:PE C L H e (.bytes d)) (q:PE C L H c (.int k)) (h:d[k]? =aa w) (hl:d.length<=line):PE C L H (.idx e c) (.int w.toNat):=fun Q X z=>p _ _ (q _ _ (E8 h hl z))
theorem gG (p:PE C L H e (.bE xs)) (q:PE C L H c (.int k)) (h:xs[k]? =aa u) (hl:xs.length<=line):PE C L H (.idx e c) u:=fun Q X z=>p _ _ (q _ _ (E8 h hl z))
theorem sY (p:PE C L H e (.tup xs)) (q:PE C L H c (.int k)) (h:xs[k]? =aa u) (hl:xs.length<=line):PE C L H (.idx e c) u:=fun Q X z=>p _ _ (q _ _ (E8 h hl z))
theorem Vn (p:PE C L H e (.ref ad)) (g:H ad=aa (.bE xs)) (q:PE C L H c (.int k)) (h:xs[k]? =aa u) (hl:xs.length<=line):PE C L H (.idx e c) u:=fun Q X z=>p _ _ (q _ _ (Rm g (E8 h hl z)))
theorem Ah (p:PE C L H e (.bE xs)) (h:xs.getLast?=aa u):PE C L H (.idx e (.neg (.int 1))) u:=fun Q X z=>p _ _ ⟨1,rfl,AI h z⟩
theorem vA (p:PE C L H e (.ref ad)) (g:H ad=aa (.bE xs)) (h:xs.getLast?=aa u):PE C L H (.idx e (.neg (.int 1))) u:=fun Q X z=>p _ _ ⟨1,rfl,Rm g (AI h z)⟩
theorem JW {t:aj}{lo hi:E} (p:PE C L H e (.bytes d)) (g:PE C L H lo (.int k)) (h:PE C L H hi (.int q)) (hp:k<=d.length) (hq:q<=d.length) (hl:d.length<=line):PE C L H (.slice t e lo hi) (.bytes (cut d k q)):=fun Q X z=>p _ _ (g _ _ (h _ _ ⟨k,q,hl,gT rfl hp hl,gT rfl hq hl,z⟩))
theorem MH {t:aj} (p:PE C L H e (.bytes d)) (g:PE C L H c (.int k)) (hp:k<=d.length) (hl:d.length<=line):PE C L H (.slice t e c .none) (.bytes (d.drop k)):=fun Q X z=>p _ _ (g _ _ ⟨k,d.length,hl,gT rfl hp hl,rfl,by rw[vR];exact z⟩)
theorem Vg {t:aj} (p:PE C L H e (.bytes d)) (g:PE C L H c (.int k)) (hp:k<=d.length) (hl:d.length<=line):PE C L H (.slice t e .none c) (.bytes (d.take k)):=fun Q X z=>p _ _ (g _ _ ⟨0,k,hl,rfl,gT rfl hp hl,z⟩)
theorem JV {lo hi:E} (p:PE C L H e (.bE xs)) (g:PE C L H lo (.int k)) (h:PE C L H hi (.int q)) (hp:k<=xs.length) (hq:q<=xs.length) (hl:xs.length<=line):PE C L H (.slice ag e lo hi) (.bE (cut xs k q)):=fun Q X z=>p _ _ (g _ _ (h _ _
 ⟨k,q,hl,gT rfl hp hl,gT rfl hq hl,aK (gj _ _ _) hl,z⟩))
theorem zt (p:PE C L H e (.bE xs)) (g:PE C L H c (.int k)) (hp:k<=xs.length) (hl:xs.length<=line):PE C L H (.slice ag e c .none) (.bE (xs.drop k)):=fun Q X z=>p _ _ (g _ _
 ⟨k,xs.length,hl,gT rfl hp hl,rfl,aK (gj _ _ _) hl,by rw[vR];exact z⟩)
theorem Ew (p:PE C L H e (.bE xs)) (g:PE C L H c (.int k)) (hp:k<=xs.length) (hl:xs.length<=line):PE C L H (.slice ag e .none c) (.bE (xs.take k)):=fun Q X z=>p _ _ (g _ _
 ⟨0,k,hl,rfl,gT rfl hp hl,aK (gj _ _ _) hl,z⟩)
theorem aE:GU C L H .nil []:=fun _ _ q=>q
theorem aq (p:PE C L H e v) (g:GU C L H es vs):GU C L H (.cons e es) (v::vs):=fun _ _ q=>p _ _ (g _ _ q)
theorem cG (p:GU C L H es vs) (h:vs.length<=line):PE C L H (.list ag es) (.bE vs):=fun _ _ q=>p _ _ ⟨h,q⟩
theorem dw (p:GU C L H es vs) (h:vs.length<=line):PE C L H (.tuple es) (.tup vs):=fun _ _ q=>p _ _ ⟨h,q⟩
theorem a9 {k:aj} (p:PB C L H k es v):PE C L H (.b7 k es) v:=p
theorem cP {k:aj} (p:PE C L H e v):PB C L H k (.cons e .nil) v:=p
theorem jl {e2:E} (p:PE C L H e v) (h:truth H v=aa ao):PB C L H ag (.cons e (.cons e2 es)) v:=fun Q X q=>p _ _ ⟨_,h,q⟩
theorem ni {e2:E} (p:PE C L H e v) (h:truth H v=aa ag):PB C L H ao (.cons e (.cons e2 es)) v:=fun Q X q=>p _ _ ⟨_,h,q⟩
theorem dJ {k:aj}{e2:E} (p:PE C L H e u) (h:truth H u=aa k) (g:PB C L H k (.cons e2 es) v):PB C L H k (.cons e (.cons e2 es)) v:=fun Q X q=>p _ _ ⟨_,h,by rw[TR];exact g _ _ q⟩
theorem eB (p:PE C L H e (.bytes d)) (h:d.length<=line):PE C L H (.bc .len (.cons e .nil)) (.int d.length):=fun Q X q=>p _ _ ⟨h,q⟩
theorem eY (p:PE C L H e (.bE xs)) (h:xs.length<=line):PE C L H (.bc .len (.cons e .nil)) (.int xs.length):=fun Q X q=>p _ _ ⟨h,q⟩
theorem oy (p:PE C L H e (.ref ad)) (g:H ad=aa (.bE xs)) (h:xs.length<=line):PE C L H (.bc .len (.cons e .nil)) (.int xs.length):=fun Q X q=>p _ _ ⟨xs,EZ g,h,q⟩
theorem Vp (p:PE C L H e (.int i)) (h1:0<=i) (h2:i<=1000000):PE C L H (.bc .bytes (.cons e .nil)) (.bytes (List.replicate i.toNat 0)):=fun Q X q=>p _ _ ⟨h1,h2,q⟩
theorem MM (p:PE C L H e (.bytes d)):PE C L H (.bc .bytes (.cons e .nil)) (.bytes d):=fun Q X q=>p _ _ q
theorem oA {is:ah Int} (p:PE C L H e (.bE xs)) (h1:intsOf xs=aa is) (h2:octets is=aa d) (h3:d.length<=1000):PE C L H (.bc .bytes (.cons e .nil)) (.bytes d):=fun Q X q=>p _ _ ⟨is,h1,d,h2,h3,q⟩
theorem EC (p:PE C L H e (.ref ad)) (g:H ad=aa (.ba d)) (h:d.length<=line):PE C L H (.bc .bytes (.cons e .nil)) (.bytes d):=fun Q X q=>p _ _ ⟨d,acE g,h,q⟩
theorem JX (p:PE C L H e (.int i)) (q:PE C L H c (.int j)):PE C L H (.bc .min (.cons e (.cons c .nil))) (.int (min i j)):=fun Q X z=>p _ _ (q _ _ (i2 z))
theorem Qz (p:PE C L H e (.int i)) (q:PE C L H c (.int j)):PE C L H (.bc .max (.cons e (.cons c .nil))) (.int (max i j)):=fun Q X z=>p _ _ (q _ _ (i2 z))
theorem YV (p:PE C L H e (.bytes d)) (h:d.length<=1000000):PE C L H (.bc .sum (.cons e .nil)) (.int (d.map (fun u=>(u.toNat:Int))).sum):=fun Q X q=>p _ _ (gi ⟨h,q⟩)
theorem sX (p:PE C L H e v) (h:listOf H v=aa xs) (hl:xs.length<=line):PE C L H (.bc .tuple (.cons e .nil)) (.tup xs):=fun Q X q=>p _ _ ⟨xs,h,hl,q⟩
theorem la:GN C L H .cK 1000:=fun Q X q=>q
theorem Qs (p:PE C L H e (.int i)) (h:small i):GN C L H (.bc .str (.cons e .nil)) 1000:=fun Q X q=>p _ _ (gi ⟨h,q⟩)
theorem JU (p:GN C L H e k) (z:GN C L H c q) (h:k+q<=Mv):GN C L H (.bR .add e c) (k+q):=fun Q X y=>p _ _ fun s hs=>z _ _ fun t ht=>gi ⟨aK (fS hs ht) h,fun u hu=>y u (aK hu (fS hs ht))⟩
theorem YU:NO C L H .nil:=fun Q X q=>q _
theorem zr (p:GN C L H e k) (g:NO C L H es):NO C L H (.cons e es):=fun Q X q=>p _ _ fun s _=>g _ _ fun vs=>q _
theorem Qt (p:PE C L H e (.int i)) (h:small i):GN C L H (.fmt e) 1000:=fun Q X q=>p _ _ ⟨i,rfl,h,q⟩
theorem Vc (p:NO C L H es):GN C L H (.gO es) 16000:=fun Q X q=>p _ _ fun vs=>q
end
section
variable {C:CC}{rz:aj}{Q:PO}{X:fk}{H:Hp}{L:b5}{r a b:Ss}{e c:E}{es:Es}{v u w y:V}{x f m:Nm}{i j:Int}{t:aj}{ad:ax}{D:Cn}{fs:ah (Nm×V)}{d d2:ah aA}{xs ys vs:ah V}{k p q:Nat}{F:Fn}{Qv:PV}{Xv:PX}
theorem abM (p:PE C L H e v) (q:Qv v H):wE C e L H Qv Xv:=p _ _ q
theorem bQ (p:GU C L H es vs) (k:C F vs H Qv Xv):wE C (.bL F es) L H Qv Xv:=p _ _ k
theorem rB (k:wEs C es L H (fun vs H1=>C F vs H1 Qv Xv) Xv):wE C (.bL F es) L H Qv Xv:=k
theorem bH (p:PE C L H e (.ref ad)) (h:H ad=aa (.inst D fs)) (g:rp D m=aa F) (z:GU C L H es vs) (k:C F (.ref ad::vs) H Qv Xv):wE C (.bk e m es) L H Qv Xv:=p _ _ (by rw[XK h];exact⟨F,g,z _ _ k⟩)
theorem AH (p:PE C L H e (.ref ad)) (h:H ad=aa (.inst D fs)) (g:rp D m=aa F) (k:wEs C es L H (fun vs H1=>C F (.ref ad::vs) H1 Qv Xv) Xv):wE C (.bk e m es) L H Qv Xv:=p _ _ (by rw[XK h];exact⟨F,g,k⟩)
theorem VN (p:PE C L H e (.obj D fs)) (g:rp D m=aa F) (z:GU C L H es vs) (k:C F (.obj D fs::vs) H Qv Xv):wE C (.bk e m es) L H Qv Xv:=p _ _ ⟨F,g,z _ _ k⟩
theorem oW (p:PE C L H e (.ref ad)) (h:H ad=aa (.bE xs)) (z:PE C L H c y) (hl:xs.length < line) (k:Qv .none (H.set ad (.bE (xs++[y])))):wE C (.bk e .dg (.cons c .nil)) L H Qv Xv:=p _ _ (by
 rw[XM h]
 exact⟨ag,Ri h,rfl,z _ _ ⟨ad,rfl,xs,h,hl,k⟩⟩)
theorem VO (p:PE C L H e (.ref ad)) (h:H ad=aa (.bE xs)) (k:wE C c L H (fun y H1=>rq ag (.ref ad) .dg [y] H1 Qv) Xv):wE C (.bk e .dg (.cons c .nil)) L H Qv Xv:=p _ _ (by
 rw[XM h]
 exact⟨ag,Ri h,rfl,k⟩)
theorem w6 (p:PE C L H e (.ref ad)) (h:H ad=aa (.ba d)) (z:PE C L H c (.int i)) (h1:0<=i) (h2:i<=255) (hl:d.length < line) (k:Qv .none (H.set ad (.ba (d++[UInt8.ofNat i.toNat])))):wE C (.bk e .dg (.cons c .nil)) L H Qv Xv:=p _ _ (by
 rw[XN h]
 exact⟨ao,Rj h,rfl,z _ _ ⟨ad,rfl,i,rfl,d,h,h1,h2,hl,k⟩⟩)
theorem E5 (p:PE C L H e (.ref ad)) (h:H ad=aa (.ba d)) (k:wE C c L H (fun y H1=>rq ao (.ref ad) .jS [y] H1 Qv) Xv):wE C (.bk e .jS (.cons c .nil)) L H Qv Xv:=p _ _ (by
 rw[XN h]
 exact⟨ao,Rj h,rfl,k⟩)
theorem Kr (p:PE C L H e (.ref ad)) (h:H ad=aa (.ba d)) (z:PE C L H c (.bytes d2)) (hl:d.length+d2.length<=line) (k:Qv .none (H.set ad (.ba (d++d2)))):wE C (.bk e .jS (.cons c .nil)) L H Qv Xv:=E5 p h (z _ _ ⟨ad,rfl,d2,rfl,d,h,hl,k⟩)
theorem lV (z:GU C L H es vs) (g:rC D=aa F) (k:∀ a,H a=au->C F (.ref a::vs) (H.set a (.inst D [])) (fun r H2=>r=.none/\Qv (.ref a) H2) Xv):wE C (.new ao D es) L H Qv Xv:=z _ _ ⟨F,g,fun a ha=>k a ha⟩
theorem Rl (k:∀ a,H a=au->Qv (.ref a) (H.set a (.ba []))):wE C (.bc .bytearray .nil) L H Qv Xv:=k
theorem abN (z:PE C L H e (.bytes d)) (h:d.length<=line) (k:∀ a,H a=au->Qv (.ref a) (H.set a (.ba d))):wE C (.bc .bytearray (.cons e .nil)) L H Qv Xv:=z _ _ (gi ⟨h,k⟩)
theorem iH (z:GU C L H es vs) (h:vs.length<=line) (k:∀ a,H a=au->Qv (.ref a) (H.set a (.bE vs))):wE C (.list ao es) L H Qv Xv:=z _ _ ⟨h,k⟩
theorem YD {Ql:ah V->Hp->Prop} (k:Ql [] H):wEs C .nil L H Ql Xv:=k
theorem q7 {Ql:ah V->Hp->Prop} (p:PE C L H e v) (k:wEs C es L H (fun vs H2=>Ql (v::vs) H2) Xv):wEs C (.cons e es) L H Ql Xv:=p _ _ k
theorem Ed {Ql:ah V->Hp->Prop} (k:wE C e L H (fun x H1=>wEs C es L H1 (fun vs H2=>Ql (x::vs) H2) Xv) Xv):wEs C (.cons e es) L H Ql Xv:=k
theorem bG (k:Q .next L H):wSs C rz .nil L H Q X:=k
theorem bC (k:wSs C rz r L H Q X):i9 C rz r Q X .next L H:=k
theorem Hj {s:S} (k:wS C rz s L H (i9 C rz r Q X) X):wSs C rz (.cons s r) L H Q X:=k
theorem bo (k:wE C e L H (fun v H1=>flat v=ag/\wSs C rz r L H1 Q X) (fun c H1=>X c L H1)):wSs C rz (.cons (.expr e) r) L H Q X:=k
theorem aR (p:PE C L H e v) (k:wSs C rz r (L.set x v) H Q X):wSs C rz (.cons (.bz x e) r) L H Q X:=p _ _ k
theorem bM (k:wE C e L H (fun v H1=>wSs C rz r (L.set x v) H1 Q X) (fun c H1=>X c L H1)):wSs C rz (.cons (.bz x e) r) L H Q X:=k
theorem Oo {ns:ah Nm} (p:PE C L H e (.tup vs)) (h:ns.length=vs.length) (k:wSs C rz r (L.sets ns vs) H Q X):wSs C rz (.cons (.jA ns e) r) L H Q X:=p _ _ ⟨h,k⟩
theorem kG {ns:ah Nm} (k:wE C e L H (fun v H1=>qK ag ns v L fun L1=>wSs C rz r L1 H1 Q X) (fun c H1=>X c L H1)):wSs C rz (.cons (.jA ns e) r) L H Q X:=k
theorem cT (p:PE C L H c y) (z:PE C L H e (.ref ad)) (h:H ad=aa (.inst D fs)) (hl:fs.length < 100) (hf:f∈fieldsOf D) (k:wSs C rz r L (H.set ad (.inst D (cL fs f y))) Q X):wSs C rz (.cons (.setAttr e f c) r) L H Q X:=p _ _ (z _ _ ⟨ad,D,fs,rfl,h,hl,hf,k⟩)
theorem eP (k:wE C c L H (fun y H1=>wE C e L H1 (fun x H2=>xK x H2 f y fun H3=>wSs C rz r L H3 Q X) (fun c H1=>X c L H1)) (fun c H1=>X c L H1)):wSs C rz (.cons (.setAttr e f c) r) L H Q X:=k
theorem yK (z:PE C L H e (.ref ad)) (h:H ad=aa (.inst D fs)) (hl:fs.length < 100) (hf:f∈fieldsOf D) (k:wSs C rz r L (H.set ad (.inst D (cL fs f y))) Q X):wE C e L H (fun x H2=>xK x H2 f y fun H3=>wSs C rz r L H3 Q X) Xv:=z _ _ ⟨ad,D,fs,rfl,h,hl,hf,k⟩
theorem iM (p:PE C L H c y) (z:PE C L H e (.ref ad)) (h:H ad=aa (.i_ fs)) (hl:fs.length < 100) (k:wSs C rz r L (H.set ad (.i_ (cL fs f y))) Q X):wSs C rz (.cons (.c4 e f c) r) L H Q X:=p _ _ (z _ _ ⟨ad,fs,rfl,h,hl,k⟩)
theorem mM (k:wE C c L H (fun y H1=>wE C e L H1 (fun x H2=>zg x H2 f y fun H3=>wSs C rz r L H3 Q X) (fun c H1=>X c L H1)) (fun c H1=>X c L H1)):wSs C rz (.cons (.c4 e f c) r) L H Q X:=k
theorem Dv (z:PE C L H e (.ref ad)) (h:H ad=aa (.i_ fs)) (hl:fs.length < 100) (k:wSs C rz r L (H.set ad (.i_ (cL fs f y))) Q X):wE C e L H (fun x H2=>zg x H2 f y fun H3=>wSs C rz r L H3 Q X) Xv:=z _ _ ⟨ad,fs,rfl,h,hl,k⟩
theorem bj (p:PE C L (H.set ad (.inst D fs)) c y) (z:PE C L (H.set ad (.inst D fs)) e (.ref ad)) (hl:fs.length < 100) (hf:f∈fieldsOf D) (k:wSs C rz r L (H.set ad (.inst D (cL fs f y))) Q X):wSs C rz (.cons (.setAttr e f c) r) L (H.set ad (.inst D fs)) Q X:=cT p z aN hl hf (by rw[Hp.set_set];exact k)
theorem f_ (p:PE C L (H.set ad (.i_ fs)) c y) (z:PE C L (H.set ad (.i_ fs)) e (.ref ad)) (hl:fs.length < 100) (k:wSs C rz r L (H.set ad (.i_ (cL fs f y))) Q X):wSs C rz (.cons (.c4 e f c) r) L (H.set ad (.i_ fs)) Q X:=iM p z aN hl (by rw[Hp.set_set];exact k)
theorem abn {op:Bo} (h:L x=aa u) (p:PE C L H e v) (k:Bz op u v fun z=>wSs C rz r (L.set x z) H Q X):wSs C rz (.cons (.aug x op e) r) L H Q X:=⟨u,h,p _ _ k⟩
theorem Et (h:L x=aa (.int i)) (p:PE C L H e (.int j)) (k:wSs C rz r (L.set x (.int (i+j))) H Q X):wSs C rz (.cons (.aug x .add e) r) L H Q X:=⟨_,h,p _ _ (i2 k)⟩
theorem YO (h:L x=aa (.int (p:Nat))) (z:PE C L H e (.int (q:Nat))) (k:wSs C rz r (L.set x (.int ((p |||q:Nat):Int))) H Q X):wSs C rz (.cons (.aug x .bor e) r) L H Q X:=⟨_,h,z _ _ (i2 ⟨gw _,gw _,k⟩)⟩
theorem YN (h:L x=aa (.int (p:Nat))) (z:PE C L H e (.int (q:Nat))) (g:(q:Int)<=100) (k:wSs C rz r (L.set x (.int ((p >>> q:Nat):Int))) H Q X):wSs C rz (.cons (.aug x .shr e) r) L H Q X:=⟨_,h,z _ _ (i2 ⟨gw _,gw _,g,k⟩)⟩
theorem ur (z:PE C L H e (.ref ad)) (h:H ad=aa (.inst D fs)) (g:eG fs f=aa (.int i)) (p:PE C L H c (.int j)) (hl:fs.length < 100) (hf:f∈fieldsOf D) (k:wSs C rz r L (H.set ad (.inst D (cL fs f (.int (i+j))))) Q X):wSs C rz (.cons (.ic e f .add c) r) L H Q X:=
 z _ _ ⟨_,(M8 h).trans g,p _ _ (i2 ⟨ad,D,fs,rfl,h,hl,hf,k⟩)⟩
theorem Om (z:PE C L H e (.ref ad)) (h:H ad=aa (.i_ fs)) (g:eG fs f=aa (.int i)) (p:PE C L H c (.int j)) (hl:fs.length < 100) (k:wSs C rz r L (H.set ad (.i_ (cL fs f (.int (i+j))))) Q X):wSs C rz (.cons (.sm e f .add c) r) L H Q X:=
 z _ _ ⟨_,(Fc h).trans g,p _ _ (i2 ⟨ad,fs,rfl,h,hl,k⟩)⟩
theorem Ol (z:PE C L H e (.ref ad)) (h:H ad=aa (.i_ fs)) (g:eG fs f=aa (.int i)) (p:PE C L H c (.int j)) (hl:fs.length < 100) (k:wSs C rz r L (H.set ad (.i_ (cL fs f (.int (i-j))))) Q X):wSs C rz (.cons (.sm e f .sub c) r) L H Q X:=
 z _ _ ⟨_,(Fc h).trans g,p _ _ (i2 ⟨ad,fs,rfl,h,hl,k⟩)⟩
theorem c5 (p:PE C L H c v) (h:truth H v=aa ag) (k:wSs C rz a L H (i9 C rz r Q X) X):wSs C rz (.cons (.dp c a b) r) L H Q X:=p _ _ ⟨_,h,k⟩
theorem mi (p:PE C L H c v) (h:truth H v=aa ao) (k:wSs C rz b L H (i9 C rz r Q X) X):wSs C rz (.cons (.dp c a b) r) L H Q X:=p _ _ ⟨_,h,k⟩
theorem bK (p:PE C L H c v) (h:truth H v=aa ao) (k:wSs C rz r L H Q X):wSs C rz (.cons (.dp c a .nil) r) L H Q X:=p _ _ ⟨_,h,k⟩
theorem Hl (p:PE C L H c v) (h:truth H v=aa t) (k1:t=ag->wSs C rz a L H (i9 C rz r Q X) X) (k2:t=ao->wSs C rz b L H (i9 C rz r Q X) X):wSs C rz (.cons (.dp c a b) r) L H Q X:=by
 cases t
 ·exact mi p h (k2 rfl)
 ·exact c5 p h (k1 rfl)
theorem q_ {z:Prop} [cN z] (p:PE C L H c (.bool (decide z))) (k1:z->wSs C rz a L H (i9 C rz r Q X) X) (k2:¬ z->wSs C rz b L H (i9 C rz r Q X) X):wSs C rz (.cons (.dp c a b) r) L H Q X:=
 Hl p rfl (fun h=>k1 (ig h)) (fun h=>k2 (GC h))
theorem z8 (k:wE C c L H (fun v H1=>Got (truth H1 v) fun t=>cond t (wSs C rz a L H1 (i9 C rz r Q X) X) (wSs C rz b L H1 (i9 C rz r Q X) X)) (fun c H1=>X c L H1)):wSs C rz (.cons (.dp c a b) r) L H Q X:=k
theorem cy (p:PE C L H e v) (k:Q (.ret v) L H):wSs C rz (.cons (.ret e) r) L H Q X:=p _ _ k
theorem gM (k:wE C e L H (fun v H1=>Q (.ret v) L H1) (fun c H1=>X c L H1)):wSs C rz (.cons (.ret e) r) L H Q X:=k
theorem Qh (k:Q (.ret .none) L H):wSs C rz (.cons .yH r) L H Q X:=k
theorem ou {n:Nat} (p:GN C L H e n) (k:X D L H):wSs C ag (.cons (.cC D e) r) L H Q X:=p _ _ fun s _=>⟨rfl,⟨s,rfl⟩,k⟩
theorem rb (h:L x=aa (.ref ad)) (g:H ad=aa (.bE xs)) (k:wSs C rz r (L.set x (.bE xs)) (H.drop ad) Q X):wSs C rz (.cons (.freeze x) r) L H Q X:=⟨ad,xs,h,g,k⟩
theorem tK (p:PE C L H e v) (h:gN H v=aa xs) (k:Loop x v xs (fun L H Q X=>wSs C ao b L H Q X) (i9 C rz r Q X) X L H):wSs C rz (.cons (.uE x e b) r) L H Q X:=p _ _ ⟨xs,h,k⟩
theorem zp (p:PE C L H c (.int j)) (h1:-(2 ^ 62)<=j) (h2:j < 2 ^ 62) (k:B_ x (fun L H Q X=>wSs C ao b L H Q X) (i9 C rz r Q X) X (j-0).toNat 0 L H):wSs C rz (.cons (.forR x .none c b) r) L H Q X:=p _ _ ⟨0,j,rfl,rfl,by decide,by decide,h1,h2,k⟩
theorem YL {lo:E} (g:PE C L H lo (.int i)) (p:PE C L H c (.int j)) (hn:lo.yL=ao) (h3:-(2 ^ 62)<=i) (h4:i < 2 ^ 62) (h1:-(2 ^ 62)<=j) (h2:j < 2 ^ 62) (k:B_ x (fun L H Q X=>wSs C ao b L H Q X) (i9 C rz r Q X) X (j-i).toNat i L H):wSs C rz (.cons (.forR x lo c b) r) L H Q X:=g _ _ (p _ _ ⟨i,j,by rw[hn];rfl,rfl,h3,h4,h1,h2,k⟩)
theorem cb {p:Prop} [cN p] (h:¬ p):truth H (.bool (decide p))=aa ao:=aW aa (dW h)
theorem dC {p:Prop} [cN p] (h:p):truth H (.bool (decide p))=aa ag:=aW aa (c9 h)
theorem mZ {p:Prop} [cN p] (h:p):truth H (.bool (!decide p))=aa ao:=aW (fun b=>aa (!b)) (c9 h)
theorem xX {p:Prop} [cN p] (h:¬ p):truth H (.bool (!decide p))=aa ag:=aW (fun b=>aa (!b)) (dW h)
theorem W_ {p:Prop} [cN p] {A B:Prop} (k1:p->A) (k2:¬ p->B):Got (truth H (.bool (decide p))) fun t=>cond t A B:=by
 by_cases h:p
 ·exact⟨ag,dC h,k1 h⟩
 ·exact⟨ao,cb h,k2 h⟩
end
theorem bA {n:Nat}{f:Fn}{vs ws:ah V}{H:Hp}{Q:PV}{X:PX} (h:pJ f vs=aa ws) (k:wSs (aM n) ag f.body (b5.none.sets f.ps ws) H (Ck Q) (wU X)):aM (n+1) f vs H Q X:=⟨ws,h,k⟩
section
variable {n:Nat}{rz:aj}{L:b5}{H:Hp}{Q:PO}{X:fk}
theorem vg {d:E}{b:Ss} (J:Nat->b5->Hp->Prop) (k:Nat) (h0:J k L H)
  (step:∀ k L H,J k L H->wE (aM n) d L H (fun v H1=>Got (truth H1 v) fun t=>cond t (wSs (aM n) ao b L H1 (mj (fun L H=>∃ j,j < k/\J j L H) Q) X) (Q .next L H1)) (fun c H1=>X c L H1)):wS (aM n) rz (.kD d b) L H Q X:=⟨J,k,h0,step⟩
theorem Az {x:Nm}{src:V}{b:Ss}{full:ah V} (J:ah V->b5->Hp->Prop)
  (step:∀ v r L H,J (v::r) L H->gN H src=aa full/\wSs (aM n) ao b (L.set x v) H (mj (J r) Q) X)
  (done:∀ L H,J [] L H->gN H src=aa full/\Q .next L H) (h0:J full L H):Loop x src full (fun L H Q X=>wSs (aM n) ao b L H Q X) Q X L H:=⟨J,h0,done,step⟩
theorem OC {x:Nm}{b:Ss}{m:Nat}{i:Int} (J:Nat->Int->b5->Hp->Prop)
  (step:∀ m i L H,J (m+1) i L H->wSs (aM n) ao b (L.set x (.int i)) H (mj (J m (i+1)) Q) X)
  (done:∀ i L H,J 0 i L H->Q .next L H) (h0:J m i L H):B_ x (fun L H Q X=>wSs (aM n) ao b L H Q X) Q X m i L H:=⟨J,h0,done,step⟩
theorem Y9 {x:Nm}{src v:V}{b:Ss} (h:gN H src=aa [v]) (k:wSs (aM n) ao b (L.set x v) H (mj (fun L H=>gN H src=aa [v]/\Q .next L H) Q) X):Loop x src [v] (fun L H Q X=>wSs (aM n) ao b L H Q X) Q X L H:=
 ⟨fun r L' H'=>(r=[v]/\L'=L/\H'=H)∨(r=[]/\gN H' src=aa [v]/\Q .next L' H'),.inl ⟨rfl,rfl,rfl⟩,fun L' H' z=>z.elim (fun z=>nomatch z.1) fun z=>z.2,fun w r L' H' z=>z.elim (fun z=>by
  obtain⟨e,rfl,rfl⟩:=z
  cases e
  exact⟨h,dG (dj n) b (oF fun L1 H1 z=>.inr ⟨rfl,z⟩) (fun _ _ _ z=>z) k⟩) fun z=>nomatch z.1⟩
end
noncomputable def vi (n:Nat):ah aA:=if n < 128 then[UInt8.ofNat n] else UInt8.ofNat (n % 128+128)::vi (n / 128)
termination_by n
decreasing_by exact gg [] oJ [n] 0x197f1080104002011 257 vW (by assumption) aQ
theorem jV {n:Nat} (h:n < 128):vi n=[UInt8.ofNat n]:=by rw[vi,a8 h]
theorem wM {n:Nat} (h:¬ n < 128):vi n=UInt8.ofNat (n % 128+128)::vi (n / 128):=by rw[vi,bb h]
theorem qd (n:Nat):1<=(vi n).length:=by
 rw[vi];split<;>simp
theorem q9:∀ (k n:Nat),1<=k->n < 128 ^ k->(vi n).length<=k
 | 0,n,h,_=>by exact cw [(vi n).length] 0x110020 0x2000 0x2120 h aQ
 |k+1,n,_,h=>by
  rw[vi]
  split
  ·simp
  ·rename_i hn
   cases k with
   |zero=>exact fw [(UInt8.ofNat (n % 128+128)::vi (n / 128)).length,n] 0x1101100040011 0x12000 0x80131016 0x8013101 hn h aQ
   |succ k=>
    have:n / 128 < 128 ^ (k+1):=by
     rw[Nat.div_lt_iff_lt_mul (by decide)]
     calc n < 128 ^ (k+1+1):=h
      _=128 ^ (k+1)*128:=by rw[Nat.pow_succ]
    have:=q9 (k+1) (n / 128) (lE [k] hJ 0x12004120 aQ) this
    simp;exact cw [(vi (n / 128)).length,k] bJ pR pR this aQ
theorem SD (n:Nat):n&&& 127=n % 128:=Z9 n 7
theorem abu {n:Nat} (h:n < 128):n ||| 128=n+128:=by
 have:∀ m:Fin 128,(m.val ||| 128)=m.val+128:=by decide+kernel
 exact this ⟨n,h⟩
theorem ofNat_toNat {n:Nat} (h:n < 256):(UInt8.ofNat n).toNat=n:=by simp;exact cw [n] bJ nE nE h aQ
theorem rT {n:Nat}{H:Hp}{Q:PV}{X:PX}{m:Nat}{most:Int} (hm:(m:Int)<=most) (hl:(vi m).length<=20) (q:∀ H',H.le H'->Q (.bytes (vi m)) H'):aM (n+1) .qc [.int m,.int most] H Q X:=by
 refine bA rfl ?_
 refine bK (a9 (dJ (eL (ai rfl) aH) (cb (lE [m] mq 0x200146 aQ)) (cP (kn (ai rfl) (ai rfl))))) (cb (gg [most] 0 [m] mF 0x10046 19 hm aQ)) ?_
 refine bM (Rl fun a ha=>?_)
 refine Hj (vg (fun k L H1=>∃ bs j,L .xn=aa (.int (j:Nat))/\L .kB=aa (.ref a)/\H1 a=aa (.ba bs)/\H.le H1/\bs++vi j=vi m/\k=j) m ⟨[],m,rfl,rfl,aN,iB ha,rfl,rfl⟩ ?_)
 rintro k L H1 ⟨bs,j,h1,h2,h3,h4,h5,rfl⟩
 have hlen:bs.length+(vi k).length=(vi m).length:=by rw[<- h5,bN]
 have hp:=qd k
 refine abM (v:=.bool (decide (128<=(k:Int)))) (by exact nh (ai h1) aH) (W_ (fun hk=>?_) (fun hk=>?_))
 ·have e1:((k&&& 127 ||| 128:Nat))=k % 128+128:=by rw[SD,abu (dD _ (by decide))]
  have e2:k >>> 7=k / 128:=D5 k 7
  have lW:k % 128 < 128:=dD _ (by decide)
  rw[wM (by exact cw [k] mF vW 0x180133 hk aQ)] at h5
  refine bo (w6 (i:=((k % 128+128:Nat):Int)) (ai h2) h3 (e1▸ED (q:=128) (sZ (q:=127) (ai h1) aH) aH) (lT [] oJ [k] hJ 0x80132041023 aQ) (lT [] oJ [k] yh 0xff13801320413 aQ) (by unfold line;exact fw [bs.length,(vi m).length,(vi k).length] eI rM 0x1413100 0x10200042 hl hlen aQ) ⟨rfl,?_⟩)
  refine abn (v:=.int 7) h1 aH (i2 ⟨gw _,by decide,by decide,?_⟩)
  refine bG ⟨k / 128,by exact gg [] oJ [k] 0x197f180103002 257 0x180133 hk aQ,bs++[UInt8.ofNat (k % 128+128)],k / 128,?_,h2,aN,f5 h4 ha,?_,rfl⟩
  ·exact aW (fun z:Nat=>aa (Vx.int (z:Int))) e2
  ·rw[<- h5,dE];rfl
 ·rw[jV (by exact cw [k] oZ rH 0x1801336 hk aQ)] at h5
  refine bC (bo (w6 (ai h2) h3 (ai h1) (lE [k] hJ pQ aQ) (cw [k] oZ A5 0x1801336 hk aQ) (by unfold line;exact fw [bs.length,(vi m).length,(vi k).length] eI rM 0x1413100 0x10200042 hl hlen aQ) ⟨rfl,?_⟩))
  refine cy (EC (ai h2) aN (by unfold line;rw[bN];simp;exact fw [bs.length,(vi m).length,(vi k).length] eI 0xffffff33000 0x1413100 0x10200042 hl hlen aQ)) ?_
  show Q (.bytes (bs++[UInt8.ofNat k])) _
  rw[h5]
  exact q _ (f5 h4 ha)
theorem pI {α:Type}{d xs r:ah α}{p k:Nat} (h:d.drop p=xs++r) (hk:k < xs.length):d[p+k]? =xs[k]? :=by
 rw[<- B0,h,Jg hk]
theorem ix {α:Type}{d r:ah α}{x:α}{p:Nat} (h:d.drop p=x::r):d[p]? =aa x:=by
 have:=pI (k:=0) (xs:=[x]) h (nU 0);exact this
theorem te {α:Type}{d xs r:ah α}{p:Nat} (h:d.drop p=xs++r) (hx:xs≠[]):p+xs.length<=d.length:=by
 have:=aW List.length h
 rw[fJ,bN] at this
 have:1<=xs.length:=qB.mpr hx
 exact nt [] 0x200104 [p,xs.length,d.length,r.length] 0x11001101900500190001901105002 yg 0x30104402 0x10120 (by assumption) this aQ
theorem fp {α:Type}{d xs r:ah α}{p:Nat} (h:d.drop p=xs++r):d.drop (p+xs.length)=r:=by
 rw[<- xB,h,Tt]
theorem G4 (m:Nat):vi m≠[]:=fun q=>by have:=qd m;rw[q] at this;exact absurd this (by decide)
theorem Oy {m:Nat} (h:m < 256):octets [(m:Int)]=aa [UInt8.ofNat m]:=by
 unfold octets;rw[a8 ⟨gw _,by exact cw [m] bJ A5 nE h aQ⟩];rfl
theorem Fv {n:Nat}{H:Hp}{Q:PV}{X:PX}{m:Nat} (hm:m < 2 ^ 64) (q:∀ H',H.le H'->Q (.bytes (vi m)) H'):aM (n+2) .Ae [.int m] H Q X:=by
 refine bA rfl ?_
 by_cases h:m < 128
 ·refine c5 (a9 (dJ (nh (ai rfl) aH) (dC (lE [m] hJ pQ aQ)) (cP (eL (ai rfl) aH)))) (by exact dC (cw [m] bJ A0 rH h aQ)) (cy (oA (is:=[(m:Int)]) (by exact cG (aq (ai rfl) aE) (aT rfl)) rfl (Oy (cw [m] bJ nE rH h aQ)) (aT rfl)) ?_)
  exact jV h▸q H (le_refl H)
 ·refine bK (a9 (dJ (nh (ai rfl) aH) (dC (cw [m] oZ pQ vW h aQ)) (cP (eL (ai rfl) aH)))) (by exact cb (cw [m] vV 0x801300146 vW h aQ)) (gM (bQ (aq (ai rfl) (aq (bw rfl) aE)) ?_))
  exact rT (cw [m] bJ 0xffffffffffffffff830013 pP hm aQ) (aK (q9 10 m (by decide) (cw [m] bJ Iw pP hm aQ)) (by decide)) q
theorem A_ {n:Nat}{H:Hp}{Q:PV}{X:PX}{m:Nat} (hm:m < 2 ^ 32) (q:∀ H',H.le H'->Q (.bytes (vi m)) H'):aM (n+2) .vy [.int m] H Q X:=by
 refine bA rfl ?_
 by_cases h:m < 128
 ·refine c5 (a9 (dJ (nh (ai rfl) aH) (dC (lE [m] hJ pQ aQ)) (cP (eL (ai rfl) aH)))) (by exact dC (cw [m] bJ A0 rH h aQ)) (cy (oA (is:=[(m:Int)]) (by exact cG (aq (ai rfl) aE) (aT rfl)) rfl (Oy (cw [m] bJ nE rH h aQ)) (aT rfl)) ?_)
  exact jV h▸q H (le_refl H)
 ·refine bK (a9 (dJ (nh (ai rfl) aH) (dC (cw [m] oZ pQ vW h aQ)) (cP (eL (ai rfl) aH)))) (by exact cb (cw [m] vV 0x801300146 vW h aQ)) (gM (bQ (aq (ai rfl) (aq (bw rfl) aE)) ?_))
  exact rT (cw [m] bJ 0xffffffff430013 og hm aQ) (aK (q9 10 m (by decide) (cw [m] bJ Iw og hm aQ)) (by decide)) q
theorem vC {a b i:Nat} (h:a < 2 ^ i):a |||(b <<< i)=a+b*2 ^ i:=by
 rw[TS,Nat.or_comm,SW,<- Nat.two_pow_add_eq_or_of_lt h]
 exact lE [2 ^ i*b,a] rN 0x104100042 aQ
theorem mL {k:Nat} (h:k < 2 ^ 64):small (k:Int):=by unfold small;rw[Int.natAbs_natCast];exact ft h (by decide)
theorem MB {n:Nat}{L:b5}{H:Hp}{Q:PO}{X:fk}{data:ah aA}{p t a o:Nat}{i:Int}{u:aA} (hl:data.length<=line) (g:data[p+t]? =aa u) (ho:u.toNat=o) (hs:7*t<=100) (h6:a < 2 ^ (7*t)) (h1:L .bq=aa (.bytes data)) (h3:L .dY=aa (.int ((p+t:Nat):Int))) (h4:L .wF=aa (.int ((7*t:Nat):Int))) (h5:L .xn=aa (.int a)){r:Ss}
  (k:wSs (aM n) ao r ((((L.set .PF (.int i)).set .oQ (.int (o:Nat))).set .dY (.int ((p+t+1:Nat):Int))).set .xn (.int ((a+o % 128*2 ^ (7*t):Nat):Int))) H Q X):
  wSs (aM n) ao (.cons (.dp (.cB (.aC .dY) .ge (.bc .len (.cons (.aC .bq) .nil))) (.cons (.cC .gH .cK) .nil) .nil) (.cons (.bz .oQ (.idx (.aC .bq) (.aC .dY))) (.cons (.aug .dY .add (.int 1)) (.cons (.aug .xn .bor (.bR .shl (.bR .band (.aC .oQ) (.int 127)) (.aC .wF))) r)))) (L.set .PF (.int i)) H Q X:=by
 have lW:=(Yp.mp g).1
 refine bK (nh (ai h3) (eB (ai h1) hl)) (cb (cw [data.length,p,t] mF 0x20104100136 0x201041 lW aQ)) ?_
 refine aR (v:=.int (o:Nat)) (eW (iW (ai h1) (ai h3) g hl) (aW Nat.cast ho)) ?_
 refine Et (i:=((p+t:Nat):Int)) h3 aH ?_
 have e:a |||((o&&& 127) <<< (7*t))=a+o % 128*2 ^ (7*t):=by rw[SD,vC h6]
 refine YO (p:=a) (q:=(o&&& 127) <<< (7*t)) h5 (Ag (k:=o&&& 127) (q:=7*t) (sZ (k:=o) (q:=127) (ai rfl) aH) (ai h4) (mL (cE Nat.and_le_right (by decide))) (cw [t] bJ 0x641300071513 0x64130007150 hs aQ)) ?_
 rw[e];exact k
theorem tR {n:Nat}{H:Hp}{Q:PV}{X:PX}{data rest:ah aA}{p m k:Nat}{most:Int} (hd:data.drop p=vi m++rest) (hl:data.length<=line) (hk:(vi m).length<=k) (hk2:k<=14) (hm:(m:Int)<=most)
  (q:Q (.tup [.int m,.int ((p+(vi m).length:Nat):Int)]) H):aM (n+1) .rf [.bytes data,.int p,.int k,.int most] H Q X:=by
 refine bA rfl ?_
 refine bK (eL (ai rfl) aH) (cb (lE [p] mq 0x200146 aQ)) ?_
 refine aR aH ?_
 refine aR aH ?_
 refine zp (ai rfl) (lE [k] hJ Iv aQ) (cw [k] bJ Iu 0xe2000 hk2 aQ) ?_
 refine OC (fun j i L H1=>H1=H/\∃ t:Nat,i=t/\t+j=k/\L .bq=aa (.bytes data)/\L .zR=aa (.int most)/\L .dY=aa (.int ((p+t:Nat):Int))/\L .wF=aa (.int ((7*t:Nat):Int))/\∃ a b:Nat,L .xn=aa (.int a)/\a < 2 ^ (7*t)/\m=a+b*2 ^ (7*t)/\
   data.drop (p+t)=vi b++rest/\t+(vi b).length=(vi m).length) ?_ ?_ ⟨rfl,0,rfl,by exact lT [] 0x200174101 [k] Nl 0x100242 aQ,rfl,rfl,rfl,rfl,0,m,rfl,by decide,by exact lE [m] rN 0x11006024002 aQ,hd,jF _⟩
 ·rintro j i L H1 ⟨rfl,t,rfl,hj,h1,h2,h3,h4,a,b,h5,h6,h7,h8,h9⟩
  have hb:=qd b
  by_cases hs:b < 128
  ·rw[jV hs] at h8 h9
   refine MB hl (ix h8) (ofNat_toNat (cw [b] bJ nE rH hs aQ)) (fw [t,k,j] 0x71071011030 0x64130007150 0xe2100 0x10122040042 hk2 hj aQ) h6 h1 h3 h4 h5 ?_
   rw[Nat.mod_eq_of_lt hs,<- h7]
   refine c5 (eL (ai rfl) aH) (dC (cw [b] bJ A0 rH hs aQ)) ?_
   refine bK (kn (ai rfl) (ai h2)) (cb (gg [most] 0 [m] mF 0x10046 19 hm aQ)) ?_
   refine cy (dw (aq (ai rfl) (aq (ai rfl) aE)) (aT rfl)) ?_
   have:p+t+1=p+(vi m).length:=by rw[<- h9];rfl
   rw[this];exact q
  ·rw[wM hs] at h8 h9
   have agO:b % 128 < 128:=dD _ (by decide)
   refine MB hl (ix h8) (ofNat_toNat (n:=b % 128+128) (lT [] oJ [b] yh 0x1002380132041 aQ)) (fw [t,k,j] 0x71071011030 0x64130007150 0xe2100 0x10122040042 hk2 hj aQ) h6 h1 h3 h4 h5 ?_
   have e3:(b % 128+128) % 128=b % 128:=by lia
   rw[e3]
   have hv:=qd (b / 128)
   rw[jf] at h9
   refine bK (eL (ai rfl) aH) (cb (lT [] oJ [b] mq 0x80138013204146 aQ)) ?_
   refine Et (i:=((7*t:Nat):Int)) h4 aH (bG ?_)
   have ep:2 ^ (7*(t+1))=2 ^ (7*t)*128:=Nat.pow_add 2 (7*t) 7
   refine⟨rfl,t+1,rfl,by exact cw [t,j,k] DI 0x20101200442 0x20121040042 hj aQ,h1,h2,rfl,rfl,a+b % 128*2 ^ (7*t),b / 128,rfl,?_,?_,?_,by exact cw [t,(vi (b / 128)).length,(vi m).length] DI 0x20101200442 0x20121040042 h9 aQ⟩
   ·rw[ep]
    have:b % 128*2 ^ (7*t)<=127*2 ^ (7*t):=Nat.mul_le_mul_right _ (lT [] oJ [b] yh 0x7f13200 aQ)
    exact fw [a,b % 128*2 ^ (7*t),2 ^ (7*t)] eI 0x801206100041 0x20001 0x207f15100 h6 this aQ
   ·rw[h7,ep,dU,<- Nat.mul_assoc,Nat.mul_right_comm,<- Nat.add_mul,SW (b / 128),Nat.mod_add_div]
   ·have:=aW (List.drop 1) h8
    rw[xB] at this
    exact this
 ·rintro i L H1 ⟨rfl,t,rfl,hj,h1,h2,h3,h4,a,b,h5,h6,h7,h8,h9⟩
  have hb:=qd b
  exact(Y4 [(vi m).length,k,t,(vi b).length] 0x110110190110050 11 dO 0x10022042 0x302042 0x30120 hk hj h9 hb aQ:False).elim
section
variable {n:Nat}{H:Hp}{Q:PV}{X:PX}
theorem Cs {data rest:ah aA}{p m:Nat} (hd:data.drop p=vi m++rest) (hl:data.length<=line) (hm:m < 2 ^ 64) (q:Q (.tup [.int m,.int ((p+(vi m).length:Nat):Int)]) H):aM (n+2) .ow [.bytes data,.int p] H Q X:=by
 refine bA rfl ?_
 have lW:=te hd (G4 m)
 have hp:=qd m
 by_cases h:m < 128
 ·rw[jV h] at hd q
  have g:=iW (C:=aM (n+1)) (L:=b5.none.sets Fn.ow.ps [.bytes data,.int p]) (H:=H) (e:=.aC .bq) (c:=.aC .dY) (ai rfl) (ai rfl) (ix hd) hl
  rw[ofNat_toNat (show m < 256 by exact cw [m] bJ nE rH h aQ)] at g
  refine c5 (a9 (dJ (nh (ai rfl) aH) (dC (lE [p] hJ pQ aQ)) (dJ (eL (ai rfl) (eB (ai rfl) hl)) (dC (fw [p,data.length,(vi m).length] eI 0x1010014 yf 0x20120 lW hp aQ)) (cP (eL g aH))))) (by exact dC (cw [m] bJ A0 rH h aQ)) ?_
  refine cy (dw (aq g (aq (dM (ai rfl)) aE)) (aT rfl)) ?_
  exact q
 ·have Zv:=hd
  rw[wM h] at hd
  have g:=iW (C:=aM (n+1)) (L:=b5.none.sets Fn.ow.ps [.bytes data,.int p]) (H:=H) (e:=.aC .bq) (c:=.aC .dY) (ai rfl) (ai rfl) (ix hd) hl
  rw[ofNat_toNat (show m % 128+128 < 256 by exact lT [] oJ [m] yh 0x1002380132041 aQ)] at g
  refine bK (a9 (dJ (nh (ai rfl) aH) (dC (lE [p] hJ pQ aQ)) (dJ (eL (ai rfl) (eB (ai rfl) hl)) (dC (fw [p,data.length,(vi m).length] eI 0x1010014 yf 0x20120 lW hp aQ)) (cP (eL g aH))))) (cb (lT [] oJ [m] mq 0x80138013204146 aQ)) ?_
  exact gM (bQ (aq (ai rfl) (aq (ai rfl) (aq aH (aq (bw rfl) aE)))) (tR (k:=10) Zv hl (q9 10 m (by decide) (cw [m] bJ Iw pP hm aQ)) (by decide) (cw [m] bJ 0xffffffffffffffff830013 pP hm aQ) q))
theorem yS {data rest:ah aA}{p m:Nat} (hd:data.drop p=vi m++rest) (hl:data.length<=line) (hm:m < 2 ^ 32) (q:Q (.tup [.int m,.int ((p+(vi m).length:Nat):Int)]) H):aM (n+2) .k_ [.bytes data,.int p] H Q X:=by
 refine bA rfl ?_
 have lW:=te hd (G4 m)
 have hp:=qd m
 by_cases h:m < 128
 ·rw[jV h] at hd q
  have g:=iW (C:=aM (n+1)) (L:=b5.none.sets Fn.k_.ps [.bytes data,.int p]) (H:=H) (e:=.aC .bq) (c:=.aC .dY) (ai rfl) (ai rfl) (ix hd) hl
  rw[ofNat_toNat (show m < 256 by exact cw [m] bJ nE rH h aQ)] at g
  refine c5 (a9 (dJ (nh (ai rfl) aH) (dC (lE [p] hJ pQ aQ)) (dJ (eL (ai rfl) (eB (ai rfl) hl)) (dC (fw [p,data.length,(vi m).length] eI 0x1010014 yf 0x20120 lW hp aQ)) (cP (eL g aH))))) (by exact dC (cw [m] bJ A0 rH h aQ)) ?_
  refine cy (dw (aq g (aq (dM (ai rfl)) aE)) (aT rfl)) ?_
  exact q
 ·have Zv:=hd
  rw[wM h] at hd
  have g:=iW (C:=aM (n+1)) (L:=b5.none.sets Fn.k_.ps [.bytes data,.int p]) (H:=H) (e:=.aC .bq) (c:=.aC .dY) (ai rfl) (ai rfl) (ix hd) hl
  rw[ofNat_toNat (show m % 128+128 < 256 by exact lT [] oJ [m] yh 0x1002380132041 aQ)] at g
  refine bK (a9 (dJ (nh (ai rfl) aH) (dC (lE [p] hJ pQ aQ)) (dJ (eL (ai rfl) (eB (ai rfl) hl)) (dC (fw [p,data.length,(vi m).length] eI 0x1010014 yf 0x20120 lW hp aQ)) (cP (eL g aH))))) (cb (lT [] oJ [m] mq 0x80138013204146 aQ)) ?_
  exact gM (bQ (aq (ai rfl) (aq (ai rfl) (aq aH (aq (bw rfl) aE)))) (tR (k:=5) Zv hl (q9 5 m (by decide) (cw [m] bJ 0x80000000053001 og hm aQ)) (by decide) (cw [m] bJ 0xffffffff430013 og hm aQ) q))
theorem yQ {m:Nat} (hm:m < 2 ^ 64) (q:Q (.int ((vi m).length:Nat)) H):aM (n+1) .iw [.int m] H Q X:=by
 refine bA rfl ?_
 refine bK (a9 (dJ (eL (ai rfl) aH) (cb (lE [m] mq 0x200146 aQ)) (cP (kn (ai rfl) (bw rfl))))) (cb (cw [m] mF 0x1ffffffffffffffff8346 pP hm aQ)) ?_
 refine aR aH ?_
 refine Hj (vg (fun k L H1=>H1=H/\∃ c:Nat,L .xn=aa (.int (k:Nat))/\L .eK=aa (.int c)/\c+(vi k).length=(vi m).length+1) m ⟨rfl,1,rfl,rfl,by exact lE [(vi m).length] rN 0x12004001242 aQ⟩ ?_)
 rintro k L H1 ⟨rfl,c,h1,h2,h3⟩
 refine abM (v:=.bool (decide (128<=(k:Int)))) (by exact nh (ai h1) aH) (W_ (fun hk=>?_) (fun hk=>?_))
 ·rw[wM (by exact cw [k] mF vW 0x180133 hk aQ),jf] at h3
  have e2:k >>> 7=k / 128:=D5 k 7
  refine YN (p:=k) (q:=7) h1 aH (by decide) (Et (i:=(c:Nat)) h2 aH (bG ?_))
  exact⟨k / 128,by exact gg [] oJ [k] 0x197f180103002 257 0x180133 hk aQ,rfl,c+1,aW (fun z:Nat=>aa (Vx.int (z:Int))) e2,rfl,by exact cw [c,(vi (k / 128)).length,(vi m).length] DI 0x12204101200442 0x12204121040042 h3 aQ⟩
 ·rw[jV (by exact cw [k] oZ rH 0x1801336 hk aQ)] at h3
  have:c=(vi m).length:=Nat.add_right_cancel h3
  subst this
  exact bC (cy (ai h2) q)
noncomputable def fx (m:Nat):ah aA:=[UInt8.ofNat (m % 256),UInt8.ofNat (m / 256 % 256),UInt8.ofNat (m / 65536 % 256),UInt8.ofNat (m / 16777216)]
theorem Lv (n:Nat):n&&& 255=n % 256:=Z9 n 8
theorem As {m:Nat} {is:ah Int}{bs:ah aA} (h:m < 256) (g:octets is=aa bs):octets ((m:Int)::is)=aa (UInt8.ofNat m::bs):=by
 unfold octets;rw[a8 ⟨gw _,by exact cw [m] bJ A5 nE h aQ⟩,g];rfl
theorem Cv {m:Nat} (hm:m < 2 ^ 32) (q:Q (.bytes (fx m)) H):aM (n+1) .rg [.int m] H Q X:=by
 refine bA rfl ?_
 have e1:m >>> 8=m / 256:=D5 m 8
 have e2:m >>> 16=m / 65536:=D5 m 16
 have e3:m >>> 24=m / 16777216:=D5 m 24
 refine bK (a9 (dJ (eL (ai rfl) aH) (cb (lE [m] mq 0x200146 aQ)) (cP (kn (ai rfl) (bw rfl))))) (cb (cw [m] mF 0x1ffffffff4346 og hm aQ)) ?_
 have sh:∀ k:Nat,(k:Int)<=100->PE (aM n) (b5.none.sets Fn.rg.ps [.int m]) H (.bR .shr (.aC .xn) (.int k)) (.int ((m >>> k:Nat):Int)):=fun k hk=>YW (ai rfl) aH hk
 refine cy (oA (is:=[((m % 256:Nat):Int),((m / 256 % 256:Nat):Int),((m / 65536 % 256:Nat):Int),((m / 16777216:Nat):Int)]) (cG (aq (Lv m▸sZ (q:=255) (ai rfl) aH) (aq (Lv (m / 256)▸sZ (q:=255) (e1▸sh 8 (by decide)) aH) (aq (Lv (m / 65536)▸sZ (q:=255) (e2▸sh 16 (by decide)) aH) (aq (e3▸sh 24 (by decide)) aE)))) (aT rfl)) rfl
  (As (dD _ (by decide)) (As (dD _ (by decide)) (As (dD _ (by decide)) (Oy (gg [] 0x10000004003101 [m] 0x1901101000000403002 0x10023101 og hm aQ))))) (aT rfl)) q
theorem A9 {data rest:ah aA}{p m:Nat} (hd:data.drop p=fx m++rest) (hl:data.length<=line) (hm:m < 2 ^ 32) (q:Q (.int m) H):aM (n+1) .jW [.bytes data,.int p] H Q X:=by
 refine bA rfl ?_
 have lW:p+4<=data.length:=te hd nofun
 have g0:data[p]? =aa (UInt8.ofNat (m % 256)):=pI (k:=0) hd (aT rfl)
 have g1:data[p+1]? =aa (UInt8.ofNat (m / 256 % 256)):=pI (k:=1) hd (aT rfl)
 have g2:data[p+2]? =aa (UInt8.ofNat (m / 65536 % 256)):=pI (k:=2) hd (aT rfl)
 have g3:data[p+3]? =aa (UInt8.ofNat (m / 16777216)):=pI (k:=3) hd (aT rfl)
 refine bK (a9 (dJ (eL (ai rfl) aH) (cb (lE [p] mq 0x200146 aQ)) (cP (kn (Vs (ai rfl)) (eB (ai rfl) hl))))) (cb (cw [data.length,p] mF 0x42101400146 0x421040 lW aQ)) ?_
 have it:∀ (k o:Nat),data[p+k]? =aa (UInt8.ofNat o)->o < 256->PE (aM n) (b5.none.sets Fn.jW.ps [.bytes data,.int p]) H (.idx (.aC .bq) (.bR .add (.aC .dY) (.int k))) (.int (o:Nat)):=fun k o g h=>by
  have a:PE (aM n) (b5.none.sets Fn.jW.ps [.bytes data,.int p]) H (.bR .add (.aC .dY) (.int k)) (.int ((p+k:Nat):Int)):=eW (jC (ai rfl) aH) (TH p k).symm
  have b:=iW (e:=.aC .bq) (ai rfl) a g hl
  rw[ofNat_toNat h] at b
  exact b
 have i0:PE (aM n) (b5.none.sets Fn.jW.ps [.bytes data,.int p]) H (.idx (.aC .bq) (.aC .dY)) (.int ((m % 256:Nat):Int)):=eW (iW (k:=p) (ai rfl) (ai rfl) g0 hl) (aW Nat.cast (ofNat_toNat (dD _ (by decide))))
 have lt:∀ o:Nat,o < 256->small (o:Int):=fun o h=>mL (ft h (by decide))
 have e:(m % 256 |||(m / 256 % 256) <<< 8 |||(m / 65536 % 256) <<< 16 |||(m / 16777216) <<< 24)=m:=by
  rw[vC (show m % 256 < 2 ^ 8 by exact lT [] 0x1002003101 [m] yh 0x10023201 aQ),vC (show m % 256+m / 256 % 256*2 ^ 8 < 2 ^ 16 by exact lT [] 0x100210301002003201 [m] 0x1002001100110501202 0x1000033010024062041 aQ),vC (show m % 256+m / 256 % 256*2 ^ 8+m / 65536 % 256*2 ^ 16 < 2 ^ 24 by exact lT [] 0x100250301000030030100210301002003401 [m] 0x10000300100200110011070321202 0x10000004301000038060100240620441 aQ)]
  lia
 refine cy (eW (ED (k:=m % 256 |||(m / 256 % 256) <<< 8 |||(m / 65536 % 256) <<< 16) (q:=(m / 16777216) <<< 24) (ED (k:=m % 256 |||(m / 256 % 256) <<< 8) (q:=(m / 65536 % 256) <<< 16) (ED (k:=m % 256) (q:=(m / 256 % 256) <<< 8) i0
  (Ag (q:=8) (it 1 _ g1 (lT [] 0x100210301002003201 [m] DH 0x10023401 aQ)) aH (lt _ (lT [] 0x100210301002003201 [m] DH 0x10023401 aQ)) (by decide))) (Ag (q:=16) (it 2 _ g2 (lT [] 0x10021030100003003201 [m] DH 0x10023401 aQ)) aH (lt _ (lT [] 0x10021030100003003201 [m] DH 0x10023401 aQ)) (by decide))) (Ag (q:=24) (it 3 _ g3 (gg [] 0x10000004003101 [m] 0x1901101000000403002 0x10023101 og hm aQ)) aH (lt _ (gg [] 0x10000004003101 [m] 0x1901101000000403002 0x10023101 og hm aQ)) (by decide))) (aW Nat.cast e)) q
noncomputable def Ha (b:ah aA):Nat:=(b.map (·.toNat)).sum
noncomputable def ck (b:ah aA):Nat:=(Ha b*251+b.length*65537+7) % 2 ^ 32
theorem XO (b:ah aA):ck b < 2 ^ 32:=dD _ (by decide)
theorem P_ (b:ah aA):(b.map (fun u=>(u.toNat:Int))).sum=(Ha b:Nat):=by
 unfold Ha
 induction b with
 |nil=>rfl
 |cons x b ih=>rw[gu,LS,ih];rfl
theorem U1 (b:ah aA):Ha b<=255*b.length:=by
 unfold Ha
 induction b with
 |nil=>exact bD _
 |cons x b ih=>
  have:=x.toNat_lt
  rw[gu,LS,jf];exact fw [x.toNat,(List.map (fun(x:aA) ↦ x.toNat) b).sum,b.length] eI 0x12204ff15100040 0x20ff15100 nE ih this aQ
theorem Be {b:ah aA} (hl:b.length<=1000000) (q:Q (.int (ck b:Nat)) H):aM (n+1) .checksum [.int 2,.bytes b] H Q X:=by
 refine bA rfl ?_
 have hs:=U1 b
 refine bK (cU (ai rfl) (bw rfl)) (cb (lE [] mq 0x122256 aQ)) ?_
 refine c5 (by exact cU (ai rfl) (bw rfl)) rfl (cy (eW (sZ (k:=Ha b*251+b.length*65537+7) (q:=4294967295) (jC (jC (Ez (i:=(Ha b:Nat)) (eW (YV (ai rfl) hl) (P_ b)) aH (mL (fw [Ha b,b.length] 0x11ff1011030 pP 0xf424033100 0x10ff15000 hl hs aQ)) (mL (k:=251) (by decide))) (Ez (i:=(b.length:Nat)) (by exact eB (ai rfl) (by unfold line;exact cw [b.length] bJ pT qJ hl aQ)) aH (mL (cw [b.length] bJ pP qJ hl aQ)) (mL (k:=65537) (by decide)))) aH) (bw rfl)) (aW Nat.cast (Z9 _ 32))) q)
end
theorem Iq {α:Type}{d xs r:ah α}{p:Nat} (h:d.drop p=xs++r):cut d p (p+xs.length)=xs:=by
 unfold cut;rw[h,pX,Ts]
noncomputable def lp (b:ah aA):ah aA:=vi b.length++b
theorem Ra (b:ah aA):(lp b).length=(vi b.length).length+b.length:=bN
theorem abG (b:ah aA):lp b≠[]:=fun q=>G4 _ (List.append_eq_nil_iff.mp q).1
def cH (b:ax) (H H':Hp):Prop:=∀ c o,c≠b->H c=aa o->H' c=aa o
theorem cH.trans {b:ax}{x y z:Hp} (h:cH b x y) (k:cH b y z):cH b x z:=fun c o n e=>k c o n (h c o n e)
theorem cH.le {b:ax}{H₀ H H':Hp} (l:H₀.le H) (n:H₀ b=au) (k:cH b H H'):H₀.le H':=fun c o e=>k c o (a_ e n) (l c o e)
theorem cH.of_le {b:ax}{H H':Hp} (l:H.le H'):cH b H H':=fun c o _ e=>l c o e
theorem cH.set {b:ax}{H H':Hp}{o:Mo} (k:cH b H H'):cH b H (H'.set b o):=fun c p n e=>(bb n).trans (k c p n e)
theorem cH.refl {b:ax} (H:Hp):cH b H H:=fun _ _ _ e=>e
noncomputable def cu (d:ah aA) (p:Nat):Mo:=.inst .Cursor [(.bq,.bytes d),(.dY,.int p)]
section
variable {n:Nat}{H:Hp}{Q:PV}{X:PX}{a:ax}{d rest:ah aA}{p m:Nat}
theorem yT {b:ah aA} (hd:d.drop p=lp b++rest) (hl:d.length<=line) (hb:b.length < 2 ^ 32) (q:Q (.tup [.bytes b,.int ((p+(lp b).length:Nat):Int)]) H):aM (n+3) .tL [.bytes d,.int p] H Q X:=by
 refine bA rfl ?_
 have h1:d.drop p=vi b.length++(b++rest):=by rw[hd,lp,dE]
 have h2:=fp h1
 have lW:=te hd (abG b)
 rw[Ra] at lW q
 refine kG (bQ (aq (ai rfl) (aq (ai rfl) aE)) (yS h1 hl hb ⟨rfl,?_⟩))
 rw[<- dU] at lW q
 refine bK (kn (cS (ai rfl) (ai rfl)) (eB (ai rfl) hl)) (cb (cw [d.length,p,(vi b.length).length,b.length] mF 0x30201044100146 0x302010440 lW aQ)) ?_
 refine cy (dw (aq (gF (MM (JW (q:=p+(vi b.length).length+b.length) (ai rfl) (ai rfl) (by exact cS (ai rfl) (ai rfl)) (cw [p,(vi b.length).length,d.length,b.length] bJ yg 0x20301000440 lW aQ) lW hl)) (aW Vx.bytes (Iq h2))) (aq (cS (ai rfl) (ai rfl)) aE)) (aT rfl)) q
theorem xd (ha:H a=aa (.inst .Cursor [])) (hl:d.length<=line) (hp:p<=d.length) (q:Q .none (H.set a (cu d p))):aM (n+1) .jB [.ref a,.bytes d,.int p] H Q X:=by
 refine bA rfl ?_
 refine bK (a9 (dJ (eL (ai rfl) aH) (cb (lE [p] mq 0x200146 aQ)) (cP (kn (ai rfl) (eB (ai rfl) hl))))) (cb (cw [d.length,p] mF 0x10100146 256 hp aQ)) ?_
 refine cT (ai rfl) (ai rfl) ha (aT rfl) (by decide) ?_
 refine bj (ai rfl) (ai rfl) (aT rfl) (by decide) ?_
 exact q
theorem O5 (ha:H a=aa (.inst .Cursor [])) (hl:d.length<=line) (q:Q .none (H.set a (cu d 0))):aM (n+1) .jB [.ref a,.bytes d] H Q X:=by
 have h:=xd (n:=n) (Q:=Q) (X:=X) ha hl (bX _) q
 obtain⟨ws,h2,h3⟩:=h
 cases h2
 exact⟨_,rfl,h3⟩
theorem ZW (ha:H a=aa (cu d p)) (hl:d.length<=line) (q:Q (.int ((d.length:Int)-p)) H):aM (n+1) .yy [.ref a] H Q X:=by
 refine bA rfl ?_
 refine cy (jb (eB (aP (ai rfl) ha rfl) hl) (aP (ai rfl) ha rfl)) ?_
 exact q
theorem tp (ha:H a=aa (cu d p)) (hd:d.drop p=vi m++rest) (hl:d.length<=line) (hm:m < 2 ^ 64) (q:Q (.int m) (H.set a (cu d (p+(vi m).length)))):aM (n+3) .jz [.ref a] H Q X:=by
 refine bA rfl ?_
 have hp:=qd m
 have lW:=te hd (G4 m)
 refine aR (aP (ai rfl) ha rfl) ?_
 have it:∀ (o:Nat) (L:b5) (H:Hp) (q:Nat),L .aG=aa (.ref a)->L .dY=aa (.int p)->H a=aa (cu d q)->d[p]? =aa (UInt8.ofNat o)->o < 256->PE (aM (n+2)) L H (.idx (.aV (.aC .aG) .bq) (.aC .dY)) (.int (o:Nat)):=fun o L H q k1 k2 k3 g h=>by
  have b:=iW (e:=.aV (.aC .aG) .bq) (aP (C:=aM (n+2)) (ai k1) k3 rfl) (ai k2) g hl
  rw[ofNat_toNat h] at b
  exact b
 by_cases h:m < 128
 ·rw[jV h] at hd q
  have b:=it m ((b5.none.sets Fn.jz.ps [.ref a]).set .dY (.int p)) H p rfl rfl ha (ix hd) (cw [m] bJ nE rH h aQ)
  refine c5 (a9 (dJ (eL (ai rfl) (eB (aP (ai rfl) ha rfl) hl)) (dC (fw [p,d.length,(vi m).length] eI 0x1010014 0x20120 yf hp lW aQ)) (cP (eL b aH)))) (by exact dC (cw [m] bJ A0 rH h aQ)) ?_
  refine cT (dM (ai rfl)) (ai rfl) ha (aT rfl) (by decide) ?_
  exact cy (it m _ _ (p+1) rfl rfl aN (ix hd) (cw [m] bJ nE rH h aQ)) q
 ·have Cf:=hd
  rw[wM h] at hd
  have b:=it (m % 128+128) ((b5.none.sets Fn.jz.ps [.ref a]).set .dY (.int p)) H p rfl rfl ha (ix hd) (lT [] oJ [m] yh 0x1002380132041 aQ)
  refine bK (a9 (dJ (eL (ai rfl) (eB (aP (ai rfl) ha rfl) hl)) (dC (fw [p,d.length,(vi m).length] eI 0x1010014 0x20120 yf hp lW aQ)) (cP (eL b aH)))) (cb (lT [] oJ [m] mq 0x80138013204146 aQ)) ?_
  refine kG (bQ (aq (aP (ai rfl) ha rfl) (aq (ai rfl) aE)) (Cs Cf hl hm ⟨rfl,?_⟩))
  refine cT (ai rfl) (ai rfl) ha (aT rfl) (by decide) ?_
  refine cy (ai rfl) ?_
  exact q
theorem yo {b:ah aA} (ha:H a=aa (cu d p)) (hd:d.drop p=lp b++rest) (hl:d.length<=line) (hb:b.length < 2 ^ 32) (q:Q (.bytes b) (H.set a (cu d (p+(lp b).length)))):aM (n+4) .qP [.ref a] H Q X:=by
 refine bA rfl ?_
 refine kG (bQ (aq (aP (ai rfl) ha rfl) (aq (aP (ai rfl) ha rfl) aE)) (yT hd hl hb ⟨rfl,?_⟩))
 refine cT (ai rfl) (ai rfl) ha (aT rfl) (by decide) ?_
 refine cy (ai rfl) ?_
 exact q
theorem Nz (ha:H a=aa (cu d p)) (hl:d.length<=line) (hp:d.length<=p) (q:Q .none H):aM (n+1) .yA [.ref a] H Q X:=by
 refine bA rfl ?_
 refine bK (eL (aP (ai rfl) ha rfl) (eB (aP (ai rfl) ha rfl) hl)) (cb (cw [p,d.length] mF 0x10100146 256 hp aQ)) ?_
 exact q
theorem Wm {b:aj} (ha:H a=aa (cu d p)) (hd:d.drop p=(if b then[1] else[0])++rest) (hl:d.length<=line) (q:Q (.bool b) (H.set a (cu d (p+1)))):aM (n+1) .yz [.ref a] H Q X:=by
 refine bA rfl ?_
 have g:d[p]? =aa (UInt8.ofNat b.toNat):=by cases b<;>exact ix hd
 have lW:=lX g
 refine bK (nh (aP (ai rfl) ha rfl) (eB (aP (ai rfl) ha rfl) hl)) (cb (cw [d.length,p] mF 0x10100136 257 lW aQ)) ?_
 refine aR (v:=.int (b.toNat:Nat)) (eW (iW (aP (ai rfl) ha rfl) (aP (ai rfl) ha rfl) g hl) (by cases b<;>rfl)) ?_
 have hb:b.toNat<=1:=by cases b<;>decide
 refine bK (kn (ai rfl) aH) (cb (cw [b.toNat] mF 0x11246 0x12000 hb aQ)) ?_
 refine ur (ai rfl) ha rfl aH (aT rfl) (by decide) (cy (gF (by exact cU (ai rfl) aH) (?_:Vx.bool (decide ((b.toNat:Int)=1))=.bool b)) q)
 cases b<;>rfl
structure iE (H:Hp) (a b:ax) (bs:ah aA):Prop where
 at_:H a=aa (.inst .Sink [(.fX,.ref b)])
 ba:H b=aa (.ba bs)
 ne:a≠b
theorem iE.turn {b:ax}{bs cs:ah aA}{H':Hp} (S:iE H a b bs) (k:cH b H H'):iE (H'.set b (.ba cs)) a b cs:=
 ⟨bZ S.ne (k _ _ S.ne S.at_),aN,S.ne⟩
variable {b:ax}{bs:ah aA}
theorem ZS (ha:H a=aa (.inst .Sink [])) (q:∀ b H',H b=au->iE H' a b []->cH a H H'->Q .none H'):aM (n+1) .uc [.ref a] H Q X:=by
 refine bA rfl (eP (Rl fun b hb=>?_))
 have ne:=a_ ha hb
 exact yK (ai rfl) (bZ ne ha) (aT rfl) (by decide) (q b _ hb ⟨aN,bZ ne.symm aN,ne⟩ fun c o nc e=>bZ nc (iB hb _ _ e))
theorem xa (S:iE H a b bs) (hm:m < 2 ^ 64) (hl:bs.length<=1000000) (q:∀ H',iE H' a b (bs++vi m)->cH b H H'->Q .none H'):aM (n+3) .yw [.ref a,.int m] H Q X:=by
 refine bA rfl ?_
 have s1:=S.at_
 by_cases h:m < 128
 ·rw[jV h] at q
  exact c5 (a9 (dJ (nh (ai rfl) aH) (dC (lE [m] hJ pQ aQ)) (cP (eL (ai rfl) aH)))) (by exact dC (cw [m] bJ A0 rH h aQ)) (bo (w6 (aP (ai rfl) s1 rfl) S.ba (ai rfl) (lE [m] hJ pQ aQ) (cw [m] bJ A5 rH h aQ) (by unfold line;exact cw [bs.length] bJ rM qJ hl aQ) ⟨rfl,q _ (S.turn (.refl H)) (.set (.refl H))⟩))
 ·have hv:=q9 10 m (by decide) (cw [m] bJ Iw pP hm aQ)
  exact mi (a9 (dJ (nh (ai rfl) aH) (dC (cw [m] oZ pQ vW h aQ)) (cP (eL (ai rfl) aH)))) (by exact cb (cw [m] vV 0x801300146 vW h aQ)) (bo (E5 (aP (ai rfl) s1 rfl) S.ba (bQ (aq (ai rfl) aE) (Fv hm fun H' l=>M' (l _ _ S.ba) (by unfold line;exact fw [bs.length,(vi m).length] eI 0x100000043100040 qJ nC hl hv aQ) ⟨rfl,q _ (S.turn (.of_le l)) (.set (.of_le l))⟩))))
theorem yl {x:ah aA} (S:iE H a b bs) (hx:x.length<=1000000) (hl:bs.length<=1000000) (q:∀ H',iE H' a b (bs++lp x)->cH b H H'->Q .none H'):aM (n+3) .ub [.ref a,.bytes x] H Q X:=by
 refine bA rfl ?_
 have s1:=S.at_
 have hv:=q9 10 x.length (by decide) (cw [x.length] bJ Iw qJ hx aQ)
 refine bo (E5 (aP (ai rfl) s1 rfl) S.ba (bQ (aq (eB (ai rfl) (by unfold line;exact cw [x.length] bJ pT qJ hx aQ)) aE) (A_ (cw [x.length] bJ og qJ hx aQ) fun H' l=>M' (l _ _ S.ba) (by unfold line;exact fw [bs.length,(vi x.length).length] eI 0x100000043100040 qJ nC hl hv aQ) ⟨rfl,?_⟩)))
 have e1:=bZ (o:=.ba (bs++vi x.length)) S.ne (l _ _ S.at_)
 refine bo (Kr (aP (ai rfl) e1 rfl) aN (ai rfl) (by unfold line;rw[bN];exact GR [bs.length,(vi x.length).length,x.length] ye 0x100000043201000440 0xf424033200 qJ nC hx hl hv aQ) ⟨rfl,?_⟩)
 rw[Hp.set_set,dE]
 exact q _ (S.turn (.of_le l)) (.set (.of_le l))
theorem R7 (S:iE H a b bs) (hm:m < 256) (hl:bs.length<=1000000) (q:∀ H',iE H' a b (bs++[UInt8.ofNat m])->cH b H H'->Q .none H'):aM (n+1) .B7 [.ref a,.int m] H Q X:=by
 refine bA rfl ?_
 have s1:=S.at_
 refine bK (a9 (dJ (eL (ai rfl) aH) (cb (lE [m] mq 0x200146 aQ)) (cP (kn (ai rfl) aH)))) (cb (cw [m] mF 0x1ff1346 nE hm aQ)) ?_
 exact bo (w6 (aP (ai rfl) s1 rfl) S.ba (ai rfl) (lE [m] hJ pQ aQ) (cw [m] bJ A5 nE hm aQ) (by unfold line;exact cw [bs.length] bJ rM qJ hl aQ) ⟨rfl,q _ (S.turn (.refl H)) (.set (.refl H))⟩)
theorem Wf {x:aj} (S:iE H a b bs) (hl:bs.length<=1000000) (q:∀ H',iE H' a b (bs++if x then[1] else[0])->cH b H H'->Q .none H'):aM (n+1) .D7 [.ref a,.bool x] H Q X:=by
 refine bA rfl ?_
 have s1:=S.at_
 have h1:bs.length < line:=by unfold line;exact cw [bs.length] bJ rM qJ hl aQ
 cases x
 ·exact mi (ai rfl) rfl (bo (w6 (aP (ai rfl) s1 rfl) S.ba aH (by decide) (by decide) h1 ⟨rfl,q _ (S.turn (.refl H)) (.set (.refl H))⟩))
 ·exact c5 (ai rfl) rfl (bo (w6 (aP (ai rfl) s1 rfl) S.ba aH (by decide) (by decide) h1 ⟨rfl,q _ (S.turn (.refl H)) (.set (.refl H))⟩))
theorem Wg (S:iE H a b bs) (hl:bs.length<=line) (q:Q (.bytes bs) H):aM (n+1) .D8 [.ref a] H Q X:=by
 have s1:=S.at_
 exact bA rfl (cy (EC (aP (ai rfl) s1 rfl) S.ba hl) q)
end
def gZ (S:ah ax) (H H':Hp):Prop:=∀ c o,c∉S->H c=aa o->H' c=aa o
theorem pM {H:Hp}{a:ax}{o:Mo} (h:H a=au):(H.set a o).drop a=H:=by
 funext b
 by_cases e:b=a
 ·subst e;exact(a8 rfl).trans h.symm
 ·exact(bb e).trans (bb e)
theorem set_comm {H:Hp}{a b:ax}{o p:Mo} (h:a≠b):(H.set a o).set b p=(H.set b p).set a o:=by
 funext c
 show(if c=b then aa p else if c=a then aa o else H c)=if c=a then aa o else if c=b then aa p else H c
 by_cases e:c=b
 ·subst e;rw[a8 rfl,bb h.symm,a8 rfl]
 ·rw[bb e,bb e]
theorem set_drop {H:Hp}{a b:ax}{o:Mo} (h:a≠b):(H.set a o).drop b=(H.drop b).set a o:=by
 funext c
 show(if c=b then au else if c=a then aa o else H c)=if c=a then aa o else if c=b then au else H c
 by_cases e:c=b
 ·subst e;rw[a8 rfl,bb h.symm,a8 rfl]
 ·rw[bb e,bb e]
theorem rt {H:Hp}{a:ax}{o:Mo}{x:V}{xs:ah V} (ha:H a=au) (h:listOf H x=aa xs):listOf (H.set a o) x=aa xs:=by
 cases x with
 |ref c=>exact fU (bZ (a_ (Lu h) ha) (Lu h))
 |_=>exact h
noncomputable def nv (n:Nat):V:=.int (n:Int)
noncomputable def cfo (vs:ah Nat):ah (Nm×V):=[(.kZ,.bE (vs.map nv)),(.iU,.bE []),(.iT,.bE []),(.eO,.bE []),(.gE,.bool ao)]
noncomputable def Nn (vs:ah Nat):V:=.obj .g_ (cfo vs)
noncomputable def ids (vs:ah Nat):ah aA:=vi vs.length++(vs.map vi).flatten
noncomputable def Np (vs:ah Nat):ah aA:=ids vs++(ids []++(ids []++(ids []++[0])))
noncomputable def cfr (vs:ah Nat):V:=.tup [.tup (vs.map nv),.tup [],.tup [],.tup [],.bool ao]
def mf (vs:ah Nat):Prop:=vs.Pairwise (· < ·)/\vs.length<=2/\∀ v∈vs,v < 2 ^ 32
theorem mf.nil:mf []:=⟨.nil,by simp,by simp⟩
structure En where
 t:Nat
 i:Nat
 k:Nat
 d:ah aA
noncomputable def En.fs (e:En):ah (Nm×V):=[(.bO,nv e.t),(.cp,nv e.i),(.cM,nv e.k),(.bq,.bytes e.d)]
noncomputable def En.v (e:En):V:=.obj .Entry e.fs
noncomputable def En.row (e:En):V:=.tup [nv e.t,nv e.i,nv e.k,.bytes e.d]
noncomputable def En.enc (e:En):ah aA:=vi e.t++(vi e.i++(vi e.k++lp e.d))
structure En.Ok (e:En):Prop where
 t:e.t < 2 ^ 32
 i:e.i < 2 ^ 32
 k:e.k=0∨e.k=2
 d:e.d.length<=2
structure Hd where
 t:Nat
 v:Nat
 c:Nat
noncomputable def Hd.fs (h:Hd):ah (Nm×V):=[(.bO,nv h.t),(.om,nv h.v),(.hZ,nv h.c)]
noncomputable def Hd.o (h:Hd):V:=.obj .fQ h.fs
noncomputable def Hd.row (h:Hd):V:=.tup [nv h.t,nv h.v,nv h.c]
noncomputable def Hd.bs (h:Hd):ah aA:=1::(vi h.t++(vi h.v++vi h.c))
def Hd.Ok (h:Hd):Prop:=h.t < 2 ^ 32/\h.v < 2 ^ 32/\h.c < 2 ^ 32
noncomputable def En.bs (e:En):ah aA:=2::e.enc
noncomputable def fold (b t:Nat) (vs:ah Nat):ah aA:=4::(vi b++(vi t++lp (Np vs)))
section
variable {n:Nat}{H:Hp}{Q:PV}{X:PX}{a:ax}
theorem VR (vs:ah Nat):intsOf (vs.map nv)=aa (vs.map fun n:Nat=>(n:Int)):=by
 induction vs with
 |nil=>rfl
 |cons v vs ih=>rw[gu,gu,<- Gp (f:=((v:Int):: ·)),<- ih];rfl
theorem Rk {L:b5}{C:CC}{e:E}{x:V}{xs:ah V} {is:ah Int} (p:PE C L H e x) (h:listOf H x=aa xs) (g:intsOf xs=aa is) (hl:is.length<=2) (hp:is.Pairwise (· <= ·)):PE C L H (.bc .sorted (.cons e .nil)) (.bE (is.map .int)):=fun Q X q=>p _ _ ⟨xs,h,is,g,hl,fun js h1 h2=>by
 have e:js=is:=acS (le:=(· <= ·)) (fun a b _ _ h1 h2=>Int.le_antisymm h1 h2) h2 hp h1
 rw[e];exact q⟩
theorem vY {x:V}{vs:ah Nat} (hv:mf vs) (hx:listOf H x=aa (vs.map nv)) (q:Q (.bE (vs.map nv)) H):aM (n+1) .rising [x] H Q X:=by
 refine bA rfl (bM (iH aE (bX _) fun b hb=>?_))
 have hs:=Rk (C:=aM n) (L:=(b5.none.sets Fn.rising.ps [x]).set .kB (.ref b)) (e:=.aC .NS) (ai rfl) (rt (o:=.bE []) hb hx) (VR vs) (by rw[cF];exact hv.2.1) (Gx.mpr (hv.1.imp fun h=>uT.mpr (fH h)))
 rw[LK] at hs
 refine tK hs rfl ?_
 refine Az (fun r L H1=>∃ done rest,vs=done++rest/\r=rest.map nv/\L .kB=aa (.ref b)/\H1=H.set b (.bE (done.map nv))) ?_ ?_ ⟨[],vs,rfl,rfl,rfl,rfl⟩
 ·rintro v r L H1 ⟨done,rest,h1,h2,h3,rfl⟩
  refine⟨rfl,?_⟩
  cases rest with
  |nil=>contradiction
  |cons w rest=>
   cases h2
   have u3:(done.map nv).length < line:=by have:=hv.2.1;rw[h1,bN,jf] at this;rw[cF];unfold line;exact cw [done.length,rest.length] bJ rM 0x22121040040 this aQ
   have go:∀ {v:V},PE (aM n) (L.set .wI (nv w)) (H.set b (.bE (done.map nv))) (.b7 ao (.cons (.kL (.aC .kB)) (.cons (.cB (.idx (.aC .kB) (.neg (.int 1))) .ne (.aC .wI)) .nil))) v->truth (H.set b (.bE (done.map nv))) v=aa ag->
     wSs (aM n) ao yq (L.set .wI (nv w)) (H.set b (.bE (done.map nv))) (mj (fun L1 H1=>∃ done Xf,vs=done++Xf/\rest.map nv=Xf.map nv/\L1 .kB=aa (.ref b)/\H1=H.set b (.bE (done.map nv))) (i9 (aM n) ag (.cons (.freeze .kB) (.cons (.ret (.aC .kB)) .nil)) (Ck Q) (wU X))) (wU X):=fun p t=>
    c5 p t (bo (oW (ai h3) aN (ai rfl) u3 ⟨rfl,bC (bG ⟨done++[w],rest,by rw[h1,dE];rfl,rfl,h3,by rw[Hp.set_set,f6];rfl⟩)⟩))
   have hn:PE (aM n) (L.set .wI (nv w)) (H.set b (.bE (done.map nv))) (.kL (.aC .kB)) (.bool !(!(done.map nv).isEmpty)):=lS (ai h3) (P4 aN (fH u3))
   rcases X1 done with rfl |⟨d0,u,rfl⟩
   ·exact go (a9 (ni hn rfl)) rfl
   ·have e1:((d0.concat u).map nv).isEmpty=ao:=by rw[Jc,f6];cases d0<;>rfl
    have e2:((d0.concat u).map nv).getLast?=aa (nv u):=by rw[Jc,f6];exact SH
    rw[e1] at hn
    have hu:u≠w:=by
     have:=hv.1
     rw[h1,Jc,dE,NG] at this
     exact sD (Yo this.2.1 (uX ..))
    exact go (a9 (dJ hn rfl (cP (kI (vA (ai h3) aN e2) (ai rfl))))) (xX (cw [u,w] AZ 0x10100156 0x100026 hu aQ))
 ·rintro L H1 ⟨done,rest,h1,h2,h3,rfl⟩
  refine⟨rfl,?_⟩
  cases rest with
  |cons w rest=>contradiction
  |nil=>
   rw[fT] at h1;subst h1
   exact bC (rb h3 aN (cy (ai rfl) (by rw[pM hb];exact q)))
theorem Z0 {x:V}{vs:ah Nat} (hv:mf vs) (hx:listOf H x=aa (vs.map nv)) (ha:H a=au) (q:Q .none (H.set a (.inst .g_ (cfo vs)))):aM (n+2) .oa [.ref a,x,.bE [],.bE [],.bE [],.bool ao] (H.set a (.inst .g_ [])) Q X:=by
 refine bA rfl ?_
 refine eP (bQ (aq (ai rfl) aE) (vY hv (rt ha hx) (yK (ai rfl) aN (aT rfl) (by decide) ?_)))
 refine eP (bQ (aq (ai rfl) aE) (vY .nil rfl (yK (ai rfl) aN (aT rfl) (by decide) ?_)))
 refine eP (bQ (aq (ai rfl) aE) (vY .nil rfl (yK (ai rfl) aN (aT rfl) (by decide) ?_)))
 refine eP (bQ (aq (ai rfl) aE) (vY .nil rfl (yK (ai rfl) aN (aT rfl) (by decide) ?_)))
 refine bj (ai rfl) (ai rfl) (aT rfl) (by decide) ?_
 rw[Hp.set_set,Hp.set_set,Hp.set_set,Hp.set_set]
 exact q
end
section
variable {C:CC}{L:b5}{n:Nat}{H:Hp}{Q:PV}{X:PX}{a ad:ax}{e c:E}{es:Es}{vs:ah V}{v:V}{F:Fn}{D:Cn}{fs:ah (Nm×V)}{m:Nm}
theorem eF (p:GU C L H es vs) (k:∀ (Q:PV) (X:PX),Q v H->C F vs H Q X):PE C L H (.bL F es) v:=fun Q X q=>p _ _ (k _ _ q)
theorem d' (p:PE C L H e (.ref ad)) (h:H ad=aa (.inst D fs)) (g:rp D m=aa F) (z:GU C L H es vs) (k:∀ (Q:PV) (X:PX),Q v H->C F (.ref ad::vs) H Q X):PE C L H (.bk e m es) v:=fun Q X q=>bH p h g z (k _ _ q)
theorem jX (p:PE C L H e (.obj D fs)) (g:rp D m=aa F) (z:GU C L H es vs) (k:∀ (Q:PV) (X:PX),Q v H->C F (.obj D fs::vs) H Q X):PE C L H (.bk e m es) v:=fun Q X q=>VN p g z (k _ _ q)
theorem zv (p:GU C L H es vs) (g:rC D=aa F) (k:∀ (Q:PV) (X:PX) a,H a=au->Q .none (H.set a (.inst D fs))->C F (.ref a::vs) (H.set a (.inst D [])) Q X):PE C L H (.new ag D es) (.obj D fs):=fun Q X q=>p _ _ ⟨F,g,fun a ha=>k _ _ a ha ⟨rfl,fs,aN,by rw[pM ha];exact q⟩⟩
theorem Wl {t i k d:V} (q:Q .none (H.set a (.inst .Entry [(.bO,t),(.cp,i),(.cM,k),(.bq,d)]))):aM (n+1) .sO [.ref a,t,i,k,d] (H.set a (.inst .Entry [])) Q X:=by
 refine bA rfl ?_
 refine cT (ai rfl) (ai rfl) aN (aT rfl) (by decide) ?_;refine bj (ai rfl) (ai rfl) (aT rfl) (by decide) ?_;refine bj (ai rfl) (ai rfl) (aT rfl) (by decide) ?_;refine bj (ai rfl) (ai rfl) (aT rfl) (by decide) ?_
 rw[Hp.set_set];exact q
theorem ZX {t i k:V} (q:Q .none (H.set a (.inst .fQ [(.bO,t),(.om,i),(.hZ,k)]))):aM (n+1) .n_ [.ref a,t,i,k] (H.set a (.inst .fQ [])) Q X:=by
 refine bA rfl ?_
 refine cT (ai rfl) (ai rfl) aN (aT rfl) (by decide) ?_;refine bj (ai rfl) (ai rfl) (aT rfl) (by decide) ?_;refine bj (ai rfl) (ai rfl) (aT rfl) (by decide) ?_
 rw[Hp.set_set];exact q
theorem ZR {t i k d:V} (q:Q .none (H.set a (.inst .Snapshot [(.cp,t),(.bO,i),(.dq,k),(.bq,d)]))):aM (n+1) .oM [.ref a,t,i,k,d] (H.set a (.inst .Snapshot [])) Q X:=by
 refine bA rfl ?_
 refine cT (ai rfl) (ai rfl) aN (aT rfl) (by decide) ?_;refine bj (ai rfl) (ai rfl) (aT rfl) (by decide) ?_;refine bj (ai rfl) (ai rfl) (aT rfl) (by decide) ?_;refine bj (ai rfl) (ai rfl) (aT rfl) (by decide) ?_
 rw[Hp.set_set];exact q
theorem vB {t i k d:V} (p:GU (aM (n+1)) L H es [t,i,k,d]):PE (aM (n+1)) L H (.new ag .Entry es) (.obj .Entry [(.bO,t),(.cp,i),(.cM,k),(.bq,d)]):=zv p rfl fun _ _ _ _ q=>Wl q
theorem oz {t i k:V} (p:GU (aM (n+1)) L H es [t,i,k]):PE (aM (n+1)) L H (.new ag .fQ es) (.obj .fQ [(.bO,t),(.om,i),(.hZ,k)]):=zv p rfl fun _ _ _ _ q=>ZX q
theorem MF {t i k d:V} (p:GU (aM (n+1)) L H es [t,i,k,d]):PE (aM (n+1)) L H (.new ag .Snapshot es) (.obj .Snapshot [(.cp,t),(.bO,i),(.dq,k),(.bq,d)]):=zv p rfl fun _ _ _ _ q=>ZR q
theorem EB {x:V}{vs:ah Nat} (hv:mf vs) (hx:listOf H x=aa (vs.map nv)) (p:GU (aM (n+2)) L H es [x,.bE [],.bE [],.bE [],.bool ao]):PE (aM (n+2)) L H (.new ag .g_ es) (Nn vs):=zv p rfl fun _ _ _ ha q=>Z0 hv hx ha q
theorem ZZ {e:En} (q:Q e.row H):aM (n+1) .D_ [e.v] H Q X:=bA rfl (cy (dw (aq (bI (ai rfl) rfl) (aq (bI (ai rfl) rfl) (aq (bI (ai rfl) rfl) (aq (bI (ai rfl) rfl) aE)))) (aT rfl)) q)
theorem K7 {h:Hd} (q:Q h.row H):aM (n+1) .uh [h.o] H Q X:=bA rfl (cy (dw (aq (bI (ai rfl) rfl) (aq (bI (ai rfl) rfl) (aq (bI (ai rfl) rfl) aE))) (aT rfl)) q)
theorem Wj {h:Hd} (q:Q h.o H):aM (n+2) .sN [h.o] H Q X:=bA rfl (cy (oz (aq (bI (ai rfl) rfl) (aq (bI (ai rfl) rfl) (aq (bI (ai rfl) rfl) aE)))) q)
theorem K9 {vs:ah Nat} (hv:mf vs) (q:Q (cfr vs) H):aM (n+1) .ui [Nn vs] H Q X:=by
 have hl:(vs.map nv).length<=line:=by have:=hv.2.1;rw[cF];unfold line;exact cw [vs.length] bJ pT rL this aQ
 exact bA rfl (cy (dw (aq (sX (bI (ai rfl) rfl) rfl hl) (aq (sX (bI (ai rfl) rfl) rfl (bX _)) (aq (sX (bI (ai rfl) rfl) rfl (bX _)) (aq (sX (bI (ai rfl) rfl) rfl (bX _)) (aq (bI (ai rfl) rfl) aE))))) (aT rfl)) q)
noncomputable def En.size (e:En):Nat:=(vi e.t).length+(vi e.i).length+(vi e.k).length+(vi e.d.length).length+e.d.length
theorem ME {k:Nat} (p:PE (aM (n+1)) L H c (.int k)) (h:k < 2 ^ 64):PE (aM (n+1)) L H (.bL .iw (.cons c .nil)) (.int (vi k).length):=eF (aq p aE) fun _ _ q=>yQ h q
theorem En.Ok.k2 {e:En} (h:e.Ok):e.k<=2:=by have:=h.k;exact cw [e.k] 0x1100110300110011030011 rL 0x22002020028 this aQ
theorem Wk {e:En} (h:e.Ok) (q:Q (.int (e.size:Nat)) H):aM (n+2) .Cc [e.v] H Q X:=by
 refine bA rfl ?_
 have h1:=h.t
 have h2:=h.i
 have h3:=h.k2
 have h4:=h.d
 refine aR (eB (bI (ai rfl) rfl) (by unfold line;exact cw [e.d.length] bJ pT rL h4 aQ)) ?_
 refine aR (cS (cS (ME (bI (ai rfl) rfl) (cw [e.t] bJ pP og h1 aQ)) (ME (bI (ai rfl) rfl) (cw [e.i] bJ pP og h2 aQ))) (ME (bI (ai rfl) rfl) (cw [e.k] bJ pP rL h3 aQ))) ?_
 exact cy (cS (cS (ai rfl) (ME (ai rfl) (cw [e.d.length] bJ pP rL h4 aQ))) (ai rfl)) q
theorem c_ {m:Nat} (h:m < 2 ^ 32):(vi m).length<=5:=q9 5 m (by decide) (ma h (by decide))
theorem size_le {e:En} (h:e.Ok):e.size<=42:=by
 have h1:=c_ h.t
 have h2:=c_ h.i
 have h3:=c_ (m:=e.k) (cE h.k2 (by decide))
 have h4:=c_ (m:=e.d.length) (cE h.d (by decide))
 have:=h.d
 unfold En.size;exact nm5 [(vi e.t).length,(vi e.i).length,(vi e.k).length,(vi e.d.length).length,e.d.length] 0x11011011011011011060 0x2a13403020100044440 0x52000 0x52100 0x52200 0x52300 0x22400 h1 h2 h3 h4 this aQ
theorem vN {e:En} (h:e.Ok):e.enc.length<=42:=by
 have:=size_le h
 rw[En.enc,bN,bN,bN,Ra]
 unfold En.size at this;exact cw [(vi e.t).length,(vi e.i).length,(vi e.k).length,(vi e.d.length).length,e.d.length] bJ 0x2a13403042041040040 0x2a13403020100044440 this aQ
theorem none_le {H0 H:Hp} (l:H0.le H) (ha:H a=au):H0 a=au:=by
 cases e:H0 a with
 |none=>rfl
 |some o=>rw[l _ _ e] at ha;contradiction
structure GS (H0 H:Hp) (a b:ax) (bs:ah aA):Prop where
 at_:iE H a b bs
 le:H0.le H
 no:H0 b=au
section
variable {H0:Hp}{b:ax}{bs:ah aA}{rz:aj}{r:Ss}{Qo:PO}{Xo:fk}{x:Nm}{i:Nat}
theorem GS.go {H':Hp}{cs:ah aA} (S:GS H0 H a b bs) (T:iE H' a b cs) (k:cH b H H'):GS H0 H' a b cs:=⟨T,k.le S.le S.no,S.no⟩
theorem GS.up {H':Hp} (S:GS H0 H a b bs) (l:H.le H'):GS H0 H' a b bs:=⟨⟨l _ _ S.at_.at_,l _ _ S.at_.ba,S.at_.ne⟩,le_trans S.le l,S.no⟩
theorem EX (k:∀ a b H',GS H H' a b []->wSs (aM (n+1)) rz r (L.set x (.ref a)) H' Qo Xo):wSs (aM (n+1)) rz (.cons (.bz x (.new ao .Sink .nil)) r) L H Qo Xo:=
 bM (lV aE rfl fun a ha=>ZS aN fun b H1 hb S1 k1=>⟨rfl,k a b H1 ⟨S1,cH.le (iB ha) ha k1,none_le (iB ha) hb⟩⟩)
theorem x4 (S:GS H0 H a b bs) (p:PE (aM (n+3)) L H e (.ref a)) (z:PE (aM (n+3)) L H c (.int i)) (hm:i < 2 ^ 64) (hl:bs.length<=1000000) (k:∀ H',GS H0 H' a b (bs++vi i)->wSs (aM (n+3)) rz r L H' Qo Xo):wSs (aM (n+3)) rz (.cons (.expr (.bk e .eJ (.cons c .nil))) r) L H Qo Xo:=
 bo (bH p S.at_.at_ rfl (aq z aE) (xa S.at_ hm hl fun H' T kk=>⟨rfl,k _ (S.go T kk)⟩))
theorem Xa (S:GS H0 H a b bs) (p:PE (aM (n+1)) L H e (.ref a)) (z:PE (aM (n+1)) L H c (.int i)) (hm:i < 256) (hl:bs.length<=1000000) (k:∀ H',GS H0 H' a b (bs++[UInt8.ofNat i])->wSs (aM (n+1)) rz r L H' Qo Xo):wSs (aM (n+1)) rz (.cons (.expr (.bk e .oQ (.cons c .nil))) r) L H Qo Xo:=
 bo (bH p S.at_.at_ rfl (aq z aE) (R7 S.at_ hm hl fun H' T kk=>⟨rfl,k _ (S.go T kk)⟩))
theorem aa' {y:ah aA} (S:GS H0 H a b bs) (p:PE (aM (n+3)) L H e (.ref a)) (z:PE (aM (n+3)) L H c (.bytes y)) (hm:y.length<=1000000) (hl:bs.length<=1000000) (k:∀ H',GS H0 H' a b (bs++lp y)->wSs (aM (n+3)) rz r L H' Qo Xo):wSs (aM (n+3)) rz (.cons (.expr (.bk e .jJ (.cons c .nil))) r) L H Qo Xo:=
 bo (bH p S.at_.at_ rfl (aq z aE) (yl S.at_ hm hl fun H' T kk=>⟨rfl,k _ (S.go T kk)⟩))
theorem aba {y:aj} (S:GS H0 H a b bs) (p:PE (aM (n+1)) L H e (.ref a)) (z:PE (aM (n+1)) L H c (.bool y)) (hl:bs.length<=1000000) (k:∀ H',GS H0 H' a b (bs++if y then[1] else[0])->wSs (aM (n+1)) rz r L H' Qo Xo):wSs (aM (n+1)) rz (.cons (.expr (.bk e .C7 (.cons c .nil))) r) L H Qo Xo:=
 bo (bH p S.at_.at_ rfl (aq z aE) (Wf S.at_ hl fun H' T kk=>⟨rfl,k _ (S.go T kk)⟩))
theorem zo (S:GS H0 H a b bs) (p:PE (aM (n+1)) L H e (.ref a)) (hl:bs.length<=line) (k:Qo (.ret (.bytes bs)) L H):wSs (aM (n+1)) rz (.cons (.ret (.bk e .qE .nil)) r) L H Qo Xo:=
 gM (bH p S.at_.at_ rfl aE (Wg S.at_ hl k))
end
theorem du {x y:ah aA}{i j k:Nat} (h:x.length<=i) (g:y.length<=j) (l:i+j<=k):(x++y).length<=k:=by
 rw[bN];exact aK (fS h g) l
theorem Bc {e:En} (h:e.Ok) (q:∀ H',H.le H'->Q (.bytes e.enc) H'):aM (n+4) .vM [e.v] H Q X:=by
 refine bA rfl (EX fun a b H1 S1=>?_)
 have l1:([]++vi e.t).length<=5:=c_ h.t
 have l2:([]++vi e.t++vi e.i).length<=10:=du l1 (c_ h.i) (by decide)
 have h3:e.k < 2 ^ 32:=cE h.k2 (by decide)
 have l3:([]++vi e.t++vi e.i++vi e.k).length<=15:=du l2 (c_ h3) (by decide)
 have up:∀ {k},k < 2 ^ 32->k < 2 ^ 64:=fun h=>ft h (by decide)
 refine x4 S1 (ai rfl) (bI (ai rfl) rfl) (up h.t) (by decide) fun H2 S2=>?_
 refine x4 S2 (ai rfl) (bI (ai rfl) rfl) (up h.i) (aK l1 (by decide)) fun H2 S2=>?_
 refine x4 S2 (ai rfl) (bI (ai rfl) rfl) (up h3) (aK l2 (by decide)) fun H2 S2=>?_
 refine aa' S2 (ai rfl) (bI (ai rfl) rfl) (aK h.d (by decide)) (aK l3 (by decide)) fun H2 S2=>?_
 have e1:[]++vi e.t++vi e.i++vi e.k++lp e.d=e.enc:=by rw[dE,dE];rfl
 rw[e1] at S2
 exact zo S2 (ai rfl) (aK (vN h) (by decide)) (q _ S2.le)
theorem j8 {e:En} (h:e.Ok) (q:∀ H',H.le H'->Q (.bytes e.bs) H'):aM (n+5) .j7 [e.v] H Q X:=by
 refine bA rfl (gM ?_)
 refine(oA (is:=[2]) (d:=[2]) (cG (aq (bw rfl) aE) (aT rfl)) rfl rfl (by decide):PE _ _ _ _ _) _ _ ?_
 refine bQ (aq (ai rfl) aE) (Bc h fun H1 l1=>gi ⟨?_,q _ l1⟩)
 exact aK (dX (vN h) 1) (by decide)
theorem o6 {h:Hd} (hh:h.Ok) (q:∀ H',H.le H'->Q (.bytes h.bs) H'):aM (n+4) .oG [h.o] H Q X:=by
 refine bA rfl (EX fun a b H1 S1=>?_)
 obtain⟨h1,h2,h3⟩:=hh
 have l0:([]++[UInt8.ofNat 1]).length<=1:=bD 1
 have l1:([]++[UInt8.ofNat 1]++vi h.t).length<=6:=du l0 (c_ h1) (by decide)
 have l2:([]++[UInt8.ofNat 1]++vi h.t++vi h.v).length<=11:=du l1 (c_ h2) (by decide)
 have l3:([]++[UInt8.ofNat 1]++vi h.t++vi h.v++vi h.c).length<=16:=du l2 (c_ h3) (by decide)
 have up:∀ {k},k < 2 ^ 32->k < 2 ^ 64:=fun h=>ft h (by decide)
 refine Xa (i:=1) S1 (ai rfl) (bw rfl) (by decide) (by decide) fun H2 S2=>?_
 refine x4 S2 (ai rfl) (bI (ai rfl) rfl) (up h1) (by decide) fun H2 S2=>?_
 refine x4 S2 (ai rfl) (bI (ai rfl) rfl) (up h2) (aK l1 (by decide)) fun H2 S2=>?_
 refine x4 S2 (ai rfl) (bI (ai rfl) rfl) (up h3) (aK l2 (by decide)) fun H2 S2=>?_
 have e1:[]++[UInt8.ofNat 1]++vi h.t++vi h.v++vi h.c=h.bs:=by rw[dE,dE];rfl
 rw[e1] at S2 l3
 exact zo S2 (ai rfl) (aK l3 (by decide)) (q _ S2.le)
theorem abQ {vs:ah Nat} (hl:vs.length<=2) (h3:∀ v∈vs,v < 2 ^ 32):((vs.map vi).flatten).length<=5*vs.length:=by
 clear hl
 induction vs with
 |nil=>exact bD 0
 |cons x vs ih=>
  rw[gu,qA,bN,jf]
  have:=c_ (h3 x (uX ..))
  have:=ih fun v hv=>h3 v (List.mem_cons_of_mem _ hv)
  exact fw [(vi x).length,(List.map vi vs).flatten.length,vs.length] eI 0x122040515100040 0x52000 0x200515100 (by assumption) this aQ
theorem ta {vs:ah Nat} (hv:mf vs):(ids vs).length<=15:=by
 obtain⟨h1,h2,h3⟩:=hv
 exact du (c_ (cE h2 (by decide))) (abQ h2 h3) (cw [vs.length] 0x51011020 0xf20005155240 rL h2 aQ)
theorem O0 {vs:ah Nat}{b:ax}{bs:ah aA} (hv:mf vs) (S:iE H a b bs) (hl:bs.length<=1000) (q:∀ H',iE H' a b (bs++ids vs)->cH b H H'->Q .none H'):aM (n+4) .sW [.ref a,.bE (vs.map nv)] H Q X:=by
 refine bA rfl ?_
 obtain⟨h1,h2,h3⟩:=hv
 have hvl:vs.length < 2 ^ 32:=cE h2 (by decide)
 refine bo (bH (ai rfl) S.at_ rfl (aq (eW (eY (ai rfl) (by rw[cF];unfold line;exact cw [vs.length] bJ pT rL h2 aQ)) (aW Nat.cast (cF ..))) aE) (xa S (ft hvl (by decide)) (aK hl (by decide)) fun H1 S1 k1=>⟨rfl,tK (ai rfl) rfl ?_⟩))
 have l5:(bs++vi vs.length).length<=1005:=du hl (c_ hvl) (by decide)
 refine Az (fun r L H1=>∃ done rest,vs=done++rest/\r=rest.map nv/\L .gz=aa (.ref a)/\iE H1 a b (bs++vi vs.length++(done.map vi).flatten)/\cH b H H1) ?_ ?_ ⟨[],vs,rfl,rfl,rfl,by rw[BM,xF,fT];exact S1,k1⟩
 ·rintro v r L H2 ⟨done,rest,e1,e2,e3,S2,k2⟩
  refine⟨rfl,?_⟩
  cases rest with
  |nil=>contradiction
  |cons w rest=>
   cases e2
   have hd:done.length<=2:=by rw[e1,bN] at h2;exact cw [done.length,(w::rest).length] bJ rL 0x22100040 h2 aQ
   have hd5:=abQ hd fun v hv=>h3 v (by rw[e1];exact NF _ hv)
   have hw:=h3 w (by rw[e1];exact t9 _ (uX ..))
   refine bo (bH (ai e3) S2.at_ rfl (aq (ai rfl) aE) (xa S2 (ft hw (by decide)) (du l5 hd5 (cw [done.length] 0x51011020 0xf42403300051503ed2340 rL hd aQ)) fun H3 S3 k3=>⟨rfl,?_⟩))
   refine bG ⟨done++[w],rest,by rw[e1,dE];rfl,rfl,e3,?_,k2.trans k3⟩
   rw[f6,xJ,<- dE,gu,BM,qA,xF,fT]
   exact S3
 ·rintro L H2 ⟨done,rest,e1,e2,e3,S2,k2⟩
  refine⟨rfl,?_⟩
  cases rest with
  |cons w rest=>contradiction
  |nil=>
   rw[fT] at e1;subst e1
   exact q _ (by rw[dE] at S2;exact S2) k2
theorem Em {H0:Hp}{b:ax}{bs:ah aA}{vs:ah Nat}{rz:aj}{r:Ss}{Qo:PO}{Xo:fk} (hv:mf vs) (S:GS H0 H a b bs) (p:PE (aM (n+4)) L H e (.ref a)) (z:PE (aM (n+4)) L H c (.bE (vs.map nv))) (hl:bs.length<=1000) (k:∀ H',GS H0 H' a b (bs++ids vs)->wSs (aM (n+4)) rz r L H' Qo Xo):wSs (aM (n+4)) rz (.cons (.expr (.bL .sW (.cons e (.cons c .nil)))) r) L H Qo Xo:=
 bo (bQ (aq p (aq z aE)) (O0 hv S.at_ hl fun H' T kk=>⟨rfl,k _ (S.go T kk)⟩))
theorem ti {vs:ah Nat} (hv:mf vs):(Np vs).length<=61:=du (ta hv) (du (ta .nil) (du (ta .nil) (du (ta .nil) (bD 1) (bD _)) (bD _)) (bD _)) (bD _)
theorem Cw {vs:ah Nat} (hv:mf vs) (q:∀ H',H.le H'->Q (.bytes (Np vs)) H'):aM (n+5) .yc [Nn vs] H Q X:=by
 refine bA rfl (EX fun a b H1 S1=>?_)
 have l0:=ta .nil
 have l1:([]++ids vs).length<=15:=ta hv
 have l2:=du l1 l0 (bD _)
 have l3:=du l2 l0 (bD _)
 have l4:=du l3 l0 (bD _)
 refine Em hv S1 (ai rfl) (bI (ai rfl) rfl) (by decide) fun H2 S2=>?_
 refine Em .nil S2 (ai rfl) (bI (ai rfl) rfl) (aK l1 (by decide)) fun H2 S2=>?_
 refine Em .nil S2 (ai rfl) (bI (ai rfl) rfl) (aK l2 (by decide)) fun H2 S2=>?_
 refine Em .nil S2 (ai rfl) (bI (ai rfl) rfl) (aK l3 (by decide)) fun H2 S2=>?_
 refine aba S2 (ai rfl) (bI (ai rfl) rfl) (aK l4 (by decide)) fun H2 S2=>?_
 have e1:[]++ids vs++ids []++ids []++ids []++(if ao=ag then[1] else[0])=Np vs:=by rw[dE,dE,dE];rfl
 rw[e1] at S2
 exact zo S2 (ai rfl) (aK (ti hv) (by decide)) (q _ S2.le)
theorem o7 {b t:Nat}{vs:ah Nat} (hb:b < 2 ^ 32) (ht:t < 2 ^ 32) (hv:mf vs) (q:∀ H',H.le H'->Q (.bytes (fold b t vs)) H'):aM (n+6) .oH [.int b,.int t,Nn vs] H Q X:=by
 refine bA rfl (EX fun a b' H1 S1=>?_)
 have l0:([]++[UInt8.ofNat 4]).length<=1:=bD 1
 have l1:([]++[UInt8.ofNat 4]++vi b).length<=6:=du l0 (c_ hb) (by decide)
 have l2:([]++[UInt8.ofNat 4]++vi b++vi t).length<=11:=du l1 (c_ ht) (by decide)
 have l3:=ti hv
 have l4:(lp (Np vs)).length<=66:=du (c_ (cE l3 (by decide))) l3 (bD _)
 have l5:([]++[UInt8.ofNat 4]++vi b++vi t++lp (Np vs)).length<=77:=du l2 l4 (bD _)
 have up:∀ {k},k < 2 ^ 32->k < 2 ^ 64:=fun h=>ft h (by decide)
 refine Xa (i:=4) S1 (ai rfl) (bw rfl) (by decide) (by decide) fun H2 S2=>?_
 refine x4 S2 (ai rfl) (ai rfl) (up hb) (by decide) fun H2 S2=>?_
 refine x4 S2 (ai rfl) (ai rfl) (up ht) (aK l1 (by decide)) fun H2 S2=>?_
 refine bo (AH (ai rfl) S2.at_.at_ rfl (Ed (bQ (aq (ai rfl) aE) (Cw hv fun H' l'=>?_))))
 have S3:=S2.up l'
 refine yl S3.at_ (aK l3 (by decide)) (aK l2 (by decide)) fun H4 T kk=>⟨rfl,?_⟩
 have S4:=S3.go T kk
 have e1:[]++[UInt8.ofNat 4]++vi b++vi t++lp (Np vs)=fold b t vs:=by rw[dE,dE];rfl
 rw[e1] at S4 l5
 exact zo S4 (ai rfl) (aK l5 (by decide)) (q _ S4.le)
end
noncomputable def kF (t i:Nat):En:=⟨t,i,if i % 5=4 then 2 else 0,List.replicate (i % 3) (UInt8.ofNat ((t+i) % 256))⟩
theorem U3 {t i:Nat} (ht:t < 2 ^ 32) (hi:i < 2 ^ 32):(kF t i).Ok:=
 ⟨ht,hi,if h:i % 5=4 then .inr (a8 h) else .inl (bb h),by show(List.replicate _ _).length<=2;rw[nP];exact lT [] 0x31003101 [i] yh 0x22200 aQ⟩
noncomputable def ents:Nat->ah Nat->ah En
 |_,[]=>[]
 |i,t::ts=>kF t i::ents (i+1) ts
theorem fi:∀ (i:Nat) (ts:ah Nat),(ents i ts).length=ts.length
 |_,[]=>rfl
 |i,t::ts=>aW (· +1) (fi (i+1) ts)
theorem rG:∀ (i:Nat) (ts us:ah Nat),ents i (ts++us)=ents i ts++ents (i+ts.length) us
 |_,[],_=>rfl
 |i,t::ts,us=>aW (kF t i:: ·) ((rG (i+1) ts us).trans (by rw[dU,nR 1];rfl))
theorem rF:∀ (i:Nat) (ts:ah Nat) (k:Nat),(ents i ts)[k]? =ts[k]?.map (kF · (i+k))
 |_,[],_=>rfl
 |i,t::ts,0=>rfl
 |i,t::ts,k+1=>(rF (i+1) ts k).trans (by rw[dU,nR 1];rfl)
theorem mR:∀ (i:Nat) (ts:ah Nat) (k:Nat),(ents i ts).take k=ents i (ts.take k)
 |_,[],k=>by rw[xA];exact xA
 |_,t::ts,0=>rfl
 |i,t::ts,k+1=>aW (kF t i:: ·) (mR (i+1) ts k)
theorem pK:∀ (i:Nat) (ts:ah Nat) (k:Nat),(ents i ts).drop k=ents (i+k) (ts.drop k)
 |_,[],k=>by rw[BP];exact BP
 |_,t::ts,0=>rfl
 |i,t::ts,k+1=>(pK (i+1) ts k).trans (by rw[dU,nR 1];rfl)
theorem zF {i:Nat}{ts:ah Nat} (ht:∀ t∈ts,t < 2 ^ 32) (hi:i+ts.length < 2 ^ 32):∀ e∈ents i ts,e.Ok:=by
 intro e he
 obtain⟨k,hk⟩:=XW he
 rw[rF] at hk
 cases q:ts[k]? with
 |none=>rw[q] at hk;contradiction
 |some t=>
  rw[q] at hk;(injection hk with hk;subst hk)
  exact U3 (ht t (BE q)) (cE (dX (fH (lX q)) i) hi)
theorem filter_some {α β:Type} (f:α->β) (xs:ah α):xs.filterMap (fun a=>aa (f a))=xs.map f:=by
 induction xs with
 |nil=>rfl
 |cons a xs ih=>exact aW (f a:: ·) ih
theorem N' {α:Type}{src:V}{step:V->Hp->(aB V->Hp->Prop)->Prop}{Q:ah V->Hp->Prop}{H:Hp} (f:α->V) (g:α->aB V)
  (r:ah α) (hs:gN H src=aa (r.map f)) (h:∀ v∈r,∀ k:aB V->Hp->Prop,k (g v) H->step (f v) H k) (q:Q (r.filterMap g) H):Uu src (r.map f) step Q H:=
 ⟨fun l acc H'=>H'=H/\∃ done rest,r=done++rest/\l=rest.map f/\acc=done.filterMap g,⟨rfl,[],r,rfl,rfl,rfl⟩,fun acc H' ⟨e,done,rest,e1,e2,e3⟩=>by
  subst e e1 e3
  cases rest with
  |nil=>rw[fT] at hs q ⊢;exact⟨hs,q⟩
  |cons=>(contradiction),fun v l acc H' ⟨e,done,rest,e1,e2,e3⟩=>by
  subst e e3
  cases rest with
  |nil=>contradiction
  |cons w rest=>
   cases e2
   refine⟨hs,h w (by rw[e1];exact t9 _ (.head _)) _ ⟨rfl,done++[w],rest,by rw[e1,dE];rfl,rfl,?_⟩⟩
   rw[List.filterMap_append,GI]
   cases g w with
   |none=>exact(fT _).symm
   |some y=>rfl⟩
def DE (C:CC) (elt:E) (tup:aj) (fL:ah Nm) (c:E) (L0:b5):V->Hp->(aB V->Hp->Prop)->Prop:=fun v H2 k=>qK tup fL v L0 fun L1=>wE C c L1 H2 (fun x H3=>Got (cond c.yL (aa ag) (truth H3 x)) fun t=>
    cond t (wE C elt L1 H3 (fun y H4=>k (aa y) H4) VE) (k au H3)) VE
section
variable {C:CC}{L L0:b5}{H:Hp}{Q:PV}{X:PX}{elt it cc:E}{tup fz:aj}{fL fv:ah Nm}{src v w u:V}{x:Nm}{vs:ah V}{α:Type}
theorem w5 (f:α->V) (g:α->aB V) (xs:ah α) (p:PE C L H it src) (hs:gN H src=aa (xs.map f)) (hl:xs.length<=line) (hx:∀ a∈xs,∀ k:aB V->Hp->Prop,k (g a) H->DE C elt tup fL cc (L.only fv) (f a) H k) (q:mk fz (xs.filterMap g) H Q):wE C (.comp fz elt tup fL it cc fv) L H Q X:=
 p _ _ ⟨_,hs,by rw[cF];exact hl,N' f g xs hs hx q⟩
theorem aeI {k:aB V->Hp->Prop} (p:PE C (L0.set x v) H elt w) (q:k (aa w) H):DE C elt ao [x] .none L0 v H k:=⟨ag,rfl,p _ _ q⟩
theorem aeH {k:aB V->Hp->Prop} (h:fL.length=vs.length) (p:PE C (L0.sets fL vs) H elt w) (q:k (aa w) H):DE C elt ag fL .none L0 (.tup vs) H k:=⟨h,ag,rfl,p _ _ q⟩
theorem RV {k:aB V->Hp->Prop}{t:aj} (hn:cc.yL=ao) (c:PE C (L0.set x v) H cc u) (ht:truth H u=aa t) (p:PE C (L0.set x v) H elt w) (q:k (if t then aa w else au) H):DE C elt ao [x] cc L0 v H k:=c _ _ ⟨t,by rw[hn];exact ht,by cases t;exact q;exact p _ _ q⟩
theorem acv {k:aB V->Hp->Prop}{t:aj} (h:fL.length=vs.length) (hn:cc.yL=ao) (c:PE C (L0.sets fL vs) H cc u) (ht:truth H u=aa t) (p:PE C (L0.sets fL vs) H elt w) (q:k (if t then aa w else au) H):DE C elt ag fL cc L0 (.tup vs) H k:=⟨h,c _ _ ⟨t,by rw[hn];exact ht,by cases t;exact q;exact p _ _ q⟩⟩
theorem Hy (f g:α->V) (xs:ah α) (p:PE C L H it src) (hs:gN H src=aa (xs.map f)) (hl:xs.length<=line) (hx:∀ a∈xs,PE C ((L.only fv).set x (f a)) H elt (g a)):PE C L H (.comp ag elt ao [x] it .none fv) (.bE (xs.map g)):=
 fun Q X q=>w5 f (fun a=>aa (g a)) xs p hs hl (fun a ha k hk=>aeI (hx a ha) hk) (by rw[filter_some];exact⟨by rw[cF];exact hl,q⟩)
theorem Hw (f:α->ah V) (g:α->V) (xs:ah α) (p:PE C L H it src) (hs:gN H src=aa (xs.map fun a=>.tup (f a))) (hl:xs.length<=line) (hf:∀ a∈xs,fL.length=(f a).length) (hx:∀ a∈xs,PE C ((L.only fv).sets fL (f a)) H elt (g a)):PE C L H (.comp ag elt ag fL it .none fv) (.bE (xs.map g)):=
 fun Q X q=>w5 (fun a=>.tup (f a)) (fun a=>aa (g a)) xs p hs hl (fun a ha k hk=>aeH (hf a ha) (hx a ha) hk) (by rw[filter_some];exact⟨by rw[cF];exact hl,q⟩)
theorem Qj {c:E}{b r:Ss}{rz:aj}{Qo:PO}{Xo:fk} (k:wE C c L H (fun h H2=>B9 .none h ag fun i j=>B_ x (fun L H Q X=>wSs C ao b L H Q X) (i9 C rz r Qo Xo) Xo (j-i).toNat i L H2) (fun c H1=>Xo c L H1)):wSs C rz (.cons (.forR x .none c b) r) L H Qo Xo:=k
end
theorem vw {C:CC}{L:b5}{H:Hp}{Q:PO}{X:fk}{rz t:aj}{r a:Ss}{c d:E}{u:V} (p:PE C L H c u) (h:truth H u=aa t) (z:t=ag->∃ w,PE C L H d w/\truth H w=aa ao) (k:wSs C rz r L H Q X):wSs C rz (.cons (.dp (.b7 ag (.cons c (.cons d .nil))) a .nil) r) L H Q X:=by
 cases t
 ·exact bK (a9 (jl p h)) h k
 ·obtain⟨w,p2,h2⟩:=z rfl
  exact bK (a9 (dJ p h (cP p2))) h2 k
noncomputable def G8 (Q:PO) (J:b5->Hp->Prop):PO:=mj J Q
section
variable {n:Nat}{x:Nm}{src:V}{b:Ss}{Q:PO}{X:fk}{L:b5}{H:Hp}{α:Type}
theorem qo (f:α->V) (xs:ah α) (I:ah α->b5->Hp->Prop) (h0:I [] L H)
  (it:∀ done L H,I done L H->gN H src=aa (xs.map f))
  (step:∀ done w rest L H,xs=done++w::rest->I done L H->wSs (aM n) ao b (L.set x (f w)) H (G8 Q (I (done++[w]))) X)
  (fin:∀ L H,I xs L H->Q .next L H):Loop x src (xs.map f) (fun L H Q X=>wSs (aM n) ao b L H Q X) Q X L H:=
 ⟨fun l L H=>∃ done rest,xs=done++rest/\l=rest.map f/\I done L H,⟨[],xs,rfl,rfl,h0⟩,fun L H ⟨done,rest,e1,e2,h⟩=>by
  refine⟨it _ _ _ h,fin _ _ ?_⟩
  cases rest with
  |nil=>rw[e1,fT];exact h
  |cons=>(contradiction),fun v l L H ⟨done,rest,e1,e2,h⟩=>by
  cases rest with
  |nil=>contradiction
  |cons w rest=>
   cases e2
   refine⟨it _ _ _ h,dG (dj n) b (oF fun L1 H1 z=>⟨done++[w],rest,by rw[e1,dE];rfl,rfl,z⟩) (fun _ _ _ z=>z) (step done w rest L H e1 h)⟩⟩
theorem KI {i:Int}{k:Nat} (c:Nat) (hc:k=c) (I:Nat->b5->Hp->Prop) (h0:I 0 L H)
  (step:∀ m L H,m < c->I m L H->wSs (aM n) ao b (L.set x (.int (i+m))) H (G8 Q (I (m+1))) X)
  (fin:∀ L H,I c L H->Q .next L H):B_ x (fun L H Q X=>wSs (aM n) ao b L H Q X) Q X k i L H:=
 ⟨fun k i' L H=>∃ m:Nat,i'=i+m/\m+k=c/\I m L H,⟨0,(S_ i).symm,(jF k).trans hc,h0⟩,fun _ L H ⟨m,_,e,h⟩=>fin _ _ (e▸h),fun k i' L H ⟨m,e1,e2,h⟩=>by
  subst e1
  exact dG (dj n) b (oF fun L1 H1 z=>⟨m+1,nS i m 1,(Nat.succ_add_eq_add_succ m k).trans e2,z⟩) (fun _ _ _ z=>z) (step m L H (e2▸NK (sC k)) h)⟩
end
section
variable {n:Nat}{H:Hp}{Q:PV}{X:PX}{a:ax}{d rest:ah aA}{p m:Nat}
theorem Fu (ha:H a=aa (cu d p)) (hd:d.drop p=vi m++rest) (hl:d.length<=line) (hm:m < 2 ^ 64) (hr:m<=rest.length) (q:Q (.int m) (H.set a (cu d (p+(vi m).length)))):aM (n+4) .zU [.ref a] H Q X:=by
 refine bA rfl ?_
 have h1:=aW List.length hd
 have h3:=te hd (G4 m)
 rw[fJ,bN] at h1
 refine bM (bH (ai rfl) ha rfl aE (tp ha hd hl hm ?_))
 refine bK (kn (ai rfl) (d' (ai rfl) aN rfl aE fun _ _ q=>ZW aN hl q)) (cb (EU [] 0x10000105 [d.length,p,(vi m).length,m,rest.length] 0x11001100006001900110019011007002001 0x301201041001746 0x40300 0x40204502 0x201040 hr h1 h3 aQ)) ?_
 exact cy (ai rfl) q
theorem RG (vs:ah Nat):vs.length<=((vs.map vi).flatten).length:=by
 induction vs with
 |nil=>exact bD 0
 |cons v vs ih=>rw[gu,qA,bN,jf];have:=qd v;exact fw [vs.length,(vi v).length,(List.map vi vs).flatten.length] eI 0x20104120040 pO 0x10120 ih this aQ
theorem OQ (done:ah Nat) (w:Nat):((done++[w]).map vi).flatten=(done.map vi).flatten++vi w:=by
 rw[f6,xJ,gu,BM,qA,xF,fT]
theorem KU {vs:ah Nat} (hv:mf vs) (ha:H a=aa (cu d p)) (hd:d.drop p=ids vs++rest) (hl:d.length<=line) (q:Q (.bE (vs.map nv)) (H.set a (cu d (p+(ids vs).length)))):aM (n+5) .pz [.ref a] H Q X:=by
 refine bA rfl (bM (iH aE (bX _) fun b hb=>?_))
 obtain⟨h1,h2,h3⟩:=hv
 have KG:a≠b:=a_ ha hb
 rw[ids,dE] at hd
 have h4:vs.length<=((vs.map vi).flatten++rest).length:=by rw[bN];exact aK (RG vs) (fu ..)
 refine Qj (bQ (aq (ai rfl) aE) (Fu (bZ KG ha) hd hl (cw [vs.length] bJ pP rL h2 aQ) h4 ⟨0,vs.length,rfl,rfl,by decide,by decide,by exact lE [vs.length] hJ Iv aQ,by exact cw [vs.length] bJ Iu rL h2 aQ,?_⟩))
 refine KI vs.length (lT [] 0x200174101 [vs.length] Nl 258 aQ) (fun m L H1=>L .dA=aa (.ref a)/\L .kB=aa (.ref b)/\H1=(H.set b (.bE ((vs.take m).map nv))).set a (cu d (p+(vi vs.length++((vs.take m).map vi).flatten).length))) ⟨rfl,rfl,by rw[LY,BM,BM,xF,fT]⟩ ?_ ?_
 ·rintro m L H1 hm ⟨e3,e4,rfl⟩
  have ew:vs[m]? =aa vs[m]:=lK hm
  have et:vs.take (m+1)=vs.take m++[vs[m]]:=(List.take_append_getElem hm).symm
  have ev:vs=vs.take m++vs[m]::vs.drop (m+1):=by rw[List.getElem_cons_drop,Jb]
  generalize vs[m]=w at et ev
  generalize vs.take m=done at et ev
  generalize vs.drop (m+1)=rs at ev
  have hd2:d.drop (p+(vi vs.length++(done.map vi).flatten).length)=vi w++((rs.map vi).flatten++rest):=fp (by
   rw[hd,dE];refine aW (_++ ·) ?_
   rw[ev,f6,xJ,dE,gu,qA,dE])
  have hw:w < 2 ^ 64:=ft (h3 w (by rw[ev];exact t9 _ (uX ..))) (by decide)
  refine bM (bH (ai e3) aN rfl aE (tp aN hd2 hl hw ?_))
  rw[Hp.set_set]
  have hB:∀ o:Mo,((H.set b (.bE (done.map nv))).set a o) b=aa (.bE (done.map nv)):=fun o=>bZ KG.symm aN
  have u3:(done.map nv).length < line:=by rw[cF];rw[ev,bN] at h2;unfold line;exact cw [done.length,(w::rs).length] bJ rM 0x22100040 h2 aQ
  have hp:p+(vi vs.length++(done.map vi).flatten).length+(vi w).length=p+(vi vs.length++((done++[w]).map vi).flatten).length:=by rw[OQ,<- dE,bN (bs:=vi w),dU]
  generalize p+(vi vs.length++(done.map vi).flatten).length+(vi w).length=p' at hp ⊢
  have t1:=P4 (hB (cu d p')) (fH u3)
  refine vw (ai e4) t1 (fun hz=>?_) (bo (oW (ai e4) (hB _) (ai rfl) u3 ⟨rfl,bG ⟨e3,e4,?_⟩⟩))
  ·rcases X1 done with rfl |⟨d0,u,rfl⟩
   ·contradiction
   ·rw[Jc] at hB ev
    rw[ev,dE,NG] at h1
    have hu:u < w:=Yo h1.2.1 (uX ..)
    rw[Jc]
    exact⟨_,Xg (ai rfl) (vA (ai e4) (hB _) (by rw[f6];exact SH)),cb (cw [w,u] mF 0x10100136 257 hu aQ)⟩
  rw[et,<- hp,set_comm KG,Hp.set_set,f6];rfl
 ·rintro L H1 ⟨e3,e4,rfl⟩
  rw[sH]
  refine bC (rb e4 (bZ KG.symm aN) (cy (ai rfl) ?_))
  rw[set_drop KG,pM hb]
  exact q
end
section
variable {n p m:Nat}{rz:aj}{r:Ss}{L:b5}{H:Hp}{Q:PO}{X:fk}{a:ax}{d rest:ah aA}{e:E}{x:Nm}
theorem HN (z:PE (aM (n+1)) L H e (.bytes d)) (hl:d.length<=line) (k:∀ a,H a=au->wSs (aM (n+1)) rz r (L.set x (.ref a)) (H.set a (cu d 0)) Q X):wSs (aM (n+1)) rz (.cons (.bz x (.new ao .Cursor (.cons e .nil))) r) L H Q X:=
 bM (lV (aq z aE) rfl fun a ha=>O5 aN hl ⟨rfl,by rw[Hp.set_set];exact k a ha⟩)
theorem w_ (z:PE (aM (n+3)) L (H.set a (cu d p)) e (.ref a)) (hd:d.drop p=vi m++rest) (hl:d.length<=line) (hm:m < 2 ^ 64) (k:wSs (aM (n+3)) rz r (L.set x (nv m)) (H.set a (cu d (p+(vi m).length))) Q X):wSs (aM (n+3)) rz (.cons (.bz x (.bk e .eJ .nil)) r) L (H.set a (cu d p)) Q X:=
 bM (bH z aN rfl aE (tp aN hd hl hm (by rw[Hp.set_set];exact k)))
theorem ZL {b:ah aA} (z:PE (aM (n+4)) L (H.set a (cu d p)) e (.ref a)) (hd:d.drop p=lp b++rest) (hl:d.length<=line) (hm:b.length < 2 ^ 32) (k:wSs (aM (n+4)) rz r (L.set x (.bytes b)) (H.set a (cu d (p+(lp b).length))) Q X):wSs (aM (n+4)) rz (.cons (.bz x (.bk e .jJ .nil)) r) L (H.set a (cu d p)) Q X:=
 bM (bH z aN rfl aE (yo aN hd hl hm (by rw[Hp.set_set];exact k)))
theorem zI {vs:ah Nat} (hv:mf vs) (z:PE (aM (n+5)) L (H.set a (cu d p)) e (.ref a)) (hd:d.drop p=ids vs++rest) (hl:d.length<=line) (k:wSs (aM (n+5)) rz r (L.set x (.bE (vs.map nv))) (H.set a (cu d (p+(ids vs).length))) Q X):wSs (aM (n+5)) rz (.cons (.bz x (.bL .pz (.cons e .nil))) r) L (H.set a (cu d p)) Q X:=
 bM (bQ (aq z aE) (KU hv aN hd hl (by rw[Hp.set_set];exact k)))
theorem ZM {b:aj} (z:PE (aM (n+1)) L (H.set a (cu d p)) e (.ref a)) (hd:d.drop p=(if b then[1] else[0])++rest) (hl:d.length<=line) (k:wSs (aM (n+1)) rz r (L.set x (.bool b)) (H.set a (cu d (p+1))) Q X):wSs (aM (n+1)) rz (.cons (.bz x (.bk e .C7 .nil)) r) L (H.set a (cu d p)) Q X:=
 bM (bH z aN rfl aE (Wm aN hd hl (by rw[Hp.set_set];exact k)))
theorem AV (z:PE (aM (n+1)) L (H.set a (cu d p)) e (.ref a)) (hl:d.length<=line) (hp:d.length<=p) (k:wSs (aM (n+1)) rz r L (H.set a (cu d p)) Q X):wSs (aM (n+1)) rz (.cons (.expr (.bk e .qE .nil)) r) L (H.set a (cu d p)) Q X:=
 bo (bH z aN rfl aE (Nz aN hl hp ⟨rfl,k⟩))
theorem vO {xs:ah aA} (h:d.drop p=xs):d.length<=p+xs.length:=by
 rw[<- h,fJ];exact lT [] vU [d.length,p] 0x11011020011001103002 oI aQ
end
section
variable {n:Nat}{H:Hp}{Q:PV}{X:PX}{a:ax}{d rest:ah aA}{p m:Nat}
theorem Cy {vs:ah Nat} (hv:mf vs) (q:∀ H',H.le H'->Q (Nn vs) H'):aM (n+6) .yd [.bytes (Np vs)] H Q X:=by
 have hl:(Np vs).length<=line:=aK (ti hv) (by decide)
 have e0:(Np vs).drop 0=ids vs++(ids []++(ids []++(ids []++[0]))):=rfl
 have e1:=fp e0
 have e2:=fp e1
 have e3:=fp e2
 have e4:=fp e3
 refine bA rfl (HN (ai rfl) hl fun a ha=>?_)
 refine zI hv (ai rfl) e0 hl (zI .nil (ai rfl) e1 hl (zI .nil (ai rfl) e2 hl (zI .nil (ai rfl) e3 hl (ZM (b:=false) (rest:=[]) (ai rfl) e4 hl (AV (ai rfl) hl (vO e4) ?_)))))
 exact cy (EB hv rfl (aq (ai rfl) (aq (ai rfl) (aq (ai rfl) (aq (ai rfl) (aq (ai rfl) aE)))))) (q _ (iB ha))
theorem Bd {e:En} (h:e.Ok) (q:∀ H',H.le H'->Q e.v H'):aM (n+6) .vQ [.bytes e.enc] H Q X:=by
 have hl:e.enc.length<=line:=aK (vN h) (by decide)
 have e0:e.enc.drop 0=vi e.t++(vi e.i++(vi e.k++lp e.d)):=rfl
 have e1:=fp e0
 have e2:=fp e1
 have e3:=fp e2
 have up:∀ {k},k < 2 ^ 32->k < 2 ^ 64:=fun h=>ft h (by decide)
 refine bA rfl (HN (ai rfl) hl fun a ha=>?_)
 refine w_ (ai rfl) e0 hl (up h.t) (w_ (ai rfl) e1 hl (up h.i) (w_ (ai rfl) e2 hl (cE h.k2 (by decide)) ?_))
 refine bK (v:=.bool ao) ?_ rfl (ZL (rest:=[]) (ai rfl) (by rw[fT];exact e3) hl (cE h.d (by decide)) (AV (ai rfl) hl (vO e3) ?_))
 ·rcases h.k with k |k
  ·exact gF (a9 (jl (kI (ai rfl) (bw rfl)) (mZ (cw [e.k] 0x11011003001100030001 0x20015 0x2002 k aQ)))) (by rw[k];rfl)
  ·exact gF (a9 (dJ (kI (ai rfl) (bw rfl)) (xX (cw [e.k] 0x110190030001 0x200156 0x22002 k aQ)) (cP (kI (ai rfl) (bw rfl))))) (by rw[k];rfl)
 ·exact cy (vB (aq (ai rfl) (aq (ai rfl) (aq (ai rfl) (aq (ai rfl) aE))))) (q _ (iB ha))
theorem kP {x:V}{es:ah En} (hx:listOf H x=aa (es.map En.v)) (hl:es.length<=1000) (q:Q (.bE (es.map En.row)) H):aM (n+2) .j6 [x] H Q X:=
 bA rfl (cy (Hy En.v En.row es (ai rfl) hx (aK hl (by decide)) fun _ _=>jX (ai rfl) rfl aE fun _ _ q=>ZZ q) q)
theorem o5 {x:V}{es:ah En} (hx:listOf H x=aa (es.map En.row)) (hl:es.length<=1000) (q:Q (.bE (es.map En.v)) H):aM (n+2) .ry [x] H Q X:=
 bA rfl (cy (Hw (fun e:En=>[nv e.t,nv e.i,nv e.k,.bytes e.d]) En.v es (ai rfl) hx (aK hl (by decide)) (fun _ _=>rfl) fun _ _=>vB (aq (ai rfl) (aq (ai rfl) (aq (ai rfl) (aq (ai rfl) aE))))) q)
theorem Qq (z:Nat) (u:aA):(List.replicate z [u]).flatten=List.replicate z u:=by
 induction z with
 |zero=>rfl
 |succ z ih=>rw[List.replicate_succ,qA,ih];rfl
theorem uK {t i c:Nat} (ht:t < 2 ^ 32) (hi:i < 2 ^ 32) (hc:c<=1000) (q:Q (.bE ((ents i (List.replicate c t)).map En.row)) H):aM (n+1) .vH [.int t,.int i,.int c] H Q X:=by
 refine bA rfl (bM (iH aE (bX _) fun b hb=>?_))
 refine YL (i:=i) (ai rfl) (jC (ai rfl) (ai rfl)) rfl (lE [i] hJ Iv aQ) (cw [i] bJ Iu og hi aQ) (lE [i,c] hJ 0x101001440000000000000008383 aQ) (fw [i,c] eI 0x40000000000000008310100144 og 0x3e823100 hi hc aQ) ?_
 refine KI c (lT [] 0x1101001474102 [i,c] Nl 0x10202 aQ) (fun m L H1=>L .bO=aa (.int t)/\L .f7=aa (.ref b)/\H1=H.set b (.bE ((ents i (List.replicate m t)).map En.row))) ⟨rfl,rfl,rfl⟩ ?_ ?_
 ·rintro m L H1 hm ⟨e3,e4,rfl⟩
  have hl:((ents i (List.replicate m t)).map En.row).length < line:=by rw[cF,fi,nP];unfold line;exact fw [m,c] eI rM 0x3e823100 rI hc hm aQ
  have i1:(i+m) % 3 < 3:=dD _ (by decide)
  have i2:(t+(i+m)) % 256 < 256:=dD _ (by decide)
  have en:ents i (List.replicate (m+1) t)=ents i (List.replicate m t)++[kF t (i+m)]:=by
   rw[List.replicate_succ',rG,nP];rfl
  have key:∀ L2 kk,L2 .bO=aa (.int t)->L2 .f7=aa (.ref b)->L2 .xi=aa (.int (i+m))->L2 .cM=aa (nv kk)->kk=(kF t (i+m)).k->
    wSs (aM n) ao (.cons (.expr (.bk (.aC .f7) .dg (.cons (.tuple (.cons (.aC .bO) (.cons (.aC .xi) (.cons (.aC .cM) (.cons (.bR .mul (.bc .bytes (.cons (.list ag (.cons (.bR .mod (.bR .add (.aC .bO) (.aC .xi)) (.int 256)) .nil)) .nil)) (.bR .mod (.aC .xi) (.int 3))) .nil))))) .nil))) .nil) L2 (H.set b (.bE ((ents i (List.replicate m t)).map En.row)))
     (G8 (i9 (aM n) ag (.cons (.freeze .f7) (.cons (.ret (.aC .f7)) .nil)) (Ck Q) (wU X)) (fun L H1=>L .bO=aa (.int t)/\L .f7=aa (.ref b)/\H1=H.set b (.bE ((ents i (List.replicate (m+1) t)).map En.row)))) (wU X):=by
   rintro L2 _ k1 k2 k3 k4 rfl
   have b1:PE (aM n) L2 (H.set b (.bE ((ents i (List.replicate m t)).map En.row))) (.bR .mod (.bR .add (.aC .bO) (.aC .xi)) (.int 256)) (.int (((t+(i+m)) % 256:Nat):Int)):=rj (jC (ai k1) (ai k3)) aH (by decide)
   have b2:=oA (cG (aq b1 aE) (aT rfl)) rfl (Oy i2) (aT rfl)
   have b3:PE (aM n) L2 (H.set b (.bE ((ents i (List.replicate m t)).map En.row))) (.bR .mod (.aC .xi) (.int 3)) (.int (((i+m) % 3:Nat):Int)):=rj (ai k3) aH (by decide)
   have b4:=Vj b2 b3 (lT [] 0x31100043102 [i,m] hJ 0x301023 aQ) (gg [] 0x31100043102 [i,m] bJ 0x64133013 0x32301 i1 aQ) nofun (aT rfl)
   rw[Int.toNat_natCast,Qq] at b4
   refine bo (oW (ai k2) aN (dw (aq (ai k1) (aq (ai k3) (aq (ai k4) (aq b4 aE)))) (aT rfl)) hl ⟨rfl,bG ⟨k1,k2,?_⟩⟩)
   rw[Hp.set_set,en,f6];rfl
  refine aR (bw rfl) (q_ (z:=(((i+m) % 5:Nat):Int)=4) (cU (show PE _ _ _ _ (.int (((i+m) % 5:Nat):Int)) from rj (i:=(i:Int)+m) (j:=5) (ai rfl) aH (by decide)) aH) (fun h=>aR (bw rfl) (bG (bC (key _ 2 e3 e4 rfl rfl (a8 (gg [] 0x51100043102 [i,m] DI 0x42302 0x423015 h aQ)).symm)))) fun h=>bG (bC (key _ 0 e3 e4 rfl rfl (bb (gg [] 0x51100043102 [i,m] AZ 0x423026 0x4230156 h aQ)).symm)))
 ·rintro L H1 ⟨e3,e4,rfl⟩
  exact bC (rb e4 aN (cy (ai rfl) (by rw[pM hb];exact q)))
theorem P9 {es:ah En} (he:∀ e∈es,e.Ok):(es.map En.size).sum<=42*es.length:=by
 induction es with
 |nil=>exact bD 0
 |cons e es ih=>
  have:=size_le (he e (.head _))
  have:=ih fun x hx=>he x (.tail _ hx)
  rw[gu,LS,jf];exact fw [e.size,(List.map En.size es).sum,es.length] eI 0x122042a15100040 0x2a13000 0x202a15100 (by assumption) this aQ
theorem Fx {x:V}{es:ah En}{lim:Int} (hx:listOf H x=aa (es.map En.v)) (he:∀ e∈es,e.Ok) (hl:es.length<=1000) (hm:42000<=lim) (q:Q (.bE (es.map En.v)) H):aM (n+3) .kN [x,.int lim] H Q X:=by
 refine bA rfl (aR aH (bM (iH aE (bX _) fun b hb=>?_)))
 refine tK (ai rfl) (rt hb hx) (qo En.v es (fun done L H1=>L .xn=aa (.int lim)/\L .lA=aa (.ref b)/\L .Ea=aa (.int ((done.map En.size).sum:Nat))/\H1=H.set b (.bE (done.map En.v))) ⟨rfl,rfl,rfl,rfl⟩ ?_ ?_ ?_)
 ·rintro done L H1 ⟨e3,e4,e5,rfl⟩;exact rt hb hx
 ·rintro done w rs L H1 e1 ⟨e3,e4,e5,rfl⟩
  have hw:w.Ok:=he w (by rw[e1];exact t9 _ (uX ..))
  have hs:=P9 (es:=done++[w]) fun x hx=>he x (by rw[e1];rcases iS.mp hx with h |h;exact NF _ h;exact t9 _ (by rw[eT.mp h];exact uX ..))
  have abU:((done++[w]).map En.size).sum=(done.map En.size).sum+w.size:=by rw[f6,List.sum_append];rfl
  have hle:done.length+1<=1000:=by rw[e1,bN,jf] at hl;exact cw [done.length,rs.length] bJ 0x3e823120040 0x3e823121040040 hl aQ
  have u3:(done.map En.v).length < line:=by rw[cF];unfold line;exact cw [done.length] bJ rM 0x3e823120040 hle aQ
  rw[bN,BG,abU] at hs
  refine Et e5 (jX (ai rfl) rfl aE fun _ _ q=>Wk hw q) (vw (ai e4) (P4 aN (fH u3)) (fun _=>⟨_,kn (ai rfl) (ai e3),cb (EU [lim] 0 [(List.map En.size done).sum,w.size,done.length] 0x112a10110110050001 0x10100140046 0xa410233 0x122042a15100040 0x3e823122040 hm hs hle aQ)⟩) (bo (oW (ai e4) aN (ai rfl) u3 ⟨rfl,bG ⟨e3,e4,?_,?_⟩⟩)))
  ·rw[abU];rfl
  ·rw[Hp.set_set,f6];rfl
 ·rintro L H1 ⟨e3,e4,e5,rfl⟩
  exact bC (rb e4 aN (cy (ai rfl) (by rw[pM hb];exact q)))
end
structure Sg where
 cnt:Nat
 bi:Nat
 bt:Nat
 cf:aB (ah Nat)
 hd:Hd
 es:ah En
 pend:ah En
noncomputable def cfO:aB (ah Nat)->V
 |none=>.none
 |some vs=>Nn vs
noncomputable def Sg.o (σ:Sg) (e p:ax):Mo:=.inst .iY [(.eK,nv σ.cnt),(.cD,nv σ.bi),(.bU,nv σ.bt),(.dq,cfO σ.cf),(.cO,σ.hd.o),(.aS,.ref e),(.il,.ref p)]
structure fK (H0 H:Hp) (s e p:ax) (σ:Sg):Prop where
 le:H0.le H
 s0:H0 s=au
 e0:H0 e=au
 p0:H0 p=au
 at_:H s=aa (σ.o e p)
 es:H e=aa (.bE (σ.es.map En.v))
 pd:H p=aa (.bE (σ.pend.map En.v))
 ne:e≠p
 VK:σ.es.length<=10000
 le2:σ.pend.length<=10000
def gm (H0 H:Hp) (s:ax) (σ:Sg):Prop:=∃ e p,fK H0 H s e p σ
theorem eZ {H:Hp}{a b:ax}{o:Mo} (k:H b=au) (h:H a=aa o):a≠b:=a_ h k
theorem aZ {H:Hp}{a b:ax}{o p:Mo} (h:H a=aa o) (k:H b=aa p) (n:o≠p):a≠b:=fun e=>n (eS (by rw[<- h,e,k]))
section
variable {C:CC}{L:b5}{H:Hp}{e c:E}{ad:ax}{xs:ah V}{k:Nat}{Qv:PV}{Xv:PX}
theorem Zb (p:PE C L H e (.ref ad)) (g:H ad=aa (.bE xs)) (z:PE C L H c (.int k)) (hk:k<=xs.length) (hl:xs.length<=line) (q:∀ a,H a=au->Qv (.ref a) (H.set a (.bE (xs.take k)))):wE C (.slice ao e .none c) L H Qv Xv:=
 p _ _ (z _ _ ⟨xs,EZ g,0,k,hl,rfl,gT rfl hk hl,aK (gj _ _ _) hl,q⟩)
end
section
variable {n:Nat}{H0 H:Hp}{Q:PV}{X:PX}{s e p:ax}{σ:Sg}
theorem fK.se (S:fK H0 H s e p σ):s≠e:=aZ S.at_ S.es nofun
theorem fK.sp (S:fK H0 H s e p σ):s≠p:=aZ S.at_ S.pd nofun
theorem fK.more {H':Hp} (S:fK H0 H s e p σ) (l:H.le H'):fK H0 H' s e p σ:=⟨le_trans S.le l,S.s0,S.e0,S.p0,l _ _ S.at_,l _ _ S.es,l _ _ S.pd,S.ne,S.VK,S.le2⟩
theorem fK.turn {τ:Sg} (S:fK H0 H s e p σ) (h1:τ.es=σ.es) (h2:τ.pend=σ.pend):fK H0 (H.set s (τ.o e p)) s e p τ:=
 ⟨f5 S.le S.s0,S.s0,S.e0,S.p0,aN,by rw[h1];exact bZ S.se.symm S.es,by rw[h2];exact bZ S.sp.symm S.pd,S.ne,by rw[h1];exact S.VK,by rw[h2];exact S.le2⟩
theorem fK.push {es:ah En} (S:fK H0 H s e p σ) (hl:es.length<=10000):fK H0 (H.set e (.bE (es.map En.v))) s e p {σ with es:=es}:=
 ⟨f5 S.le S.e0,S.s0,S.e0,S.p0,bZ S.se S.at_,aN,bZ S.ne.symm S.pd,S.ne,hl,S.le2⟩
theorem fK.swap {es:ah En}{e1:ax} (S:fK H0 H s e p σ) (he:H e1=au) (hl:es.length<=10000):fK H0 ((H.set e1 (.bE (es.map En.v))).set s (Sg.o {σ with es:=es} e1 p)) s e1 p {σ with es:=es}:=
 have n:=a_ S.at_ he
 ⟨f5 (f5 S.le (none_le S.le he)) S.s0,S.s0,none_le S.le he,S.p0,aN,bZ n.symm aN,bZ S.sp.symm (bZ (a_ S.pd he) S.pd),(a_ S.pd he).symm,hl,S.le2⟩
theorem fK.aa7 {p1:ax}{hd:Hd} (S:fK H0 H s e p σ) (he:H p1=au):fK H0 ((H.set p1 (.bE [])).set s (Sg.o {σ with pend:=[],hd:=hd} e p1)) s e p1 {σ with pend:=[],hd:=hd}:=
 have n:=a_ S.at_ he
 ⟨f5 (f5 S.le (none_le S.le he)) S.s0,S.s0,S.e0,none_le S.le he,aN,bZ S.se.symm (bZ (a_ S.es he) S.es),bZ n.symm aN,a_ S.es he,S.VK,bX _⟩
theorem XR (hs:H s=au) (q:∀ H',gm H H' s ⟨0,0,0,au,⟨0,0,0⟩,[],[]⟩->Q .none H'):aM (n+2) .kr [.ref s] (H.set s (.inst .iY [])) Q X:=by
 refine bA rfl ?_
 refine cT aH (ai rfl) aN (aT rfl) (by decide) ?_;refine bj aH (ai rfl) (aT rfl) (by decide) ?_;refine bj aH (ai rfl) (aT rfl) (by decide) ?_;refine bj iO (ai rfl) (aT rfl) (by decide) ?_
 refine cT (oz (aq aH (aq aH (aq aH aE)))) (ai rfl) aN (aT rfl) (by decide) ?_
 refine eP (iH aE (bX _) fun e he=>?_)
 rw[Hp.set_set,Hp.set_set] at he
 rw[Hp.set_set,Hp.set_set]
 have hse:=a_ aN he
 have he0:=none_le (iB hs) he
 refine yK (ai rfl) (bZ hse aN) (aT rfl) (by decide) ?_
 refine eP (iH aE (bX _) fun p hp=>?_)
 have hp0:=none_le (f5 (f5 (iB hs) he0) hs) hp
 have hsp:=a_ aN hp
 have hep:=eZ hp (bZ hse.symm aN)
 exact yK (ai rfl) (bZ hsp aN) (aT rfl) (by decide) (bG (q _ ⟨e,p,f5 (f5 (f5 (f5 (iB hs) he0) hs) hp0) hs,hs,he0,hp0,aN,bZ hse.symm (bZ hep (bZ hse.symm aN)),bZ hsp.symm aN,hep,bX _,bX _⟩))
noncomputable def gQ (bi:Nat) (es:ah En) (x:En):aB (ah En):=if bi+1<=x.i/\x.i<=bi+1+es.length then aa (es.take (x.i-bi-1)++[x]) else au
noncomputable def fg (bi:Nat):ah En->ah En->aB (ah En)
 |es,[]=>aa es
 |es,x::xs=>(gQ bi es x).bind fun ik=>fg bi ik xs
theorem qe (bi:Nat):∀ (xs ys es:ah En),fg bi es (xs++ys)=(fg bi es xs).bind fun ik=>fg bi ik ys
 |[],ys,es=>rfl
 |x::xs,ys,es=>by
  show(gQ bi es x).bind _=((gQ bi es x).bind _).bind _
  cases gQ bi es x with
  |none=>rfl
  |some ik=>exact qe bi xs ys ik
theorem Hc {bi:Nat}{es ik:ah En}{x:En} (h:gQ bi es x=aa ik):(bi+1<=x.i/\x.i<=bi+1+es.length)/\es.take (x.i-bi-1)++[x]=ik:=by
 by_cases c:bi+1<=x.i/\x.i<=bi+1+es.length
 ·exact⟨c,eS ((a8 c).symm.trans h)⟩
 ·cases(bb c).symm.trans h
theorem Og {bi:Nat}{es:ah En}{x:En} (h:gQ bi es x=au):¬ (bi+1<=x.i/\x.i<=bi+1+es.length):=fun c=>by cases(a8 c).symm.trans h
theorem We {x:En}{ik:ah En} (S:fK H0 H s e p σ) (hx:gQ σ.bi σ.es x=aa ik) (hl:σ.es.length < 9000) (q:∀ e1 H',fK H0 H' s e1 p {σ with es:=ik}->Q .none H'):aM (n+1) .jH [.ref s,x.v] H Q X:=by
 obtain⟨hc,rfl⟩:=Hc hx
 have lP:(σ.es.map En.v).length=σ.es.length:=cF ..
 have tP:(σ.es.map En.v).length<=line:=by unfold line;exact fw [(List.map En.v σ.es).length,σ.es.length] eI pT 0x232823101 pS hl lP aQ
 have ht:(σ.es.take (x.i-σ.bi-1)).length<=σ.es.length:=by rw[eX];exact je ..
 have h9:(σ.es.take (x.i-σ.bi-1)).length < line:=by unfold line;exact fw [(List.take (x.i-σ.bi-1) σ.es).length,σ.es.length] eI rM 0x232823101 dO hl ht aQ
 have lW:(σ.es.take (x.i-σ.bi-1)++[x]).length<=10000:=by rw[bN,BG];exact fw [(List.take (x.i-σ.bi-1) σ.es).length,σ.es.length] eI 0x271023120040 0x232823101 dO hl ht aQ
 have key:∀ e1 H1 (es0:ah En) (L2:b5),fK H0 H1 s e1 p {σ with es:=es0}->L2 .aG=aa (.ref s)->L2 .fZ=aa x.v->es0=σ.es.take (x.i-σ.bi-1)->wSs (aM n) ag (.cons (.expr (.bk (.aV (.aC .aG) .aS) .dg (.cons (.aC .fZ) .nil))) .nil) L2 H1 (Ck Q) (wU X):=by
  rintro e1 H1 _ L2 S1 k1 k2 rfl
  refine bo (oW (aP (ai k1) S1.at_ rfl) S1.es (ai k2) (by rw[cF];exact h9) ⟨rfl,bG (q e1 _ ?_)⟩)
  have:=S1.push lW
  rw[f6] at this
  exact this
 refine bA rfl (aR (jb (jb (bI (ai rfl) rfl) (aP (ai rfl) S.at_ rfl)) aH) ?_)
 have e1:((x.i:Int)-σ.bi-1)=((x.i-σ.bi-1:Nat):Int):=by exact gg [] 0x1230010000203 [x.i,σ.bi,σ.es.length] 0x1101100000600110110011000008001100110011000009012020110001100060011011000011000800190019001100000901202001011 0x50112101001775 0x20121044000001210407 hc aQ
 rw[e1]
 refine bK (eL (ai rfl) aH) (cb (lT [] 0x1220010000202 [x.i,σ.bi] mq 0x240146 aQ)) ?_
 refine bK (kn (ai rfl) (oy (aP (ai rfl) S.at_ rfl) S.es tP)) (cb (EU [] 0x1240020100204 [(List.map En.v σ.es).length,x.i,σ.bi,σ.es.length] 0x11001101901900070011001 0x60100146 0x30122044100101220407 0x30002 0x60112201101775 hc lP e1 aQ)) ?_
 refine q_ (eL (ai rfl) (oy (aP (ai rfl) S.at_ rfl) S.es tP)) (fun hp=>?_) (fun hp=>bG (bC (key e H σ.es _ S rfl rfl (mv (nt [] 0x1240020100204 [σ.es.length,x.i,σ.bi,(List.map En.v σ.es).length] 0x110019011040021 0x60000 770 0x30160146 lP hp aQ)).symm)))
 refine eP (Zb (aP (ai rfl) S.at_ rfl) S.es (ai rfl) (gg [] 0x1230010000203 [x.i,σ.bi,(List.map En.v σ.es).length] bJ 0x20500 0x2015014 hp aQ) tP fun e1 he1=>yK (ai rfl) (bZ (a_ S.at_ he1) S.at_) (aT rfl) (by decide) (bG (bC (key e1 _ _ _ ?_ rfl rfl rfl))))
 rw[<- sF]
 exact S.swap he1 (fw [(List.take (x.i-σ.bi-1) σ.es).length,σ.es.length] eI 0x271023000 0x232823101 dO hl ht aQ)
theorem IG {x:En} (S:fK H0 H s e p σ) (hx:gQ σ.bi σ.es x=au) (Ce:x.Ok) (q:X .eV H):aM (n+1) .jH [.ref s,x.v] H Q X:=by
 have hc:=Og hx
 have hl0:=S.VK
 have hi:=Ce.i
 have lP:(σ.es.map En.v).length=σ.es.length:=cF ..
 have tP:(σ.es.map En.v).length<=line:=by unfold line;exact fw [(List.map En.v σ.es).length,σ.es.length] eI pT 0x271023100 pS hl0 lP aQ
 refine bA rfl (aR (jb (jb (bI (ai rfl) rfl) (aP (ai rfl) S.at_ rfl)) aH) ?_)
 refine q_ (eL (ai rfl) aH) (fun h=>ou la q) fun h=>bG (bC ?_)
 exact c5 (kn (ai rfl) (oy (aP (ai rfl) S.at_ rfl) S.es tP)) (dC (GR [(List.map En.v σ.es).length,x.i,σ.bi,σ.es.length] 0x11000011001107001101100000070041031011 0x12201101770014 0x301220441001012204076 0x30002 0x2122011017746 hc lP h aQ)) (ou (JU (JU la (Qs (bI (ai rfl) rfl) (by unfold small;lia)) (by decide)) la (by decide)) q)
end
section
variable {n q m:Nat}{H0 H:Hp}{Q:PV}{X:PX}{s a e p:ax}{σ τ:Sg}{d rest:ah aA}{C:CC}{L:b5}{rz:aj}{r:Ss}{c:E}{f:Nm}{y:V}{Qo:PO}{Xo:fk}
theorem fK.other {o:Mo} (S:fK H0 H s e p σ) (A:H a=aa (cu d q)) (a0:H0 a=au):fK H0 (H.set a o) s e p σ:=
 ⟨f5 S.le a0,S.s0,S.e0,S.p0,bZ (aZ S.at_ A nofun) S.at_,bZ (aZ S.es A nofun) S.es,bZ (aZ S.pd A nofun) S.pd,S.ne,S.VK,S.le2⟩
theorem Xb (S:fK H0 H s e p σ) (A:H a=aa (cu d q)) (a0:H0 a=au) (hd:d.drop q=vi m++rest) (hl:d.length<=line) (hm:m < 2 ^ 64) (k:∀ K,fK H0 K s e p σ->K a=aa (cu d (q+(vi m).length))->Q (nv m) K):aM (n+3) .jz [.ref a] H Q X:=
 tp A hd hl hm (k _ (S.other A a0) aN)
theorem JM (S:fK H0 H s e p σ) (A:H a=aa (cu d q)) (z:PE C L H c (.ref s)) (h:τ.o e p=.inst .iY (cL [(.eK,nv σ.cnt),(.cD,nv σ.bi),(.bU,nv σ.bt),(.dq,cfO σ.cf),(.cO,σ.hd.o),(.aS,.ref e),(.il,.ref p)] f y)) (h1:τ.es=σ.es) (h2:τ.pend=σ.pend) (hf:f∈fieldsOf .iY)
  (k:∀ K,fK H0 K s e p τ->K a=aa (cu d q)->wSs C rz r L K Qo Xo):wE C c L H (fun x H2=>xK x H2 f y fun H3=>wSs C rz r L H3 Qo Xo) (fun c H1=>Xo c L H1):=
 yK z S.at_ (aT rfl) hf (by rw[<- h];exact k _ (S.turn h1 h2) (bZ (aZ S.at_ A nofun).symm A))
end
section
variable {n:Nat}{H0 H:Hp}{Q:PV}{X:PX}{s:ax}{σ:Sg}
theorem IE {b t:Nat}{vs:ah Nat} (S:gm H0 H s σ) (h0:σ.cnt=0) (hb:b < 2 ^ 32) (ht:t < 2 ^ 32) (hv:mf vs)
  (q:∀ H',gm H0 H' s {σ with bi:=b,bt:=t,cf:=some vs}->Q .none H'):aM (n+7) .ij [.ref s,.bytes (fold b t vs)] H Q X:=by
 obtain⟨e,p,S⟩:=S
 have l3:=ti hv
 have l4:(lp (Np vs)).length<=66:=du (c_ (cE l3 (by decide))) l3 (bD _)
 have hl:(fold b t vs).length<=line:=aK (du (x:=[4]) (bD 1) (du (c_ hb) (du (c_ ht) l4 (bD _)) (bD _)) (bD _)) (by decide)
 have e1:(fold b t vs).drop 1=vi b++(vi t++lp (Np vs)):=rfl
 have e2:=fp e1
 have e3:=fp e2
 have up:∀ {k},k < 2 ^ 32->k < 2 ^ 64:=fun h=>ft h (by decide)
 refine bA rfl (bK (kn (aP (ai rfl) S.at_ rfl) aH) (cb (cw [σ.cnt] mF 0x10246 0x2002 h0 aQ)) ?_)
 refine bM (lV (aq (ai rfl) (aq aH aE)) rfl fun a ha=>xd (p:=1) aN hl (j_ ..) ⟨rfl,?_⟩)
 rw[Hp.set_set]
 have a0:=none_le S.le ha
 refine eP (bH (ai rfl) aN rfl aE (Xb (S.more (iB ha)) aN a0 e1 hl (up hb) fun K S A=>JM (τ:={σ with bi:=b}) S A (ai rfl) rfl rfl rfl (by decide) fun K S A=>?_))
 refine eP (bH (ai rfl) A rfl aE (Xb S A a0 e2 hl (up ht) fun K S A=>JM (τ:={σ with bi:=b,bt:=t}) S A (ai rfl) rfl rfl rfl (by decide) fun K S A=>?_))
 refine eP (rB (Ed (bH (ai rfl) A rfl aE (yo (rest:=[]) A (by rw[fT];exact e3) hl (cE l3 (by decide)) (Cy hv fun K' l=>?_)))))
 refine JM (τ:={σ with bi:=b,bt:=t,cf:=some vs}) ((S.other A a0).more l) (l _ _ aN) (ai rfl) rfl rfl rfl (by decide) fun K S A=>?_
 exact bo (bH (ai rfl) A rfl aE (Nz A hl (vO e3) ⟨rfl,bG (q _ ⟨e,p,S⟩)⟩))
theorem Dh {bi:Nat}{es ik:ah En}{x:En} (h:gQ bi es x=aa ik):ik.length<=es.length+1:=by
 obtain⟨_,rfl⟩:=Hc h
 rw[bN,eX];exact SG (je ..) 1
theorem IC {h:Hd} (hh:h.Ok) (S:gm H0 H s σ) (Zh:σ.es.length+σ.pend.length < 8000)
  (hp:(∃ ik,fg σ.bi σ.es σ.pend=aa ik/\∀ H',gm H0 H' s {σ with es:=ik,pend:=[],hd:=h}->Q .none H')∨(∃ x,σ.pend=[x]/\gQ σ.bi σ.es x=au/\x.Ok/\∀ H',gm H0 H' s σ->X .eV H')):
  aM (n+8) .ka [.ref s,.bytes h.bs] H Q X:=by
 obtain⟨e,p,S⟩:=S
 obtain⟨h1,h2,h3⟩:=hh
 have hl:h.bs.length<=line:=aK (du (x:=[1]) (bD 1) (du (c_ h1) (du (c_ h2) (c_ h3) (bD _)) (bD _)) (bD _)) (by decide)
 have e1:h.bs.drop 1=vi h.t++(vi h.v++vi h.c):=rfl
 have e2:=fp e1
 have e3:=fp e2
 have up:∀ {k},k < 2 ^ 32->k < 2 ^ 64:=fun h=>ft h (by decide)
 refine bA rfl (bM (lV (aq (ai rfl) (aq aH aE)) rfl fun a ha=>xd (p:=1) aN hl (j_ ..) ⟨rfl,?_⟩))
 rw[Hp.set_set]
 refine w_ (ai rfl) e1 hl (up h1) (w_ (ai rfl) e2 hl (up h2) (w_ (rest:=[]) (ai rfl) (by rw[fT];exact e3) hl (up h3) (AV (ai rfl) hl (vO e3) ?_)))
 have S1:=S.more (iB (o:=cu h.bs (1+(vi h.t).length+(vi h.v).length+(vi h.c).length)) ha)
 refine tK (aP (ai rfl) S1.at_ rfl) (fU S1.pd) ?_
 rcases hp with ⟨ik,Ia,q⟩ |⟨x,UO,hx2,hx3,q⟩
 ·refine qo En.v σ.pend (fun done L H1=>∃ e1 RL,fK H0 H1 s e1 p {σ with es:=RL}/\fg σ.bi σ.es done=aa RL/\RL.length<=σ.es.length+done.length/\L .aG=aa (.ref s)/\L .bO=aa (nv h.t)/\L .om=aa (nv h.v)/\L .hZ=aa (nv h.c)) ⟨e,σ.es,S1,rfl,bD _,rfl,rfl,rfl,rfl⟩ ?_ ?_ ?_
  ·rintro done L H1 ⟨e1,RL,S2,g⟩;exact fU S2.pd
  ·rintro done w rest L H1 g1 ⟨e1,RL,S2,g2,g3,g4,g⟩
   have hlen:=aW List.length g1
   rw[bN,jf] at hlen
   rw[g1,qe,g2] at Ia
   obtain⟨es3,k1,k2⟩:=SN.mp (show(gQ σ.bi RL w).bind _=aa ik from Ia)
   refine bo (bH (ai g4) S2.at_ rfl (aq (ai rfl) aE) (We S2 k1 (cE g3 (fw [σ.es.length,done.length,σ.pend.length,rest.length] 0x19011011030 0x232823100041 0x1f4023200041 0x12304104202 Zh hlen aQ)) fun e3 H3 S3=>⟨rfl,bG ⟨e3,es3,S3,?_,?_,g4,g⟩⟩))
   ·rw[qe,g2];show(gQ σ.bi RL w).bind _=_;rw[k1];rfl
   ·have:=Dh k1
    rw[bN,BG]
    exact aK this (eH g3)
  ·rintro L H1 ⟨e1,RL,S2,g2,g3,g4,g5,g6,g7⟩
   cases Ia.symm.trans g2
   refine bC (eP (iH aE (bX _) fun p1 hp1=>yK (ai g4) (bZ (a_ S2.at_ hp1) S2.at_) (aT rfl) (by decide) ?_))
   refine cT (oz (aq (ai g5) (aq (ai g6) (aq (ai g7) aE)))) (ai g4) aN (aT rfl) (by decide) (bG ?_)
   rw[Hp.set_set]
   exact q _ ⟨e1,p1,S2.aa7 hp1⟩
 ·have hpd:=S1.pd
  rw[UO] at hpd ⊢
  exact Y9 (fU hpd) (bo (bH (ai rfl) S1.at_ rfl (aq (ai rfl) aE) (IG S1 hx2 hx3 (q _ ⟨_,_,S1⟩))))
end
section
variable {C:CC}{L:b5}{H0 H:Hp}{s e p:ax}{σ:Sg}{a1 a2 a3 r:Ss}{Q:PO}{X:fk}{rs:ah aA}{u:aA}
theorem vm (S:fK H0 H s e p σ) (l1:L .aG=aa (.ref s)) (l2:L .ej=aa (.bytes (u::rs))) (h0:σ.cnt=0->u.toNat=4) (h1:σ.cnt=1->u.toNat=1) (hl:(u::rs).length<=line) (k:wSs C ag r (L.set .cM (nv u.toNat)) H Q X):
  wSs C ag (.cons (.dp (.cB (.bc .len (.cons (.aC .ej) .nil)) .eq (.int 0)) a1 .nil) (.cons (.bz .cM (.idx (.aC .ej) (.int 0)))
   (.cons (.dp (.b7 ag (.cons (.cB (.aV (.aC .aG) .eK) .eq (.int 0)) (.cons (.cB (.aC .cM) .ne (.glob .q0)) .nil))) a2 .nil)
   (.cons (.dp (.b7 ag (.cons (.cB (.aV (.aC .aG) .eK) .eq (.int 1)) (.cons (.cB (.aC .cM) .ne (.glob .qZ)) .nil))) a3 .nil) r)))) L H Q X:=by
 refine bK (cU (eB (ai l2) hl) aH) (cb nofun) (aR (iW (k:=0) (ai l2) aH rfl hl) ?_)
 refine vw (t:=decide (((σ.cnt:Nat):Int)=0)) (cU (aP (ai l1) S.at_ rfl) aH) rfl (fun ht=>⟨_,kI (ai rfl) (bw rfl),mZ ?_⟩) ?_
 ·have:=h0 (by have:=ig ht;lia)
  exact cw [u.toNat] DI 0x420015 0x42002 this aQ
 refine vw (t:=decide (((σ.cnt:Nat):Int)=1)) (cU (aP (ai l1) S.at_ rfl) aH) rfl (fun ht=>⟨_,kI (ai rfl) (bw rfl),mZ ?_⟩) k
 have:=h1 (by have:=ig ht;lia)
 exact cw [u.toNat] DI 0x120015 0x12002 this aQ
theorem zV (S:fK H0 H s e p σ) (l1:L .aG=aa (.ref s)) (k:∀ K,fK H0 K s e p {σ with cnt:=σ.cnt+1}->Q .next L K):wSs C ag (.cons (.ic (.aC .aG) .eK .add (.int 1)) .nil) L H Q X:=
 ur (ai l1) S.at_ rfl aH (aT rfl) (by decide) (bG (k _ (S.turn (τ:={σ with cnt:=σ.cnt+1}) rfl rfl)))
end
section
variable {n:Nat}{H0 H:Hp}{Q:PV}{X:PX}{s:ax}{σ:Sg}
theorem A7 {x:En} (S:gm H0 H s σ) (hx:x.Ok) (hc:2<=σ.cnt) (hl:σ.pend.length < 8000)
  (q:∀ H',gm H0 H' s {σ with pend:=σ.pend++[x],cnt:=σ.cnt+1}->Q .none H'):aM (n+7) .eU [.ref s,.bytes x.bs] H Q X:=by
 obtain⟨e,p,S⟩:=S
 have tP:x.bs.length<=line:=aK (SG (vN hx) 1) (by decide)
 refine bA rfl (vm S rfl rfl (fun h=>by exact fw [σ.cnt] AY 0x42222 544 0x2002 hc h aQ) (fun h=>by exact fw [σ.cnt] AY 0x12222 544 0x12002 hc h aQ) tP ?_)
 refine mi (cU (ai rfl) (bw rfl)) (cb nofun) (mi (cU (ai rfl) (bw rfl)) (cb nofun) (c5 (cU (ai rfl) (bw rfl)) (dC rfl) ?_))
 refine bo (VO (aP (ai rfl) S.at_ rfl) S.pd (bQ (aq (MH (k:=1) (ai rfl) aH (j_ ..) tP) aE) (Bd hx fun H1 k1=>?_)))
 have S1:=S.more k1
 refine Rg S1.pd (by rw[cF];exact ft hl (by decide)) ⟨rfl,bG (bC (bG (bC (bG (bC (zV (σ:={σ with pend:=σ.pend++[x]}) ?_ rfl fun K T=>q _ ⟨e,p,T⟩))))))⟩
 exact⟨f5 S1.le S.p0,S.s0,S.e0,S.p0,bZ S.sp S1.at_,bZ S.ne S1.es,by rw[f6];exact aN,S.ne,S.VK,by rw[bN,BG];exact cw [σ.pend.length] bJ 0x271023120040 0x1f4023001 hl aQ⟩
theorem IF {b t:Nat}{vs:ah Nat} (S:gm H0 H s σ) (h0:σ.cnt=0) (hb:b < 2 ^ 32) (ht:t < 2 ^ 32) (hv:mf vs)
  (q:∀ H',gm H0 H' s {σ with bi:=b,bt:=t,cf:=some vs,cnt:=1}->Q .none H'):aM (n+8) .eU [.ref s,.bytes (fold b t vs)] H Q X:=by
 obtain⟨e,p,S⟩:=S
 have l3:=ti hv
 have l4:(lp (Np vs)).length<=66:=du (c_ (cE l3 (by decide))) l3 (bD _)
 have tP:(fold b t vs).length<=line:=aK (du (x:=[4]) (bD 1) (du (c_ hb) (du (c_ ht) l4 (bD _)) (bD _)) (bD _)) (by decide)
 refine bA rfl (vm S rfl rfl (fun h=>rfl) (fun h=>by exact fw [σ.cnt] 0x190110030 0x12422 0x2002 0x12002 h0 h aQ) tP ?_)
 refine c5 (cU (ai rfl) (bw rfl)) (dC rfl) ?_
 refine bo (bH (ai rfl) S.at_ rfl (aq (ai rfl) aE) (IE ⟨e,p,S⟩ h0 hb ht hv fun H1 ⟨e1,p1,S1⟩=>⟨rfl,bG (bC (zV S1 rfl fun K T=>q _ ⟨e1,p1,?_⟩))⟩))
 rw[h0] at T
 exact T
theorem vX {h:Hd} (hh:h.Ok) (S:gm H0 H s σ) (hc:1<=σ.cnt) (Zh:σ.es.length+σ.pend.length < 8000)
  (hp:(∃ ik,fg σ.bi σ.es σ.pend=aa ik/\∀ H',gm H0 H' s {σ with es:=ik,pend:=[],hd:=h,cnt:=σ.cnt+1}->Q .none H')∨(∃ x,σ.pend=[x]/\gQ σ.bi σ.es x=au/\x.Ok/\∀ H',gm H0 H' s σ->X .eV H')):aM (n+9) .eU [.ref s,.bytes h.bs] H Q X:=by
 obtain⟨e,p,S⟩:=S
 have tP:h.bs.length<=line:=aK (du (x:=[1]) (bD 1) (du (c_ hh.1) (du (c_ hh.2.1) (c_ hh.2.2) (bD _)) (bD _)) (bD _)) (by decide)
 refine bA rfl (vm S rfl rfl (fun h=>by exact fw [σ.cnt] AY 0x42122 288 0x2002 hc h aQ) (fun h=>rfl) tP ?_)
 refine mi (cU (ai rfl) (bw rfl)) (cb nofun) (c5 (cU (ai rfl) (bw rfl)) (dC rfl) ?_)
 refine bo (bH (ai rfl) S.at_ rfl (aq (ai rfl) aE) (IC hh ⟨e,p,S⟩ Zh (hp.imp ?_ fun x=>x)))
 rintro⟨ik,g1,q⟩
 exact⟨ik,g1,fun H1 ⟨e1,p1,S1⟩=>⟨rfl,bG (bC (bG (bC (zV S1 rfl fun K T=>q _ ⟨e1,p1,T⟩))))⟩⟩
theorem yR {r:ah aA} (S:gm H0 H s σ) (h:0 < σ.cnt) (x:X .eV H):aM (n+1) .ij [.ref s,.bytes r] H Q X:=by
 obtain⟨e,p,S⟩:=S
 exact bA rfl (c5 (kn (aP (ai rfl) S.at_ rfl) aH) (dC (cw [σ.cnt] bJ 0x1024 33 h aQ)) (ou la x))
theorem Cz (S:gm H0 H s σ) (h:2<=σ.cnt) (q:Q .none H):aM (n+1) .jt [.ref s] H Q X:=by
 obtain⟨e,p,S⟩:=S
 exact bA rfl (bK (eL (aP (ai rfl) S.at_ rfl) aH) (cb (cw [σ.cnt] mF 0x2200146 544 h aQ)) q)
def Bad (c:Nat) (r:ah aA):Prop:=r=[]∨∃ u rs,r=u::rs/\((c=0/\u≠4)∨(c=1/\u≠1)∨(0 < c/\u=4)∨(u≠1/\u≠2/\u≠4))
theorem KV {r:ah aA} (S:gm H0 H s σ) (hb:Bad σ.cnt r) (hl:r.length<=1000) (x:X .eV H):aM (n+2) .eU [.ref s,.bytes r] H Q X:=by
 obtain⟨e,p,S⟩:=S
 have tP:r.length<=line:=aK hl (by decide)
 rcases hb with rfl |⟨u,rs,rfl,hb⟩
 ·exact bA rfl (c5 (cU (eB (ai rfl) tP) aH) (dC rfl) (ou la x))
 have tn:∀ w:aA,u≠w->u.toNat≠w.toNat:=fun w h e=>h (UInt8.toNat_inj.mp e)
 by_cases c0:σ.cnt=0/\u≠4
 ·have:=tn 4 c0.2
  have:(4:aA).toNat=4:=rfl
  refine bA rfl (bK (cU (eB (ai rfl) tP) aH) (cb nofun) (aR (iW (k:=0) (ai rfl) aH rfl tP) ?_))
  exact c5 (a9 (dJ (cU (aP (ai rfl) S.at_ rfl) aH) (dC (by lia)) (cP (kI (ai rfl) (bw rfl))))) (xX (cw [u.toNat] AZ 0x4200156 0x420026 (by assumption) aQ)) (ou la x)
 by_cases c1:σ.cnt=1/\u≠1
 ·have:=tn 1 c1.2
  have:(1:aA).toNat=1:=rfl
  refine bA rfl (bK (cU (eB (ai rfl) tP) aH) (cb nofun) (aR (iW (k:=0) (ai rfl) aH rfl tP) ?_))
  refine bK (a9 (jl (cU (aP (ai rfl) S.at_ rfl) aH) (cb (by lia)))) (cb (by lia)) ?_
  exact c5 (a9 (dJ (cU (aP (ai rfl) S.at_ rfl) aH) (dC (by lia)) (cP (kI (ai rfl) (bw rfl))))) (xX (cw [u.toNat] AZ 0x1200156 0x120026 (by assumption) aQ)) (ou la x)
 have g0:σ.cnt=0->u=4:=fun h=>Yn fun k=>c0 ⟨h,k⟩
 have g1:σ.cnt=1->u=1:=fun h=>Yn fun k=>c1 ⟨h,k⟩
 refine bA rfl (vm S rfl rfl (fun h=>by rw[g0 h];rfl) (fun h=>by rw[g1 h];rfl) tP ?_)
 by_cases a4:u=4
 ·subst a4
  have hc:0 < σ.cnt:=by rcases hb with h |h |h |h;exact(h.2 rfl).elim;lia;exact h.1;exact(h.2.2 rfl).elim
  exact c5 (cU (ai rfl) (bw rfl)) (dC rfl) (bo (bH (ai rfl) S.at_ rfl (aq (ai rfl) aE) (yR ⟨e,p,S⟩ hc x)))
 have hb':u≠1/\u≠2:=by
  rcases hb with h |h |h |h
  ·exact(a4 (g0 h.1)).elim
  ·exact(h.2 (g1 h.1)).elim
  ·exact(a4 h.2).elim
  ·exact⟨h.1,h.2.1⟩
 have f1:=tn 1 hb'.1
 have f2:=tn 2 hb'.2
 have f4:=tn 4 a4
 have hu:=u.toNat_lt
 have:(1:aA).toNat=1:=rfl
 have:(2:aA).toNat=2:=rfl
 have:(4:aA).toNat=4:=rfl
 refine mi (cU (ai rfl) (bw rfl)) (cb (cw [u.toNat] AZ 0x4200156 0x420026 f4 aQ)) (mi (cU (ai rfl) (bw rfl)) (cb (cw [u.toNat] AZ 0x1200156 0x120026 f1 aQ)) (mi (cU (ai rfl) (bw rfl)) (cb (cw [u.toNat] AZ 0x2200156 0x220026 f2 aQ)) ?_))
 exact ou (JU la (Qs (ai rfl) (by unfold small;lia)) (by decide)) x
end
noncomputable def knd (bg en:aj):Nat:=if bg then(if en then 4 else 3) else(if en then 1 else 2)
theorem Za (bg en:aj):knd bg en < 5:=by cases bg<;>cases en<;>decide
noncomputable def jE (k:Nat) (d:ah aA):ah aA:=fx (ck (UInt8.ofNat k::d))++([UInt8.ofNat (d.length % 256),UInt8.ofNat (d.length / 256)]++(UInt8.ofNat k::d))
theorem jq (k:Nat) (d:ah aA):(jE k d).length=7+d.length:=by
 rw[nR];rfl
noncomputable def gap (B L:Nat):Nat:=if B-L % B < 7 then B-L % B else 0
noncomputable def room (B L:Nat):Nat:=B-(L+gap B L) % B
inductive Frs (B:Nat):Nat->aj->ah aA->ah aA->Prop
 |last {L:Nat}{bg:aj}{d:ah aA}:d.length<=room B L-7->Frs B L bg d (List.replicate (gap B L) 0++jE (knd bg ag) d)
 |more {L:Nat}{bg:aj}{d bs:ah aA}:room B L-7 < d.length->Frs B (L+gap B L+room B L) ag (d.drop (room B L-7)) bs->
   Frs B L bg d (List.replicate (gap B L) 0++(jE (knd bg ao) (d.take (room B L-7))++bs))
theorem Q3 {B x:Nat} (hB:0 < B):(x+(B-x % B)) % B=0:=by
 have h1:=dD x hB
 have h2:=Gu x B
 rw[show x+(B-x % B)=B*(x / B+1) by rw[uS];exact nt [] 0x20100104 [x,B,x % B,B*(x / B)] 0x110001100500190011019000600201100011005001100110110006002001 0x11106304400042 0x10201 0x203042 h1 h2 aQ];exact Nat.mul_mod_right ..
theorem Fd {B L:Nat} (hB:8<=B):gap B L<=6:=by unfold gap;split<;>lia
theorem KH {B L:Nat} (hB:8<=B) (h:gap B L≠0):gap B L=B-L % B/\(L+gap B L) % B=0:=by
 unfold gap at h ⊢
 split at h
 case isFalse=>exact(h rfl).elim
 rename_i hc
 rw[a8 hc]
 refine⟨rfl,?_⟩
 exact Q3 (cw [B] bJ 33 0x820 hB aQ)
theorem qf {B L:Nat} (hB:8<=B):7<=room B L/\room B L<=B:=by
 unfold room
 by_cases h:gap B L=0
 ·have h1:=dD L (show 0 < B by exact cw [B] bJ 33 0x820 hB aQ)
  have:¬ (B-L % B < 7):=by
   intro q
   unfold gap at h
   rw[a8 q] at h;exact nt [] vU [B,L % B] 0x11011000400110011011005002 11 0x2202 257 h h1 aQ
  rw[h,sA];exact gg [] vU [B,L % B] 0x11000110006001900110000600201101100040001011 0x200207207 0x722016 this aQ
 ·rw[(KH hB h).2];exact gg [] 0x2000101 [B] 0x110011004001900110005002011001100400110011011005002001 0x100107207 0x820 hB aQ
theorem Aa {B L:Nat} (hB:8<=B):(L+gap B L+room B L) % B=0:=by
 unfold room
 exact Q3 (cw [B] bJ 33 0x820 hB aQ)
theorem Ig {B L:Nat} (hB:8<=B) (h:L % B=0):gap B L=0:=by unfold gap;rw[h,bb (by exact gg [] 0x2000101 [B] 0x11001100400110011011005002001 0x721016 0x820 hB aQ)]
theorem wR {B L:Nat} (hB:8<=B) (h:L % B=0):room B L=B:=by unfold room;rw[Ig hB h,sA,h];rfl
structure pq (H:Hp) (w f:ax) (B:Nat) (F:ah aA):Prop where
 at_:H w=aa (.inst .jP [(.gC,.ref f),(.dB,nv B),(.fR,.int 2),(.gA,nv F.length)])
 fl:∃ ps:ah (ah aA),H f=aa (.bE (ps.map .bytes))/\ps.flatten=F/\ps.length<=F.length
theorem d7 {S:ah ax} (H:Hp):gZ S H H:=fun _ _ _ e=>e
theorem jD {S:ah ax}{a b c:Hp} (h:gZ S a b) (k:gZ S b c):gZ S a c:=fun x o n e=>k x o n (h x o n e)
theorem dS {S:ah ax}{H H1:Hp}{a:ax}{o:Mo} (h:gZ S H H1) (m:a∈S):gZ S H (H1.set a o):=fun x p n e=>(bb (fun q=>n (by rw[q];exact m))).trans (h x p n e)
theorem MW {S:ah ax}{a b:Hp} (h:a.le b):gZ S a b:=fun x o _ e=>h x o e
theorem pq.more {H H':Hp}{w f:ax}{B:Nat}{F:ah aA} (W:pq H w f B F) (l:H.le H'):pq H' w f B F:=by
 obtain⟨h1,ps,h2,h3⟩:=W
 exact⟨l _ _ h1,ps,l _ _ h2,h3⟩
theorem adZ {m k:Nat} (h:m < 256) (g:k < 256):octets [(m:Int),(k:Int)]=aa [UInt8.ofNat m,UInt8.ofNat k]:=by
 unfold octets;rw[a8 ⟨gw _,by exact cw [m] bJ A5 nE h aQ⟩,Oy g];rfl
section
variable {n:Nat}{H:Hp}{Q:PV}{X:PX}{w f:ax}{B:Nat}{F:ah aA}
theorem yU {k:Nat}{d:ah aA} (hk:k < 5) (hd:d.length<=1000) (q:Q (.bytes (jE k d)) H):aM (n+2) .oV [.int k,.bytes d,.int 2] H Q X:=by
 have hl:d.length<=line:=aK hd (by decide)
 have tP:(UInt8.ofNat k::d).length<=1001:=eH hd
 refine bA rfl (aR (eB (ai rfl) hl) (aR (zw (oA (cG (aq (ai rfl) aE) (aT rfl)) rfl (Oy (ft hk (by decide))) (aT rfl)) (ai rfl) (by rw[nR];exact aK tP (by decide))) ?_))
 have b1:∀ {L},L .jQ=aa (.int d.length)->PE (aM (n+1)) L H (.bR .mod (.aC .jQ) (.int 256)) (.int ((d.length % 256:Nat):Int)):=fun h=>rj (ai h) aH (by decide)
 have b2:∀ {L},L .jQ=aa (.int d.length)->PE (aM (n+1)) L H (.bR .fdiv (.aC .jQ) (.int 256)) (.int ((d.length / 256:Nat):Int)):=fun h=>ML (ai h) aH (by decide) (by decide)
 have b3:=adZ (m:=d.length % 256) (k:=d.length / 256) (dD _ (by decide)) (gg [] 0x1002003101 [d.length] 0x190110100203002 0x10023101 yi hd aQ)
 refine cy (zw (zw (eF (aq (eF (aq (ai rfl) (aq (ai rfl) aE)) fun _ _ q=>Be (aK tP (by decide)) q) aE) fun _ _ q=>Cv (XO _) q) (oA (cG (aq (b1 rfl) (aq (b2 rfl) aE)) (aT rfl)) rfl b3 (aT rfl)) (aT rfl)) (ai rfl) (aK (dX tP 6) (by decide))) ?_
 rw[dE];exact q
theorem pq.wf (W:pq H w f B F):w≠f:=by
 obtain⟨ps,h,_⟩:=W.fl
 exact aZ W.at_ h nofun
theorem R6 {o:ah aA} (W:pq H w f B F) (ho:o≠[]) (hl:F.length+o.length<=1000000) (q:∀ H',pq H' w f B (F++o)->gZ [w,f] H H'->Q .none H'):aM (n+1) .uf [.ref w,.bytes o] H Q X:=by
 have hwf:=W.wf
 obtain⟨h1,ps,h2,h3,h4⟩:=W
 have ho1:1<=o.length:=qB.mpr ho
 refine bA rfl (bo (oW (aP (ai rfl) h1 rfl) h2 (ai rfl) (by rw[cF];unfold line;exact fw [ps.length,F.length,o.length] eI rM 0xf424033201040 dO hl h4 aQ) ⟨rfl,?_⟩))
 have h5:=bZ (o:=.bE (ps.map .bytes++[.bytes o])) hwf h1
 refine ur (ai rfl) h5 rfl (eB (ai rfl) (by unfold line;exact cw [o.length,F.length] bJ pT 0xf424033001040 hl aQ)) (aT rfl) (by decide) (bG (q _ ⟨?_,ps++[o],?_,?_,?_⟩ (dS (dS (d7 H) (.tail _ (.head _))) (.head _))))
 ·rw[bN];exact aN
 ·rw[f6];exact bZ hwf.symm aN
 ·rw[xJ,h3,qA,xF,fT]
 ·rw[bN,bN,BG];exact fw [ps.length,F.length,o.length] eI 0x20104120040 dO 0x20120 h4 ho1 aQ
noncomputable def D6:Ss:=
(.cons (.expr (.bk (.aC .aG) .UT (.cons (.bL .oV (.cons (.aC .cM) (.cons (.slice ag (.aC .jR) (.aC .dY) (.aC .mU)) (.cons (.aV (.aC .aG) .fR) .nil)))) .nil)))
(.cons (.bz .dY (.aC .mU))
(.cons (.bz .gK (.bool ag))
.nil)))
noncomputable def Ur:Ss:=
(.cons (.bz .mU (.bc .min (.cons (.aC .jQ) (.cons (.bR .sub (.bR .add (.aC .dY) (.aC .xR)) (.glob .jU)) .nil))))
(.cons (.bz .lR (.cB (.aC .mU) .eq (.aC .jQ)))
(.cons (.dp (.aC .gK) (.cons (.bz .cM (.ite (.aC .lR) (.glob .GX) (.glob .zk)))
.nil) (.cons (.bz .cM (.ite (.aC .lR) (.glob .GY) (.glob .Ec)))
.nil))
D6)))
structure Pp (L:b5) (w:ax) (d:ah aA) (at_:Nat) (bg:aj):Prop where
 self:L .aG=aa (.ref w)
 size:L .jQ=aa (nv d.length)
 oct:L .jR=aa (.bytes d)
 at_:L .dY=aa (nv at_)
 bg:L .gK=aa (.bool bg)
theorem Y8 {a i r m:Nat} (h:i<=a) (h7:7<=r) (hm:m=min (a-i) (r-7)):min (a:Int) ((i:Int)+r-7)=((i+m:Nat):Int):=by
 rw[hm,<- Up,gY h,show(i:Int)+r-7=((i+(r-7):Nat):Int) by exact gg [] 0x72100102 [i,r] RZ 0x20004172101001475 0x10720 h7 aQ];exact(Tr ..).symm
theorem Bf {L:b5}{d:ah aA}{i r m:Nat}{bg en:aj}{X:fk} (hL:Pp L w d i bg) (hr:L .xR=aa (nv r)) (h7:7<=r) (hr2:r<=1000) (hi:i<=d.length) (hd:d.length<=1000) (W:pq H w f B F) (hF:F.length<=990000) (hm:m=min (d.length-i) (r-7)) (he:en=ag↔d.length-i<=r-7):
  wSs (aM (n+3)) ao Ur L H (fun o L1 H1=>o=.next/\Pp L1 w d (i+m) ag/\L1 .lR=aa (.bool en)/\pq H1 w f B (F++jE (knd bg en) ((d.drop i).take m))/\gZ [w,f] H H1) X:=by
 obtain⟨g1,g2,g3,g4,g5⟩:=hL
 have hm1:m<=d.length-i:=by rw[hm];exact Gn ..
 have Xu:m<=r-7:=by rw[hm];exact je ..
 have aek:i+m<=d.length:=aK (dX hm1 i) (gX (gY hi))
 have he2:decide (((i+m:Nat):Int)=d.length)=en:=Gs.mpr (Md.trans ⟨fun h=>he.mpr (by clear hm;exact EU [] 0x7220010000204 [d.length,i,r,m] 0x110001100500190019011001106002 0x60400 256 0x60300 0x13010415 hi Xu h aQ),fun h=>by rw[hm,dK (he.mp h),gY hi]⟩)
 have hmn:=Y8 hi h7 hm
 clear hm he
 have ON:cut d i (i+m)=(d.drop i).take m:=by unfold cut;rw[pX]
 have Jp:((d.drop i).take m).length<=d.length:=by rw[<- ON];exact gj ..
 have key:∀ L2,Pp L2 w d i bg->L2 .mU=aa (nv (i+m))->L2 .lR=aa (.bool en)->L2 .cM=aa (nv (knd bg en))->wSs (aM (n+3)) ao D6 L2 H (fun o L1 H1=>o=.next/\Pp L1 w d (i+m) ag/\L1 .lR=aa (.bool en)/\pq H1 w f B (F++jE (knd bg en) ((d.drop i).take m))/\gZ [w,f] H H1) X:=by
  rintro L2 ⟨g1,g2,g3,g4,g5⟩ g6 g7 g8
  have yM:=JW (C:=aM (n+3)) (H:=H) (t:=true) (ai g3) (ai g4) (ai g6) hi aek (aK hd (by decide))
  rw[ON] at yM
  refine bo (AH (ai g1) W.at_ rfl (Ed (bQ (aq (ai g8) (aq yM (aq (aP (ai g1) W.at_ rfl) aE))) (yU (Za bg en) (aK Jp hd) ?_))))
  refine R6 W (fun q=>by cases aW List.length q) (by rw[jq];exact GR [F.length,(List.take m (List.drop i d)).length,d.length] ye 0xf424033107240040 0x3e823200 0xf1b3033000 0x20100 hd hF Jp aQ) fun H1 W1 k=>⟨rfl,?_⟩
  exact aR (ai g6) (aR fG (bG ⟨rfl,⟨g1,g2,g3,rfl,rfl⟩,g7,W1,k⟩))
 refine aR (eW (JX (ai g2) (jb (jC (ai g4) (ai hr)) (bw rfl))) hmn) ?_
 refine aR (gF (cU (ai rfl) (ai g2)) (aW Vx.bool he2)) ?_
 refine Hl (ai g5) rfl (fun hb=>?_) (fun hb=>?_)<;>subst hb
 ·exact aR (QA (ai rfl) rfl (by cases en;exact bw rfl;exact bw rfl)) (bG (bC (key _ ⟨g1,g2,g3,g4,g5⟩ rfl rfl rfl)))
 ·exact aR (QA (ai rfl) rfl (by cases en;exact bw rfl;exact bw rfl)) (bG (bC (key _ ⟨g1,g2,g3,g4,g5⟩ rfl rfl rfl)))
end
theorem abl {n:Nat}{rz:aj}{L:b5}{H:Hp}{Q:PO}{X:fk}{s:S}{r:Ss} (I:b5->Hp->Prop) (h:wSs (aM n) rz (.cons s .nil) L H (fun o L1 H1=>o=.next/\I L1 H1) X) (k:∀ L1 H1,I L1 H1->wSs (aM n) rz r L1 H1 Q X):wSs (aM n) rz (.cons s r) L H Q X:=
 Mq (dj n) s (fun o L1 H1 z=>by cases o<;>first |exact k _ _ z.2 |cases z.1) (fun _ _ _ z=>z) h
section
variable {n:Nat}{H:Hp}{Q:PV}{X:PX}{w f:ax}{B:Nat}{F:ah aA}
theorem tS (hB:8<=B/\B<=100) (q:Q .none H):aM (n+1) .rQ [nv B] H Q X:=
 bA rfl (bK (a9 (dJ (eL (ai rfl) (jC (bw rfl) aH)) (cb (cw [B] vV 0x8200146 0x6413000008207 hB aQ)) (cP (kn (ai rfl) (bw rfl))))) (cb (cw [B] 0x11001100050011001 0x10100063346 0x6413000008207 hB aQ)) q)
theorem v7 (q:Q .none H):aM (n+1) .uG [.int 2] H Q X:=
 bA rfl (bK (a9 (dJ (kI (ai rfl) (bw rfl)) rfl (cP (kI (ai rfl) (bw rfl))))) rfl q)
theorem IB (h:H w=aa (.inst .jP [])) (fl:∃ ps:ah (ah aA),H f=aa (.bE (ps.map .bytes))/\ps.flatten=F/\ps.length<=F.length) (hB:8<=B/\B<=100)
  (q:pq (H.set w (.inst .jP [(.gC,.ref f),(.dB,nv B),(.fR,.int 2),(.gA,nv F.length)])) w f B F->Q .none (H.set w (.inst .jP [(.gC,.ref f),(.dB,nv B),(.fR,.int 2),(.gA,nv F.length)]))):
  aM (n+2) .nZ [.ref w,.ref f,nv B,.int 2,nv F.length] H Q X:=by
 obtain⟨ps,h2,h3,h4⟩:=fl
 refine bA rfl (bo (bQ (aq (ai rfl) aE) (tS hB ⟨rfl,bo (bQ (aq (ai rfl) aE) (v7 ⟨rfl,?_⟩))⟩)))
 refine bK (eL (ai rfl) aH) (cb (lE [F.length] mq 0x200146 aQ)) ?_
 refine cT (ai rfl) (ai rfl) h (aT rfl) (by decide) ?_
 refine bj (ai rfl) (ai rfl) (aT rfl) (by decide) ?_;refine bj (ai rfl) (ai rfl) (aT rfl) (by decide) ?_;refine bj (ai rfl) (ai rfl) (aT rfl) (by decide) ?_
 exact q ⟨aN,ps,bZ (aZ h h2 nofun).symm h2,h3,h4⟩
theorem acj {g m a b:Nat} (hg:g<=6) (hm:m < a) (ih:b<=27*(a-m)+13):g+(7+m+b)<=27*a+26/\(0 < m->g+(7+m+b)<=27*a+13):=by exact EU [] 0x10300104 [g,m,b,a] 0x110000011000801b900111a10011001100900204101100011000601b900110110011007002001 0xd2301b1542010724400401002191a13301b1542010724400407 0x62000 0x30101 0xd2401b154200 hg hm ih aQ
theorem Frs.len {L:Nat}{bg:aj}{d bs:ah aA} (hB:8<=B) (h:Frs B L bg d bs):bs.length<=27*d.length+26/\7<=bs.length/\(room B L≠7->bs.length<=27*d.length+13):=by
 induction h with
 | @last L bg d h=>
  have:=Fd (L:=L) hB
  rw[bN,nP,jq]
  exact cw [gap B L,d.length,room B L] 0x1100001100600310110000400210110110030001 0xd2101b15410724004072202691072400472071a13101b1541072400407 0x62000 this aQ
 | @more L bg d bs h hf ih=>
  have r:=(qf (L:=L) hB).1
  have r2:room B (L+gap B L+room B L)=B:=wR hB (Aa hB)
  have b1:=ih.2.2 (fw [room B (L+gap B L+room B L),B] 0x110190110040001 0x720026 0x10820 pS hB r2 aQ)
  rw[fJ] at b1
  have:=acj (Fd (L:=L) hB) h b1
  rw[bN,nP,bN,jq,eX,dK (fH h)]
  exact⟨this.1,by exact lT [] 0x72100103 [gap B L,room B L,bs.length] hJ 0x20307244004720 aQ,fun z=>this.2 (nt [] 0x72000101 [room B L] 0x110110000060011001100001107002011000110050031021 0x10021 0x720 0x720026 r z aQ)⟩
def aeU (w f:ax) (B:Nat) (F d:ah aA) (H:Hp) (k:Nat) (L:b5) (H1:Hp):Prop:=
 ∃ acc i bg en,Pp L w d i bg/\L .lR=aa (.bool en)/\pq H1 w f B (F++acc)/\gZ [w,f] H H1/\i<=d.length/\acc.length+200*k<=200*(d.length+2)/\(en=ag->Frs B F.length ao d acc)/\
  (en=ao->(∀ bs,Frs B (F.length+acc.length) bg (d.drop i) bs->Frs B F.length ao d (acc++bs))/\∃ u,k=d.length-i+1+u/\(u=0->room B (F.length+acc.length)=B))
theorem YE {a k u m R:Nat} (hk:k=a+1+u) (hu:u=0->R=B) (hB:8<=B) (hm:m=R-7) (hc:R-7 < a):a-m+1 < k:=by exact nl5 [] 0x7240010000206 [a,m,k,u,R,B] 0x110011011000008001100019000110000a001100190019001901100190110b012020110001101100000900190011000000190110a0020110000000080061021 0x20126041 0x30120044202 0x50402023029 0x50820 0x80102 0x801 hk hu hB hm hc aQ
theorem PM {A k j D x:Nat} (h:A+200*k<=200*(D+2)) (hj:j < k) (hx:x<=200):A+x+200*j<=200*(D+2):=by exact GR [A,x,j,D,k] 0x11c81011011040 0x22304c81520c8151000440 0x22304c81540c8150040 0x40201 0xc813100 h hj hx aQ
theorem ZP {d:ah aA} (W:pq H w f B F) (hB:8<=B/\B<=100) (hd:d.length<=100) (hF:F.length<=900000)
  (q:∀ H' bs,Frs B F.length ao d bs->pq H' w f B (F++bs)->gZ [w,f] H H'->Q .none H'):aM (n+4) .ug [.ref w,.bytes d] H Q X:=by
 refine bA rfl (aR (eB (ai rfl) (aK hd (by decide))) (aR aH (aR fG (aR fG (Hj (vg (aeU w f B F d H) (d.length-0+1+1) ⟨[],0,ao,ao,⟨rfl,rfl,rfl,rfl,rfl⟩,rfl,by rw[fT];exact W,d7 H,bX _,gX (jF _),nofun,fun _=>⟨fun _ h=>h,1,rfl,nofun⟩⟩ ?_))))))
 rintro k L H1 ⟨acc,i,bg,en,A,a1,W1,K1,a2,a3,a4,a5⟩
 refine lS (ai a1) rfl _ _ ⟨!en,rfl,?_⟩
 cases en with
 |true=>exact q _ _ (a4 rfl) W1 K1
 |false=>
  obtain⟨b1,u,b2,b3⟩:=a5 rfl
  have hlen:(F++acc).length=F.length+acc.length:=bN ..
  generalize hLL:F.length+acc.length=LL at hlen b1 b3
  have hr:=qf (B:=B) (L:=LL) hB.1
  have hg:=Fd (B:=B) (L:=LL) hB.1
  have Rt:=dD LL (show 0 < B by exact cw [B] oZ 33 0x6413000008207 hB aQ)
  have ag7:LL<=950000:=by rw[<- hlen,bN];exact GR [F.length,acc.length,d.length,k] 0x11011c81011040 0xe7ef033100040 0x6413200 0xdbba033000 0x22204c81530c8151040 hd hF a3 aQ
  have hrm:((B:Nat):Int)-(((F++acc).length:Nat):Int) % ((B:Nat):Int)=((B-LL % B:Nat):Int):=by rw[hlen];lia
  have Xr:=aP (C:=aM (n+3)) (ai A.self) W1.at_ (f:=.dB) rfl
  refine aR (eW (jb Xr (rj (aP (ai A.self) W1.at_ rfl) Xr (cw [B] oZ 0x1024 0x6413000008207 hB aQ))) hrm) ?_
  refine abl (fun L2 H2=>∃ G,Pp L2 w d i bg/\L2 .xR=aa (nv (room B LL))/\G=List.replicate (gap B LL) 0/\pq H2 w f B (F++acc++G)/\gZ [w,f] H H2) (q_ (eL (ai rfl) (bw rfl)) (fun hc=>?_) (fun hc=>?_)) ?_
  ·have KC:gap B LL=B-LL % B:=a8 (gg [] vU [B,LL % B] bJ 0x72201 0x722014 hc aQ)
   have hrB:room B LL=B:=by unfold room;rw[(KH hB.1 (by exact nt [] 0x10200103 [gap B LL,LL % B,B] 0x110001100500110011019011006002001 0x20026 0x20101 0x30002 Rt KC aQ)).2];rfl
   have Dx:List.replicate (B-LL % B) (0:aA)≠[]:=fun q=>by have:=aW List.length q;rw[nP] at this;exact absurd this (by show ¬ _=0;exact gg [] vU [B,LL % B] 0x11001100400110011011005002001 0x22026 257 Rt aQ)
   refine bo (bH (ai A.self) W1.at_ rfl (aq (Vp (ai rfl) (lT [] vU [B,LL % B] hJ 0x201023 aQ) (nt [] AX [B,LL % B,gap B LL] 0x19011011030 0xf4240333013 0x62200 0x30202 hg KC aQ)) aE) (R6 (o:=List.replicate (B-LL % B) 0) W1 Dx (by rw[hlen,nP];exact nl6 [] 0x20100108 [LL,B,LL % B,d.length,F.length,acc.length,k,gap B LL] 0x19011019011011c81011070 0xf424033800040 0x6413300 0xdbba033400 0x22304c81560c8155040 0x504042 0x62700 0x80702 hd hF a3 hLL hg KC aQ) fun H2 W2 K2=>⟨rfl,?_⟩))
   exact aR (aP (ai A.self) W2.at_ rfl) (bG (bC (bG ⟨rfl,_,⟨A.self,A.size,A.oct,A.at_,A.bg⟩,by rw[hrB];rfl,by rw[KC],W2,jD K1 K2⟩)))
  ·have KC:gap B LL=0:=bb (gg [] vU [B,LL % B] vV 0x722016 0x7220146 hc aQ)
   have hrB:room B LL=B-LL % B:=by unfold room;rw[KC,sA]
   exact bG (bC (bG ⟨rfl,[],⟨A.self,A.size,A.oct,A.at_,A.bg⟩,by rw[hrB];rfl,by rw[KC];rfl,by rw[fT];exact W1,K1⟩))
  ·rintro L2 H2 ⟨G,A2,MY,hG,W2,K2⟩
   have hGl:G.length=gap B LL:=by rw[hG,nP]
   have ya:(d.drop i).length=d.length-i:=fJ ..
   have hF2:(F++acc++G).length<=990000:=by rw[bN,hlen,hGl];exact nm5 [LL,gap B LL,d.length,F.length,acc.length,k] 0x11019011011c81011060 0xf1b3033100040 0x6413200 0xdbba033300 0x22204c81550c8154040 0x403042 0x62100 hd hF a3 hLL hg aQ
   by_cases hc:d.length-i<=room B LL-7
   ·refine dG (dj _) _ ?_ (fun _ _ _ h=>h) (Bf (en:=true) (m:=d.length-i) A2 MY hr.1 (fw [room B LL,B] 0x110011000011070021011 yi 0x6413100108207 0x10000007207 hB hr aQ) a2 (aK hd (by decide)) W2 hF2 (dK hc).symm ⟨fun _=>hc,fun _=>rfl⟩)
    rintro _ L3 H3 ⟨rfl,A3,e3,W3,K3⟩
    rw[mv (gX ya),dE,dE] at W3
    refine⟨0,by exact gg [] 0x20100104 [k,d.length,i,u] 0x19011020 33 0x30124044002 b2 aQ,acc++(G++jE (knd bg ag) (d.drop i)),i+(d.length-i),ag,ag,A3,e3,W3,jD K2 K3,by exact gg [] 0x100102 [i,d.length] 0x1101100300190001104002 yf dO a2 aQ,?_,fun _=>by rw[hG];exact b1 _ (Frs.last (by rw[ya];exact hc)),nofun⟩
    rw[bN,bN,jq,hGl,ya]
    exact PM a3 (gg [] 0x20100104 [k,d.length,i,u] 0x19011020 33 0x30124044002 b2 aQ) (nl4 [] 0x20100106 [gap B LL,d.length,i,acc.length,k,u] 0xc81c89011c81c81050 0xc813607240040 0x6413100 0x22104c81540c8153040 0x50126044402 0x62000 hd a3 b2 hg aQ)
   ·refine dG (dj _) _ ?_ (fun _ _ _ h=>h) (Bf (en:=false) (m:=room B LL-7) A2 MY hr.1 (fw [room B LL,B] 0x110011000011070021011 yi 0x6413100108207 0x10000007207 hB hr aQ) a2 (aK hd (by decide)) W2 hF2 (qz (xE hc)).symm ⟨nofun,fun h=>absurd h hc⟩)
    rintro _ L3 H3 ⟨rfl,A3,e3,W3,K3⟩
    rw[dE,dE] at W3
    have yP:(acc++(G++jE (knd bg ao) ((d.drop i).take (room B LL-7)))).length=acc.length+(gap B LL+(7+(room B LL-7))):=by
     rw[bN,bN,jq,hGl,eX,ya,dK (xE hc)]
    have lP:F.length+(acc++(G++jE (knd bg ao) ((d.drop i).take (room B LL-7)))).length=LL+gap B LL+room B LL:=by
     rw[yP,gY hr.1,<- dU,<- dU,hLL]
    have hj:d.length-(i+(room B LL-7))+1+0 < k:=by rw[<- SR];exact YE b2 b3 hB.1 rfl (Gw hc)
    refine⟨_,hj,_,i+(room B LL-7),ag,ao,A3,e3,W3,jD K2 K3,by exact nt [] 0x20072100203 [i,room B LL,d.length] 0x1100011005001900110001106012021 0x20300040 pO 0x305006 a2 hc aQ,by rw[yP];exact PM a3 hj (nl5 [] 0x5020072100207 [gap B LL,room B LL,d.length,acc.length,k,i,u] 0xc810c81c89011c81c81070051 0xc813707240040 0x6413200 0x22204c81540c8153040 0x60129044402 0x62000 0x709006 hd a3 b2 hg hc aQ),nofun,fun _=>⟨fun bs hbs=>?_,0,rfl,fun _=>by rw[lP];exact wR hB.1 (Aa hB.1)⟩⟩
    rw[lP] at hbs
    have:=b1 _ (Frs.more (bg:=bg) (d:=d.drop i) (by rw[ya];exact gg [] 0x2010072000203 [room B LL,d.length,i] oZ 0x50301 0x305006 hc aQ) (by rw[xB];exact hbs))
    rw[hG,dE,dE];exact this
end
noncomputable def cl (B p:Nat):Nat:=if p % B=0 then p else p-p % B+B
noncomputable def Cd (d:ah aA) (B p be:Nat) (sh tn:aj) (gl:Nat) (ra:ax):Mo:=.inst .xM [(.bq,.bytes d),(.dB,nv B),(.fR,.int 2),(.dY,nv p),(.eg,nv be),(.uj,.bool sh),(.u4,.int 0),(.u5,.ref ra),(.xO,.bool tn),(.hW,nv gl),(.jT,.int 0)]
noncomputable def Ho (d:ah aA) (B p:Nat) (tn:aj) (gl:Nat) (ra:ax):Mo:=Cd d B p (min d.length (cl B p)) (decide (d.length < cl B p)) tn gl ra
theorem R3 {B p:Nat} (hB:8<=B):(gap B p=0/\p % B≠0/\cl B p=p+room B p)∨(cl B p=p+gap B p/\room B p=B):=by
 have h1:=dD p (show 0 < B by exact cw [B] bJ 33 0x820 hB aQ)
 have h2:=Nat.mod_le p B
 unfold cl
 by_cases h:p % B=0
 ·right;rw[a8 h,Ig hB h,wR hB h];exact⟨rfl,rfl⟩
 ·rw[bb h]
  by_cases hc:B-p % B < 7
  ·right
   have hg:gap B p=B-p % B:=by unfold gap;rw[a8 hc]
   have hr:room B p=B:=by unfold room;rw[(KH hB (by exact nt [] 0x10200103 [gap B p,p % B,B] 0x110001100500110011019011006002001 0x20026 0x20101 0x30002 h1 hg aQ)).2];rfl
   rw[hg,hr];exact nt [] 0x1020010000203 [p,p % B,B] 0x11000005001100000500310110001100060011000000110080011001900110000090120201100011000600110000001100800190011001100000901202031001 0x20202500042030427 0x20101 256 h1 h2 aQ
  ·left
   have hg:gap B p=0:=by unfold gap;rw[bb hc]
   have hr:room B p=B-p % B:=by unfold room;rw[hg,sA]
   rw[hr];exact⟨hg,h,by exact nt [] 0x1020010000203 [p,p % B,B] 0x11000011006001100000110000900110019001100000901202011000011006001100000110000900190011001100000901202001021 0x50004203042 256 0x725016 h2 hc aQ⟩
theorem acy {B p q:Nat} (hB:8<=B) (h1:p+gap B p < q) (h2:q<=p+gap B p+room B p):cl B q=p+gap B p+room B p:=by
 have hm:=Aa (L:=p) hB
 have hr:=qf (L:=p) hB
 have hx:p+gap B p+room B p < q+B:=by exact fw [p,gap B p,room B p,q,B] 0x1100011011050021 0x40304201000441 0x30100041 0x40200207207 h1 hr aQ
 generalize p+gap B p+room B p=E at hm h2 hx
 have hE:=Gu E B
 have hq:=Gu q B
 have lW:=dD q (show 0 < B by exact cw [B] bJ 33 0x820 hB aQ)
 rw[hm,sA] at hE
 generalize hb:q / B=b at hq
 generalize ha:E / B=a at hE
 have VK:b<=a:=by
  refine iC fun lW=>?_
  have:=me B (show a+1<=b from lW)
  rw[uS] at this;exact nm5 [B,q,E,B*b,q % B,B*a] 0x110190110110110060 11 0x820 0x20100 0x10403042 0x20502 0x300110065040 hB h2 hq hE this aQ
 unfold cl
 by_cases h:q % B=0
 ·rw[a8 h]
  have:a<=b:=by
   refine iC fun lW=>?_
   have:=me B (show b+1<=a from lW)
   rw[uS] at this;exact nm5 [E,q,B,B*b,q % B,B*a] 0x110110110190110060 11 mn 0x10403042 0x502 0x2402 0x500112063040 hx hq hE h this aQ
  have:a=b:=by exact fw [a,b] 0x110110004001100110040001 pS 256 dO VK this aQ
  subst this;exact GR [q,E,B*a,q % B] 0x11019011011005001101100190050001 pS 0x10202 0x2302 0x302042 hE h hq aQ
 ·rw[bb h]
  have ne:a≠b:=by rintro rfl;exact Y4 [q,E,B*a,q % B] 0x11001100190110070011000000070051031 11 dO 0x10202 0x23026 0x302042 h2 hE h hq aQ
  have:a<=b+1:=by
   refine iC fun lW=>?_
   have:=me B (show b+2<=a from lW)
   rw[uS] at this;exact nm5 [E,q,B,q % B,B*b,B*a] 0x110110190110110060 11 mn 0x20301 0x10304042 0x502 0x500212064040 hx (by assumption) hq hE this aQ
  have:a=b+1:=by exact GR [a,b] 0x1100110000600110110000007001100000110070041001021 0x12104002 256 0x100026 pR VK ne this aQ
  subst this
  rw[uS] at hE;exact nt [] 0x10000105 [q,q % B,B,E,B*b] 0x1100011005001900110110190060020110001100500110011019011006002001 0x30205042 0x104042 0x300112064042 hq hE aQ
theorem set_same {H:Hp}{a:ax}{o:Mo} (h:H a=aa o):H.set a o=H:=by
 funext b
 by_cases e:b=a
 ·subst e;exact(a8 rfl).trans h.symm
 ·exact bb e
noncomputable def wK (C:CC) (c:E) (b:Ss) (Q:PO) (X:fk):Nat->b5->Hp->Prop
 | 0,_,_=>False
 |n+1,L,H=>wE C c L H (fun v H1=>Got (truth H1 v) fun t=>cond t (wSs C ao b L H1 (mj (wK C c b Q X n) Q) X) (Q .next L H1)) fun D H1=>X D L H1
section
variable {C:CC}{L:b5}{H:Hp}{Q:PO}{X:fk}{c:E}{b:Ss}{v:V}{m:Nat}{rz:aj}{r:Ss}
theorem Mn (p:PE C L H c v) (h:truth H v=aa ao) (k:Q .next L H):wK C c b Q X (m+1) L H:=p _ _ ⟨_,h,k⟩
theorem Mp (p:PE C L H c v) (h:truth H v=aa ag) (k:wSs C ao b L H (G8 Q (wK C c b Q X m)) X):wK C c b Q X (m+1) L H:=p _ _ ⟨_,h,k⟩
theorem U5 {n:Nat} (m:Nat) (k:wK (aM n) c b (i9 (aM n) rz r Q X) X m L H):wSs (aM n) rz (.cons (.kD c b) r) L H Q X:=⟨wK (aM n) c b (i9 (aM n) rz r Q X) X,m,k,fun k L H h=>match k,h with
 |k+1,h=>cz (dj n) c (fun _ _=>Got.bT fun _=>nB (dG (dj n) b (oF fun _ _ z=>⟨k,nU k,z⟩) fun _ _ _ z=>z) fun z=>z) (fun _ _ z=>z) h⟩
theorem EA {e c:E}{d:ah aA}{k j:Nat} (p:PE C L H e (.bytes d)) (q:PE C L H c (.int k)) (h:d[k]? =aa (UInt8.ofNat j)) (hj:j < 256) (hl:d.length<=line):PE C L H (.idx e c) (.int j):=
 eW (iW p q h hl) (aW Nat.cast (UInt8.toNat_ofNat_of_lt' hj))
end
section
variable {n:Nat}{H:Hp}{r ra:ax}{d:ah aA}{B p gl:Nat}{tn:aj}
theorem UY {be B D:Nat} (h:be<=D):(((min D (be+B):Nat):Int)-be < B)↔D < be+B:=by
 rw[BI];split<;>lia
theorem Ft {Q:PV}{X:PX}{be:Nat}{sh:aj} (h:H r=aa (Cd d B p be sh tn gl ra)) (hl:d.length<=line) (q:Q .none (H.set r (Cd d B be (min d.length (be+B)) (decide (d.length < be+B)) tn gl ra))) (hbe:be<=d.length):aM (n+1) .lO [.ref r] H Q X:=by
 refine bA rfl (cT (aP (ai rfl) h rfl) (ai rfl) h (aT rfl) (by decide) ?_)
 refine bj (y:=nv (min d.length (be+B))) (eW (JX (eB (aP (ai rfl) aN rfl) hl) (jC (aP (ai rfl) aN rfl) (aP (ai rfl) aN rfl))) (Tr ..).symm) (ai rfl) (aT rfl) (by decide) ?_
 exact bj (y:=.bool (decide (d.length < be+B))) (gF (eL (jb (aP (ai rfl) aN rfl) (aP (ai rfl) aN rfl)) (aP (ai rfl) aN rfl)) (aW Vx.bool (kW.mpr (UY hbe)))) (ai rfl) (aT rfl) (by decide) q
section
variable {Q:PO}{X:fk}{L:b5}{be:Nat}
theorem AP (h:H r=aa (Cd d B p be ag tn gl ra)) (hL:L .aG=aa (.ref r)) (q:∀ p' tn',Q (.ret (.tup [.int (-1),.bytes []])) L (H.set r (Cd d B p' be ag tn' gl ra))):wSs (aM n) ao gV L H Q X:=by
 refine c5 (aP (ai hL) h rfl) rfl (q_ (eL (aP (ai hL) h rfl) (aP (ai hL) h rfl)) (fun _=>?_) fun _=>?_)
 ·refine cT fG (ai hL) h (aT rfl) (by decide) (bj (aP (ai hL) aN rfl) (ai hL) (aT rfl) (by decide) (bG (bC ?_)))
  exact cy (dw (aq (bw rfl) (aq gR aE)) (aT rfl)) (q be ag)
 ·refine bG (bC (cy (dw (aq (bw rfl) (aq gR aE)) (aT rfl)) ?_))
  have:=q p tn
  rw[set_same h] at this
  exact this
theorem mQ {sh:aj} (h:H r=aa (Cd d B p be sh tn gl ra)) (hL:L .aG=aa (.ref r)):PE (aM n) L H (.cB (.bR .sub (.aV (.aC .aG) .eg) (.aV (.aC .aG) .dY)) .lt (.glob .jU)) (.bool (decide ((be:Int)-p < 7))):=
 eL (jb (aP (ai hL) h rfl) (aP (ai hL) h rfl)) (bw rfl)
end
theorem Fz {Q:PO}{X:fk}{L:b5}{rr:Ss} (hB:8<=B) (hl:d.length<=line) (h:H r=aa (Ho d B p tn gl ra)) (hp:p<=d.length) (hL:L .aG=aa (.ref r))
  (wO:d.length < p+gap B p+7->∀ p' be sh tn,Q (.ret (.tup [.int (-1),.bytes []])) L (H.set r (Cd d B p' be sh tn gl ra)))
  (go:p+gap B p+7<=d.length->wSs (aM (n+1)) ag rr L (H.set r (Cd d B (p+gap B p) (min d.length (p+gap B p+room B p)) (decide (d.length < p+gap B p+room B p)) tn gl ra)) Q X):
  wSs (aM (n+1)) ag (.cons (.kD (.cB (.bR .sub (.aV (.aC .aG) .eg) (.aV (.aC .aG) .dY)) .lt (.glob .jU)) gV) rr) L H Q X:=by
 refine U5 2 ?_
 have hr:=(qf (L:=p) hB).1
 have hg:=Fd (L:=p) hB
 have h1:=h
 rcases R3 (p:=p) hB with ⟨g1,g2,g3⟩ |⟨g1,g2⟩
 ·rw[Ho,g3] at h1
  rw[g1,sA p] at wO go
  by_cases hc:d.length < p+7
  ·have h2:d.length < p+room B p:=by exact fw [d.length,p,room B p] eI mn qI 0x72104001 hr hc aQ
   rw[c9 h2,dK (fH h2)] at h1
   exact Mp (mQ h1 hL) (dC (cw [d.length,p] bJ 0x7210100174 0x72104001 hc aQ)) (AP h1 hL fun _ _=>wO hc _ _ _ _)
  ·refine Mn (mQ h1 hL) (cb ?_) ?_
   ·rw[BI];split<;>lia
   ·have:=go (iC hc)
    rw[set_same h1] at this
    exact this
 ·rw[Ho,g1] at h1
  rw[g2] at go
  have hP:p+gap B p<=p+6:=dX hg p
  generalize p+gap B p=P at hP h1 wO go
  by_cases hc:d.length < P
  ·rw[c9 hc,dK (fH hc)] at h1
   exact Mp (mQ h1 hL) (dC (fw [d.length,p,P] eI 0x7210100174 0x62104200 0x20001 hP hc aQ)) (AP h1 hL fun _ _=>wO (cw [d.length,P] bJ 0x72104001 rI hc aQ) _ _ _ _)
  ·have VX:=iC hc
   rw[dW hc,qz VX] at h1
   refine Mp (mQ h1 hL) (dC (cw [P,p] bJ 0x7210100174 0x62104000 hP aQ)) (bK (aP (ai hL) h1 rfl) rfl (bo (bH (ai hL) h1 rfl aE (Ft h1 hl ⟨rfl,bG ?_⟩ VX))))
   by_cases hc2:d.length < P+7
   ·have h2:d.length < P+B:=by exact fw [d.length,P,B] eI mn 0x20820 0x72104001 hB hc2 aQ
    rw[c9 h2,dK (fH h2)]
    refine Mp (mQ aN hL) (dC (cw [d.length,P] bJ 0x7210100174 0x72104001 hc2 aQ)) (AP aN hL fun p' tn'=>?_)
    rw[Hp.set_set];exact wO hc2 _ _ _ _
   ·refine Mn (mQ aN hL) (cb ?_) (go (iC hc2))
    rw[BI];split<;>lia
theorem Fe {k:Nat}{x:ah aA}:(jE k x)[4]? =aa (UInt8.ofNat (x.length % 256))/\(jE k x)[5]? =aa (UInt8.ofNat (x.length / 256))/\(jE k x)[6]? =aa (UInt8.ofNat k):=⟨rfl,rfl,rfl⟩
theorem K8 {Q:PV}{X:PX}{k:Nat}{x:ah aA} (hB:8<=B/\B<=100) (hl:d.length<=1000000) (h:H r=aa (Ho d B p tn gl ra)) (hp:p<=d.length) (hk:0 < k/\k < 5) (hx:7+x.length<=room B p)
  (wO:∀ p' be sh tn,d.length < p+gap B p+7+x.length->Q (.tup [.int (-1),.bytes []]) (H.set r (Cd d B p' be sh tn gl ra)))
  (hd:p+gap B p+7<=d.length->∃ m,m<=(jE k x).length/\7<=m/\(m < (jE k x).length->d.length < p+gap B p+7+x.length)/\∃ rest,d.drop (p+gap B p)=(jE k x).take m++rest)
  (whole:p+gap B p+7+x.length<=d.length->Q (.tup [.int k,.bytes x]) (H.set r (Ho d B (p+gap B p+7+x.length) tn gl ra))):aM (n+2) .jI [.ref r] H Q X:=by
 have u3:d.length<=line:=aK hl (by decide)
 have hr:=(qf (L:=p) hB.1).2
 refine bA rfl (Fz hB.1 u3 h hp rfl (fun hc p' be sh tn=>wO _ _ _ _ (ma hc (fu ..))) fun hc=>?_)
 obtain⟨m,m1,m2,m3,rest,m4⟩:=hd hc
 have yP:=jq k x
 have get:∀ j w,j < 7->(jE k x)[j]? =aa w->d[p+gap B p+j]? =aa w:=fun j w hj e=>by
  rw[pI m4 (by rw[eX,dK m1];exact ma hj m2),pY (ma hj m2)];exact e
 have i4:=get 4 _ (by decide) Fe.1
 have i5:=get 5 _ (by decide) Fe.2.1
 have i6:=get 6 _ (by decide) Fe.2.2
 have UO:x.length<=93:=by exact GR [x.length,B,room B p] 0x1100110110011060011 0x5d13000 0x6413100108207 0x20007240 lJ hB hx hr aQ
 have Jp:7+x.length<=room B p->cl B (p+gap B p+7+x.length)=p+gap B p+room B p:=fun _=>acy hB.1 (lE [p,gap B p,x.length] hJ 0x20721000444100041 aQ) (cw [p,gap B p,x.length,room B p] bJ 0x30100044207210004440 0x30207240 hx aQ)
 have Jp:=Jp hx
 rw[Ho,Jp] at whole
 clear Jp get h hd
 generalize p+gap B p=P at*
 have esz:((x.length % 256:Nat):Int)+((x.length / 256:Nat):Int)*256=((x.length:Nat):Int):=by exact lT [] 0x1002003101 [x.length] 0x11001900400110011004000102 0x101002101620145 aQ
 have A:=aN (H:=H) (a:=r) (o:=Cd d B P (min d.length (P+room B p)) (decide (d.length < P+room B p)) tn gl ra)
 have pa:∀ {L f v},L .aG=aa (.ref r)->eG [(.bq,.bytes d),(.dB,nv B),(.fR,.int 2),(.dY,nv P),(.eg,nv (min d.length (P+room B p))),(.uj,.bool (decide (d.length < P+room B p))),(.u4,.int 0),(.u5,.ref ra),(.xO,.bool tn),(.hW,nv gl),(.jT,.int 0)] f=aa v->PE (aM (n+1)) L (H.set r (Cd d B P (min d.length (P+room B p)) (decide (d.length < P+room B p)) tn gl ra)) (.aV (.aC .aG) f) v:=fun h g=>aP (ai h) aN g
 have pi:∀ {L}{j:Int}{k:Nat},L .dY=aa (nv P)->(P:Int)+j=(k:Nat)->PE (aM (n+1)) L (H.set r (Cd d B P (min d.length (P+room B p)) (decide (d.length < P+room B p)) tn gl ra)) (.bR .add (.aC .dY) (.int j)) (.int k):=fun h e=>eW (jC (ai h) aH) e
 refine aR (pa rfl rfl) (aR (jb (pa rfl rfl) (ai rfl)) ?_)
 refine aR (v:=nv x.length) (eW (jC (EA (pa rfl rfl) (pi rfl rfl) i4 (dD _ (by decide)) u3) (Ez (EA (pa rfl rfl) (pi rfl rfl) i5 (gg [] 0x1002003101 [x.length] 0x190110100203002 0x10023101 0x5d13000 UO aQ) u3) aH (by unfold small;lia) (by unfold small;decide))) esz) ?_
 refine aR (EA (pa rfl rfl) (pi rfl rfl) i6 (ft hk.2 (by decide)) u3) ?_
 refine q_ (kn (jC (bw rfl) (ai rfl)) (ai rfl)) (fun hw=>?_) (fun hw=>bG (bC ?_))
 ·have hw:d.length < P+7+x.length:=by
   rw[BI] at hw;split at hw<;>lia
  have e1:d.length < P+room B p:=by exact fw [d.length,P,room B p,x.length] eI mn 0x20307240 0x30721044001 hx hw aQ
  refine bj (pa rfl rfl) (ai rfl) (aT rfl) (by decide) (c5 (aP (ai rfl) aN rfl) (dC e1) (bj fG (ai rfl) (aT rfl) (by decide) (cy (dw (aq (bw rfl) (aq gR aE)) (aT rfl)) ?_)))
  exact wO (min d.length (P+room B p)) (min d.length (P+room B p)) (decide (d.length < P+room B p)) ag hw
 ·have hw:P+7+x.length<=d.length:=by
   rw[BI] at hw;split at hw<;>lia
  have hm:(jE k x).take m=jE k x:=mv (iC fun q=>absurd (m3 q) (gv hw))
  rw[hm] at m4
  have m5:d.drop P=fx (ck (UInt8.ofNat k::x))++(([UInt8.ofNat (x.length % 256),UInt8.ofNat (x.length / 256)]++(UInt8.ofNat k::x))++rest):=m4
  have m6:d.drop (P+6)=(UInt8.ofNat k::x)++rest:=fp (xs:=fx (ck (UInt8.ofNat k::x))++[UInt8.ofNat (x.length % 256),UInt8.ofNat (x.length / 256)]) m5
  have ON:cut d (P+6) (P+7+x.length)=UInt8.ofNat k::x:=by
   have:=Iq m6
   rw[show P+6+(UInt8.ofNat k::x).length=P+7+x.length by rw[jf];exact lE [P,x.length] rN 0x10720044121046200442 aQ] at this;exact this
  refine bK (a9 (jl (cU (ai rfl) (bw rfl)) (cb (cw [k] vV 0x200156 0x52001000217 hk aQ)))) (cb (cw [k] vV 0x200156 0x52001000217 hk aQ)) ?_
  refine aR (v:=nv (P+7+x.length)) (eW (jC (jC (ai rfl) (bw rfl)) (ai rfl)) rfl) ?_
  refine aR (v:=.bytes (UInt8.ofNat k::x)) (gF (JW (k:=P+6) (q:=P+7+x.length) (pa rfl rfl) (eW (jb (jC (ai rfl) (bw rfl)) aH) (lE [P] rN 0x6200411272001475 aQ)) (ai rfl) (cw [P,d.length] bJ 0x10620040 0x10720040 hc aQ) hw u3) (aW Vx.bytes ON)) ?_
  refine bK (kI (eF (aq (pa rfl rfl) (aq (ai rfl) aE)) fun _ _ q=>A9 m5 u3 (XO _) q) (eF (aq (pa rfl rfl) (aq (ai rfl) aE)) fun _ _ q=>Be (aK (eH UO) (by decide)) q)) (mZ rfl) ?_
  refine bj (ai rfl) (ai rfl) (aT rfl) (by decide) (cy (dw (aq (ai rfl) (aq (MH (k:=1) (ai rfl) aH (j_ ..) (aK (eH UO) (by decide))) aE)) (aT rfl)) ?_)
  exact whole hw
end
theorem cH.vr {r b:ax}{H H1:Hp}{o:Mo} (k:cH r H H1) (h:H b=au):cH r H (H1.set b o):=fun c p n e=>bZ (eZ h e) (k c p n e)
theorem lh {r b:ax}{H H1:Hp} (k:cH r H H1) (n:b≠r) (h:H1 b=au):H b=au:=by
 cases e:H b with
 |none=>rfl
 |some o=>rw[k _ _ n e] at h;contradiction
def Part (d:ah aA) (p:Nat) (bs:ah aA) (m:Nat):Prop:=m<=bs.length/\∃ rest,d.drop p=bs.take m++rest/\(m < bs.length->rest=[])
theorem Part.len {d:ah aA}{p:Nat}{bs:ah aA}{m:Nat} (h:Part d p bs m) (hp:p<=d.length):p+m<=d.length/\(m < bs.length->d.length=p+m):=by
 obtain⟨h1,rest,h2,h3⟩:=h
 have:=aW List.length h2
 rw[fJ,bN,eX] at this
 refine⟨by exact EU [] 0x3010100200205 [p,m,d.length,bs.length,rest.length] 0x1100011005001900190019011001108001900190019000110801202 yg pO 0x30100 0x40704502 hp h1 this aQ,fun q=>?_⟩
 rw[h3 q,xC] at this;exact EU [] 0x3020110000204 [d.length,p,m,bs.length] 0x110110000060011011011001101100009001100110011011000090120201100001100600190019001101901100090019001900110190000901202001 0x20104002 256 0x30200 0x2604402 hp h1 this aQ
theorem Part.next {d:ah aA}{p:Nat}{as bs:ah aA}{m:Nat} (h:Part d p (as++bs) m) (hm:as.length<=m):Part d (p+as.length) bs (m-as.length):=by
 obtain⟨h1,rest,h2,h3⟩:=h
 rw[bN] at h1
 refine⟨by exact nt [] AX [m,as.length,bs.length] 0x11001100400190011001105002 tQ 256 oI hm h1 aQ,rest,?_,fun q=>h3 (by rw[bN];exact gg [] AX [m,as.length,bs.length] Nk mn 0x20301 q aQ)⟩
 rw[<- xB,h2,Gv,mv hm,dE,Tt]
section
variable {n:Nat}{H:Hp}{r ra:ax}{d:ah aA}{B p gl:Nat}{tn:aj}
theorem yn {Q:PV}{X:PX}{k m:Nat}{x bs:ah aA} (hB:8<=B/\B<=100) (hl:d.length<=1000000) (h:H r=aa (Ho d B p tn gl ra)) (hp:p<=d.length) (hk:0 < k/\k < 5) (hx:7+x.length<=room B p)
  (hd:Part d p (List.replicate (gap B p) 0++(jE k x++bs)) m)
  (wO:m < gap B p+(7+x.length)->∀ p' be sh tn,Q (.tup [.int (-1),.bytes []]) (H.set r (Cd d B p' be sh tn gl ra)))
  (whole:gap B p+(7+x.length)<=m->Part d (p+gap B p+7+x.length) bs (m-(gap B p+(7+x.length)))->p+gap B p+7+x.length<=d.length->Q (.tup [.int k,.bytes x]) (H.set r (Ho d B (p+gap B p+7+x.length) tn gl ra))):aM (n+2) .jI [.ref r] H Q X:=by
 have yP:=jq k x
 have hL:=hd.len hp
 have mD:(List.replicate (gap B p) (0:aA)).length=gap B p:=nP ..
 have htl:(List.replicate (gap B p) (0:aA)++(jE k x++bs)).length=gap B p+(7+x.length)+bs.length:=by rw[bN,mD,bN,yP];exact(dU ..).symm
 rw[htl] at hL
 refine K8 hB hl h hp hk hx (fun p' be sh tn hc=>wO (fw [m,gap B p,x.length,p,d.length,bs.length] 0x110110011040011 0x20724104001 0x304402502072410440019400030407 0x20721030444401 hL hc aQ) p' be sh tn) (fun hc=>?_) (fun hc=>?_)
 ·have hgm:gap B p<=m:=by exact fw [gap B p,m,p,d.length,x.length,bs.length] 0x110001100110600110000011060041011 dO 0x10204302504072400441019301020407 0x30720020440 hL hc aQ
  have h1:=hd.next (as:=List.replicate (gap B p) 0) (by rw[mD];exact hgm)
  rw[mD] at h1
  obtain⟨g1,rest,g2,g3⟩:=h1
  refine⟨min (m-gap B p) (jE k x).length,je ..,by exact EU [] 0x2070110000207 [m,gap B p,(jE k x).length,x.length,p,d.length,bs.length] 0x1101100011000080019000000000190110b00190011001100011000110b01202011011000000080019000000000190110b001900110011000000110b01202051021 0x90720 0x30724202 0x404502603072410440019500040407 0x50721040440 yP hL hc aQ,fun q=>by exact EU [] 0x4070120500207 [d.length,p,gap B p,x.length,(jE k x).length,m,bs.length] 0x11011000000110800190000000110000b0019001100110001100110110b012020110110000000800190000000110000b00190011001100011001100b01202051021 0x30722010444001 0x30724402 0x50104002603072420445019005010407 0x40901 yP hL q aQ,bs.take (m-gap B p-(jE k x).length)++rest,?_⟩
  rw[g2,Gv,dE]
  refine aW (· ++_) ?_
  by_cases q:m-gap B p<=(jE k x).length
  ·rw[dK q]
  ·rw[qz (xE q),mv (xE q),mv (bD _)]
 ·have hgm:gap B p+(7+x.length)<=m:=by exact fw [gap B p,x.length,m,p,d.length,bs.length] 0x110001100110600110000011060041011 0x20107240040 0x20304402501072400442019402030407 0x40107200304440 hL hc aQ
  refine whole hgm ?_ hc
  have e:(List.replicate (gap B p) (0:aA)++jE k x).length=gap B p+(7+x.length):=by rw[bN,mD,yP]
  have h1:=Part.next (as:=List.replicate (gap B p) 0++jE k x) (bs:=bs) (by rw[dE];exact hd) (by rw[e];exact hgm)
  rw[e] at h1
  rw[dU,dU];exact h1
section
variable {Q:PO}{X:fk}{L:b5}{x acc:ah aA}{be:Nat}{sh:aj}{rr:Ss}{pa:ax}
theorem MD (a1:L .aG=aa (.ref r)){bg:aj} (a2:L .gK=aa (.bool bg)) (a3:L .cM=aa (.int (-1))) (q:∀ tn,Q (.ret .none) L (H.set r (Cd d B p be sh tn gl ra))):
  wSs (aM n) ao (.cons (.dp (.cB (.aC .cM) .eq (.glob .vf)) (.cons (.dp (.aC .gK) (.cons (.setAttr (.aC .aG) .xO (.bool ag)) .nil) .nil) (.cons (.ret .none) .nil)) .nil) rr) L (H.set r (Cd d B p be sh tn gl ra)) Q X:=
 c5 (cU (ai a3) (bw rfl)) (dC rfl) (Hl (ai a2) rfl (fun _=>bj fG (ai a1) (aT rfl) (by decide) (bG (bC (cy iO (q ag))))) fun _=>bG (bC (cy iO (q tn))))
noncomputable def zq:Ss:=match mu with
 |.cons _ r=>r
 |.nil=>.nil
theorem U' (a1:L .aG=aa (.ref r)) (a2:L .gK=aa (.bool ao)) (a3:L .cM=aa (.int 1)) (a4:L .bq=aa (.bytes x)) (q:Q (.ret (.bytes x)) L (H.set r (Cd d B p be sh tn p ra))):wSs (aM n) ao zq L (H.set r (Cd d B p be sh tn gl ra)) Q X:=
 bK (cU (ai a3) (bw rfl)) (cb nofun) (c5 (a9 (ni (cU (ai a3) (bw rfl)) (dC rfl))) (dC rfl) (bK (ai a2) rfl (c5 (cU (ai a3) (bw rfl)) (dC rfl) (bj (aP (ai a1) aN rfl) (ai a1) (aT rfl) (by decide) (cy (ai a4) q)))))
theorem Qr (a1:L .aG=aa (.ref r)) (a2:L .gK=aa (.bool ao)) (a3:L .cM=aa (.int 2)) (a4:L .bq=aa (.bytes x)) (hx:x.length<=line) (q:∀ pb,H pb=au->Q .next ((L.set .fX (.ref pb)).set .gK (.bool ag)) (H.set pb (.ba x))):wSs (aM n) ao zq L H Q X:=
 bK (cU (ai a3) (bw rfl)) (cb nofun) (c5 (a9 (dJ (cU (ai a3) (bw rfl)) (cb nofun) (cP (cU (ai a3) (bw rfl))))) (dC rfl) (bK (ai a2) rfl (bK (cU (ai a3) (bw rfl)) (cb nofun) (bM (abN (ai a4) hx fun pb Zk=>aR fG (bG (bC (bG (q pb Zk)))))))))
theorem YS (a1:L .aG=aa (.ref r)) (a2:L .gK=aa (.bool ag)) (a3:L .cM=aa (.int 3)) (a4:L .bq=aa (.bytes x)) (a5:L .fX=aa (.ref pa)) (a6:H pa=aa (.ba acc)) (hx:acc.length+x.length<=line) (q:Q .next L (H.set pa (.ba (acc++x)))):wSs (aM n) ao zq L H Q X:=
 bK (cU (ai a3) (bw rfl)) (cb nofun) (mi (a9 (dJ (cU (ai a3) (bw rfl)) (cb nofun) (cP (cU (ai a3) (bw rfl))))) (cb nofun) (c5 (a9 (ni (cU (ai a3) (bw rfl)) (dC rfl))) (dC rfl) (mi (lS (ai a2) rfl) rfl (bo (Kr (ai a5) a6 (ai a4) hx ⟨rfl,bK (cU (ai a3) (bw rfl)) (cb nofun) (bG (bC (bG (bC (bG q)))))⟩)))))
theorem U_ (a1:L .aG=aa (.ref r)) (a2:L .gK=aa (.bool ag)) (a3:L .cM=aa (.int 4)) (a4:L .bq=aa (.bytes x)) (a5:L .fX=aa (.ref pa)) (a6:H pa=aa (.ba acc)) (a7:H r=aa (Cd d B p be sh tn gl ra)) (hx:acc.length+x.length<=line) (q:Q (.ret (.bytes (acc++x))) L ((H.set pa (.ba (acc++x))).set r (Cd d B p be sh tn p ra))):wSs (aM n) ao zq L H Q X:=
 have n:=aZ a7 a6 nofun
 bK (cU (ai a3) (bw rfl)) (cb nofun) (mi (a9 (dJ (cU (ai a3) (bw rfl)) (cb nofun) (cP (cU (ai a3) (bw rfl))))) (cb nofun) (c5 (a9 (dJ (cU (ai a3) (bw rfl)) (cb nofun) (cP (cU (ai a3) (bw rfl))))) (dC rfl) (mi (lS (ai a2) rfl) rfl (bo (Kr (ai a5) a6 (ai a4) hx ⟨rfl,c5 (cU (ai a3) (bw rfl)) (dC rfl) (cT (aP (ai a1) (bZ n a7) rfl) (ai a1) (bZ n a7) (aT rfl) (by decide) (cy (EC (ai a5) (bZ n.symm aN) (by rw[bN];exact hx)) q))⟩)))))
end
structure RdS (H:Hp) (r ra:ax) (d:ah aA) (B gl:Nat) (tn:aj) (rec:ah aA) (e:Nat) (ok:Prop) (L:b5) (H1:Hp) (p:Nat) (bg:aj) (x bs acc:ah aA) (pa:ax) (m:Nat):Prop where
 F:Frs B p bg x bs
 D:Part d p bs m
 hp:p<=d.length
 self:L .aG=aa (.ref r)
 begun:L .gK=aa (.bool bg)
 parts:L .fX=aa (.ref pa)
 aag:H1 pa=aa (.ba acc)
 pn:H pa=au
 Eu:rec=acc++x
 bg0:bg=ao->acc=[]
 rd:H1 r=aa (Ho d B p tn gl ra)
 kb:cH r H H1
 e_:p+bs.length=e
 ok_:m=bs.length↔ok
def RdJ (H:Hp) (r ra:ax) (d:ah aA) (B gl:Nat) (tn:aj) (rec:ah aA) (e:Nat) (ok:Prop) (k:Nat) (L:b5) (H1:Hp):Prop:=
 ∃ p bg x bs acc pa m,k=bs.length/\RdS H r ra d B gl tn rec e ok L H1 p bg x bs acc pa m
theorem Xl (bg en:aj):0 < knd bg en/\knd bg en < 5:=by cases bg<;>cases en<;>decide
theorem KX {Q:PV}{X:PX}{rec bs:ah aA}{m:Nat} (hB:8<=B/\B<=100) (hl:d.length<=1000000) (h:H r=aa (Ho d B p tn gl ra)) (hp:p<=d.length) (hf:Frs B p ao rec bs) (hd:Part d p bs m) (abY:rec.length<=100)
  (wO:m < bs.length->∀ H' p' be sh tn,cH r H H'->H' r=aa (Cd d B p' be sh tn gl ra)->Q .none H')
  (whole:m=bs.length->∀ H',cH r H H'->H' r=aa (Ho d B (p+bs.length) tn (p+bs.length) ra)->Q (.bytes rec) H'):aM (n+3) .ki [.ref r] H Q X:=by
 refine bA rfl (aR fG (bM (Rl fun pa hpa=>?_)))
 have hmb:=hd.1
 refine Hj (vg (RdJ H r ra d B gl tn rec (p+bs.length) (m=bs.length)) bs.length ⟨p,ao,rec,bs,[],pa,m,rfl,hf,hd,hp,rfl,rfl,rfl,aN,hpa,rfl,fun _=>rfl,bZ (a_ h hpa) h,.of_le (iB hpa),rfl,Iff.rfl⟩ ?_)
 rintro k L H1 ⟨p1,bg,x,yp,acc,pa1,m1,rfl,S⟩
 refine⟨ag,rfl,?_⟩
 have Jq:acc.length+x.length<=100:=by rw[S.Eu,bN] at abY;exact abY
 have hr1:=aZ S.rd S.aag nofun
 have Ce:=S.ok_
 have he:=S.e_
 have hr:=qf (L:=p1) hB.1
 have hD1:=S.D.1
 have kb:∀ o,cH r H (H1.set r o):=fun o=>.trans S.kb (.set (.refl _))
 cases S.F with
 |last hx=>
  have hlen:(List.replicate (gap B p1) (0:aA)++jE (knd bg ag) x).length=gap B p1+(7+x.length):=by rw[bN,nP,jq]
  rw[hlen] at Ce he hD1
  refine kG (bH (ai S.self) S.rd rfl aE (yn (bs:=[]) (k:=knd bg ag) (x:=x) hB hl S.rd S.hp (Xl bg ag) (nt [] 0x72100103 [x.length,room B p1,B] 0x110011000060019000011001107002011 0x10007240 0x20100107207 rK hr hx aQ) (by rw[fT];exact S.D) (fun hc p' be sh tn'=>⟨rfl,?_⟩) (fun hc hD ya=>⟨rfl,?_⟩)))
  ·have nm:m < bs.length:=xI hmb fun q=>sG _ (Ce.mpr q▸hc)
   exact MD S.self S.begun rfl fun tn=>wO nm _ p' be sh tn (kb _) aN
  ·have wm:m=bs.length:=Ce.mp (BR hD1 hc)
   have ee:p1+gap B p1+7+x.length=p+bs.length:=by rw[<- he,dU,dU]
   rw[ee]
   cases bg
   ·have:=S.Eu
    rw[S.bg0 rfl,L5] at this
    subst this
    exact U' S.self S.begun rfl rfl (whole wm _ (kb _) aN)
   ·refine U_ S.self S.begun rfl rfl S.parts (bZ hr1.symm S.aag) aN (aK Jq (by decide)) ?_
    rw[<- S.Eu]
    exact whole wm _ (.set (.vr (kb _) S.pn)) aN
 |more hx F2=>
  rename_i NA
  have Xq:(x.take (room B p1-7)).length=room B p1-7:=by rw[eX];exact gg [] 0x1020172000202 [room B p1,x.length] 0x1100110040011001100050120190011011005001900110005012001 0x20402 0x10201 hx aQ
  have e7:7+(room B p1-7)=room B p1:=gY hr.1
  have hlen:(List.replicate (gap B p1) (0:aA)++(jE (knd bg ao) (x.take (room B p1-7))++NA)).length=gap B p1+(room B p1+NA.length):=by rw[bN,nP,bN,jq,Xq,e7]
  rw[hlen] at Ce he hD1
  have hax:acc++x=(acc++x.take (room B p1-7))++x.drop (room B p1-7):=by rw[dE,Jb]
  refine kG (bH (ai S.self) S.rd rfl aE (yn (bs:=NA) (k:=knd bg ao) (x:=x.take (room B p1-7)) hB hl S.rd S.hp (Xl bg ao) (by rw[Xq,e7];exact bD _) S.D (fun hc p' be sh tn'=>⟨rfl,?_⟩) (fun hc hD ya=>⟨rfl,?_⟩)))
  ·rw[Xq,e7] at hc
   have nm:m < bs.length:=xI hmb fun q=>by have:=Ce.mpr q;exact GR [m1,gap B p1,room B p1,NA.length,m,bs.length] 0x110001100007001100019000070051019001100050011 11 0x5040230204104002a mn 0x50402 Ce hc q aQ
   exact MD S.self S.begun rfl fun tn=>wO nm _ p' be sh tn (kb _) aN
  ·have ep:p1+gap B p1+7+(x.take (room B p1-7)).length=p1+gap B p1+room B p1:=by rw[Xq,dU,e7]
   rw[ep] at hD ya ⊢
   rw[Xq,e7] at hc
   have ab0:m1-(gap B p1+(7+(x.take (room B p1-7)).length))=NA.length↔m=bs.length:=by rw[<- Ce,Xq,e7];exact nt [] 0x20104000104 [m1,gap B p1,room B p1,NA.length] 0x11000011000700190011000011008002011011019000007001100110190000080020310110000110060011000011000700190011001900008002041001 0x3020410400230402a 0x30204104000 0x201040 hD1 hc aQ
   have he2:p1+gap B p1+room B p1+NA.length=p+bs.length:=by rw[<- he,dU,dU]
   have hj:NA.length < (List.replicate (gap B p1) (0:aA)++(jE (knd bg ao) (x.take (room B p1-7))++NA)).length:=by rw[hlen];exact cw [NA.length,gap B p1,room B p1,B] oZ 0x204104001 0x30200207207 hr aQ
   cases bg
   ·have ha:=S.bg0 rfl
    refine Qr S.self S.begun rfl rfl (by rw[Xq];exact aK (jc ..) (aK hr.2 (aK hB.2 (by decide)))) fun pb Zk=>⟨NA.length,hj,p1+gap B p1+room B p1,ag,_,NA,_,pb,_,rfl,F2,hD,ya,S.self,rfl,rfl,aN,lh (kb _) (fun e=>by rw[e] at Zk;cases aN.symm.trans Zk) Zk,?_,nofun,bZ (eZ Zk aN) aN,.trans (kb _) (.vr (.refl _) Zk),he2,ab0⟩
    rw[S.Eu,ha,L5,Jb]
   ·refine YS S.self S.begun rfl rfl S.parts (bZ hr1.symm S.aag) (by rw[Xq];unfold line;exact nt [] 0x72100103 [acc.length,room B p1,x.length] eI 0x100000043300040 0x6413200040 0x20301 Jq hx aQ) ⟨NA.length,hj,p1+gap B p1+room B p1,ag,_,NA,_,pa1,_,rfl,F2,hD,ya,S.self,S.begun,S.parts,aN,S.pn,S.Eu.trans hax,nofun,bZ hr1 aN,.vr (kb _) S.pn,he2,ab0⟩
end
noncomputable def Jr (B:Nat):Nat->ah (ah aA)->ah aA->ah Nat->Prop
 |_,[],bs,es=>bs=[]/\es=[]
 |p,r::rs,bs,es=>∃ b yp ik,Frs B p ao r b/\bs=b++yp/\es=(p+b.length)::ik/\Jr B (p+b.length) rs yp ik
theorem Jr.gt {B:Nat} (hB:8<=B):∀ {rs:ah (ah aA)}{p:Nat}{bs:ah aA}{es:ah Nat},Jr B p rs bs es->∀ e∈es,p < e
 |[],p,bs,es,h,e,he=>by rw[h.2] at he;cases he
 |r::rs,p,bs,es,⟨b,yp,ik,h1,h2,h3,h4⟩,e,he=>by
  have:=h1.len hB
  rw[h3] at he
  rcases dT.mp he with rfl |he
  ·exact cw [p,b.length,r.length,room B p] 0x11000011050031011 0x10004001 0xd2201b15410072302691072071a13201b1541007 this aQ
  ·have:=Jr.gt hB h4 e he
   exact cw [p,e,b.length] bJ rI 0x10200041 this aQ
theorem Jr.snoc {B:Nat}:∀ {rs:ah (ah aA)}{p:Nat}{bs:ah aA}{es:ah Nat}{r b:ah aA},Jr B p rs bs es->Frs B (p+bs.length) ao r b->Jr B p (rs++[r]) (bs++b) (es++[p+(bs++b).length])
 |[],p,bs,es,r,b,⟨h1,h2⟩,hf=>by
  subst h1 h2
  exact⟨b,[],[],hf,by simp,by simp,rfl,rfl⟩
 |r0::rs,p,bs,es,r,b,⟨b0,yp,ik,h1,h2,h3,h4⟩,hf=>by
  subst h2 h3
  have:=Jr.snoc h4 (by rw[bN,<- dU] at hf;exact hf)
  refine⟨b0,yp++b,ik++[p+b0.length+(yp++b).length],h1,by simp,?_,this⟩
  simp;exact lE [p,b0.length,yp.length,b.length] rN 0x30204100044302041040042 aQ
theorem Jr.AB {B:Nat}:∀ {rs:ah (ah aA)}{p:Nat}{bs:ah aA}{es:ah Nat},Jr B p rs bs es->rs.length=es.length
 |[],p,bs,es,h=>by rw[h.2];rfl
 |r::rs,p,bs,es,⟨b,yp,ik,h1,h2,h3,h4⟩=>by rw[h3];simp [Jr.AB h4]
theorem Jr.cut {B:Nat} (hB:8<=B):∀ {rs:ah (ah aA)}{p:Nat}{bs:ah aA}{es:ah Nat} (n:Nat),Jr B p rs bs es->Jr B p (rs.take (es.filter (· <=n)).length) (bs.take (((es.filter (· <=n)).getLast?.getD p)-p)) (es.filter (· <=n))/\p<=(es.filter (· <=n)).getLast?.getD p/\(es.filter (· <=n)).getLast?.getD p<=p+bs.length
 |[],p,bs,es,n,⟨h1,h2⟩=>by subst h1 h2;simp [Jr]
 |r::rs,p,bs,es,n,⟨b,yp,ik,h1,h2,h3,h4⟩=>by
  subst h2 h3
  have Xx:=Jr.gt hB h4
  by_cases h:p+b.length<=n
  ·obtain⟨i1,i2,i3⟩:=Jr.cut hB n h4
   have e1:((p+b.length)::ik).filter (· <=n)=(p+b.length)::ik.filter (· <=n):=by simp [h]
   have e2:((p+b.length)::ik.filter (· <=n)).getLast?.getD p=(ik.filter (· <=n)).getLast?.getD (p+b.length):=by
    cases q:ik.filter (· <=n) with
    |nil=>simp
    |cons x xs=>simp [T9]
   rw[e1,e2]
   refine⟨⟨b,yp.take ((ik.filter (· <=n)).getLast?.getD (p+b.length)-(p+b.length)),ik.filter (· <=n),h1,?_,rfl,?_⟩,by exact cw [p,(List.filter (fun(x:Nat) ↦ decide (x<=n)) ik).getLast?.getD (p+b.length),b.length] bJ dO yf i2 aQ,by simp at i3 ⊢;exact cw [(List.find? (fun(x:Nat) ↦ decide (x<=n)) ik.reverse).getD (p+b.length),p,b.length,yp.length] bJ 0x30204104000 0x30201044000 i3 aQ⟩
   ·rw[Gv,mv (by exact gg [] 0x20100103 [b.length,(List.filter (fun(x:Nat) ↦ decide (x<=n)) ik).getLast?.getD (p+b.length),p] Nk rK 0x10002040 i2 aQ)]
    congr 2;exact lT [] 0x201040002030010000303 [(List.filter (fun(x:Nat) ↦ decide (x<=n)) ik).getLast?.getD (p+b.length),p,b.length] 0x11000011006001900110011006012011000011006001101900190011007001100190019001100802212020110000110060019000110110060220110000001100800190001101100110080220110000001100800190011001100110080221202001 0x70502 aQ
   ·simpa using i1
  ·have e1:((p+b.length)::ik).filter (· <=n)=[]:=by
    rw[Je]
    intro e he
    rcases dT.mp he with rfl |he
    ·simpa using h
    ·have:=Xx e he;simp;exact fw [n,e,p,b.length] 0x110110011040011 rI 0x3020406 0x10302041 h this aQ
   rw[e1]
   simp [Jr]
section
variable {n:Nat}{H:Hp}{r ra:ax}{d:ah aA}{B p gl:Nat}{tn:aj}
theorem R8 {Q:PV}{X:PX} (h:H r=aa (.inst .xM [])) (hB:8<=B/\B<=100) (q:∀ ra H',cH r H H'->H' r=aa (Ho d B 0 ao 0 ra)->Q .none H'):aM (n+2) .n9 [.ref r,.bytes d,.int B,.int 2] H Q X:=by
 refine bA rfl (bo (bQ (aq (ai rfl) aE) (tS hB ⟨rfl,bo (bQ (aq (ai rfl) aE) (v7 ⟨rfl,?_⟩))⟩)))
 refine cT (MM (ai rfl)) (ai rfl) h (aT rfl) (by decide) ?_
 refine bj (ai rfl) (ai rfl) (aT rfl) (by decide) ?_;refine bj (ai rfl) (ai rfl) (aT rfl) (by decide) ?_;refine bj aH (ai rfl) (aT rfl) (by decide) ?_;refine bj aH (ai rfl) (aT rfl) (by decide) ?_;refine bj fG (ai rfl) (aT rfl) (by decide) ?_;refine bj aH (ai rfl) (aT rfl) (by decide) ?_
 refine eP (iH aE (bX _) fun a ha=>yK (ai rfl) (bZ (eZ ha aN) aN) (aT rfl) (by decide) ?_)
 refine bj fG (ai rfl) (aT rfl) (by decide) ?_;refine bj aH (ai rfl) (aT rfl) (by decide) ?_;refine bj aH (ai rfl) (aT rfl) (by decide) ?_
 refine bG (q a _ (.set (.vr (.set (.refl _)) (lh (.set (.refl _)) (eZ ha aN).symm ha))) ?_)
 rw[Ho,show cl B 0=0 from a8 (Nat.zero_mod B),Nat.min_zero,dW (Gm _)]
 exact aN
theorem IJ {Q:PV}{X:PX}{rs:ah (ah aA)}{bs:ah aA}{es:ah Nat} (hB:8<=B/\B<=100) (hl:d.length<=1000000) (h:H r=aa (Ho d B p tn gl ra)) (hp:p<=d.length) (hj:Jr B p rs bs es) (hd:d.drop p=bs.take (d.length-p)) (hr:∀ x∈rs,x.length<=100)
  (none_:(∀ e∈es,d.length < e)->∀ H' p' be sh tn,cH r H H'->H' r=aa (Cd d B p' be sh tn gl ra)->Q .none H')
  (aa9:∀ r1 Pq e yp ik,rs=r1::Pq->es=e::ik->e<=d.length->Jr B e Pq yp ik->d.drop e=yp.take (d.length-e)->∀ H' tn,cH r H H'->H' r=aa (Ho d B e tn e ra)->Q (.bytes r1) H'):aM (n+3) .ki [.ref r] H Q X:=by
 cases rs with
 |nil=>
  obtain⟨rfl,rfl⟩:=hj
  have hr:=qf (L:=p) hB.1
  refine KX (rec:=[]) (bs:=_) (m:=0) hB hl h hp (Frs.last (by simp)) ⟨by exact lE [(List.replicate (gap B p) 0++jE (knd ao ag) []).length] hJ 32 aQ,[],by simpa using hd,fun _=>rfl⟩ (by simp) (fun _ H' p' be sh tn k1 k2=>none_ nofun _ _ _ _ _ k1 k2) (fun q=>?_)
  have:=aW (· +0) q
  simp [jq] at this
 |cons r1 Pq=>
  obtain⟨b,yp,ik,h1,h2,h3,h4⟩:=hj
  subst h2 h3
  have Xx:=Jr.gt hB.1 h4
  rw[Gv] at hd
  by_cases hc:b.length<=d.length-p
  ·rw[mv hc] at hd
   refine KX (m:=b.length) hB hl h hp h1 ⟨bD _,_,by rw[sH];exact hd,fun q=>by exact(cw [b.length] 0x110020 11 1 q aQ:False).elim⟩ (hr _ (.head _)) (fun q=>by exact(cw [b.length] 0x110020 11 1 q aQ:False).elim) (fun _ H' k1 k2=>aa9 _ _ _ yp _ rfl rfl (nt [] 0x200103 [p,b.length,d.length] 0x11001100400190011001105002 yg pO 0x30100 hp hc aQ) h4 ?_ _ _ k1 k2)
   have:=fp hd
   rw[this];congr 1;exact lT [] 0x201040002030010000303 [d.length,p,b.length] 0x11000011006001900110011006012011000011006001101900190011007001100190019001100802212020110000110060019000110110060220110000001100800190001101100110080220110000001100800190011001100110080221202001 0x70502 aQ
  ·refine KX (m:=d.length-p) hB hl h hp h1 ⟨by exact gg [] AX [d.length,p,b.length] oZ tQ 0x302006 hc aQ,_,hd,fun q=>by simp;lia⟩ (hr _ (.head _)) (fun q H' p' be sh tn k1 k2=>none_ (fun e he=>?_) _ _ _ _ _ k1 k2) (fun q=>by exact(nt [] 0x20100103 [b.length,d.length,p] 0x1101900040011 11 0x300006 770 hc q aQ:False).elim)
   rcases dT.mp he with rfl |he
   ·exact gg [] AX [d.length,p,b.length] 0x1101100110400110011001105002011 mn 0x302006 hc aQ
   ·have:=Xx e he;exact nt [] 0x30000104 [d.length,e,b.length,p] 0x1101101100110500110011011001106002011 rI 0x402006 0x10203041 hc this aQ
def RS (d:ah aA) (B:Nat) (r ra:ax) (rs:ah (ah aA)) (es:ah Nat) (v:V) (H:Hp):Prop:=
 (v=.none/\(∀ e∈es,d.length < e)/\∃ p' be sh tn gl,H r=aa (Cd d B p' be sh tn gl ra))∨
 (∃ r1 Pq e yp ik tn,v=.bytes r1/\rs=r1::Pq/\es=e::ik/\e<=d.length/\Jr B e Pq yp ik/\d.drop e=yp.take (d.length-e)/\H r=aa (Ho d B e tn e ra))
theorem DK {Q:PV}{X:PX}{rs:ah (ah aA)}{bs:ah aA}{es:ah Nat} (hB:8<=B/\B<=100) (hl:d.length<=1000000) (h:H r=aa (Ho d B p tn gl ra)) (hp:p<=d.length) (hj:Jr B p rs bs es) (hd:d.drop p=bs.take (d.length-p)) (hr:∀ x∈rs,x.length<=100)
  (q:∀ v H',cH r H H'->RS d B r ra rs es v H'->Q v H'):aM (n+3) .ki [.ref r] H Q X:=
 IJ hB hl h hp hj hd hr (fun g H' p' be sh tn k1 k2=>q _ _ k1 (.inl ⟨rfl,g,p',be,sh,tn,_,k2⟩)) (fun r1 Pq e yp ik g1 g2 g3 g4 g5 H' tn k1 k2=>q _ _ k1 (.inr ⟨r1,Pq,e,yp,ik,tn,rfl,g1,g2,g3,g4,g5,k2⟩))
structure PS (H:Hp) (d:ah aA) (B:Nat) (r ra lr:ax) (cg:ah (ah aA)) (aX:ah Nat) (L:b5) (H1:Hp) (v:V) (done:ah (ah aA)) (vP:ah Nat) (rs:ah (ah aA)) (es:ah Nat):Prop where
 Eu:L .ej=aa v
 rs_:RS d B r ra rs es v H1
 MC:cg=done++rs
 XH:aX=vP++es
 len:done.length=vP.length
 le_:∀ e∈vP,e<=d.length
 rd:L .sQ=aa (.ref r)
 ls:L .iK=aa (.ref lr)
 bE:H1 lr=aa (.bE (done.map .bytes))
 good:L .lB=aa (nv (vP.getLast?.getD 0))
 le:H.le H1
def PJ (H:Hp) (d:ah aA) (B:Nat) (r ra lr:ax) (cg:ah (ah aA)) (aX:ah Nat) (k:Nat) (L:b5) (H1:Hp):Prop:=
 ∃ v done vP rs es,k=rs.length/\PS H d B r ra lr cg aX L H1 v done vP rs es
theorem Cu {Q:PV}{X:PX}{cg:ah (ah aA)}{D:ah aA}{aX:ah Nat}{c:Nat} (hB:8<=B/\B<=100) (hj:Jr B 0 cg D aX) (hc:c<=D.length) (hl:D.length<=1000000) (hr:∀ x∈cg,x.length<=100) (hn:cg.length<=100000)
  (q:∀ H',H.le H'->Q (.tup [.bE ((cg.take (aX.filter (· <=c)).length).map .bytes),nv ((aX.filter (· <=c)).getLast?.getD 0)]) H'):aM (n+4) .x5 [.bytes (D.take c),.int B,.int 2] H Q X:=by
 have ya:(D.take c).length=c:=by rw[eX];exact dK hc
 have hdm:(D.take c).length<=1000000:=by rw[ya];exact aK hc hl
 refine bA rfl (bM (lV (aq (ai rfl) (aq (ai rfl) (aq (ai rfl) aE))) rfl fun r OL=>R8 (d:=D.take c) (B:=B) aN hB fun ra H1 k1 h1=>⟨rfl,?_⟩))
 have L1:H.le H1:=cH.le (iB OL) OL k1
 refine bM (iH aE (bX _) fun lr hlr=>aR aH ?_)
 have Zl:=none_le L1 hlr
 have Dx:=a_ h1 hlr
 have h2:=bZ (o:=.bE []) Dx h1
 refine bM (bH (ai rfl) h2 rfl aE (DK (p:=0) (d:=D.take c) (rs:=cg) (es:=aX) hB hdm h2 (bX _) hj (by rw[ya];rfl) hr fun v H2 k2 S2=>?_))
 refine Hj (vg (PJ H (D.take c) B r ra lr cg aX) cg.length ⟨v,[],[],cg,aX,rfl,rfl,S2,rfl,rfl,rfl,nofun,rfl,rfl,k2 _ _ Dx.symm aN,rfl,cH.le (f5 L1 Zl) OL k2⟩ ?_)
 rintro k L H3 ⟨v,done,vP,rs,es,rfl,S⟩
 have g6:=S.le_
 have g2:=S.rs_
 rw[ya] at g6
 rcases g2 with ⟨rfl,e2,p',be,sh,tn,gl,e3⟩ |⟨r1,Pq,e,yp,ik,tn,rfl,rfl,rfl,e4,e5,e6,e7⟩
 ·rw[ya] at e2
  have hf:aX.filter (· <=c)=vP:=by
   rw[S.XH,GB,Mf.mpr (fun e he=>c9 (g6 e he)),Je.mpr (fun e he h=>gv (ig h) (e2 e he)),fT]
  rw[hf,<- S.len,S.MC,Ts] at q
  refine a9 (jl (qg (ai S.Eu)) rfl) _ _ ⟨ao,rfl,bC ?_⟩
  exact rb S.ls S.bE (cy (dw (aq (ai rfl) (aq (ai S.good) aE)) (aT rfl)) (q _ (VJ S.le Zl)))
 ·have ab2:=aZ e7 S.bE nofun
  have ab8:done.length<=100000:=by rw[S.MC,bN] at hn;exact aK (fu ..) hn
  have e8:=bZ (o:=.bE (done.map .bytes++[.bytes r1])) ab2 e7
  refine a9 (dJ (YZ (ai S.Eu)) rfl (cP (cU (aP (ai S.rd) e7 rfl) aH))) _ _ ⟨ag,rfl,?_⟩
  refine bo (oW (ai S.ls) S.bE (ai S.Eu) (by rw[cF];exact cE ab8 (by decide)) ⟨rfl,aR (aP (ai S.rd) e8 rfl) (bM (bH (ai S.rd) e8 rfl aE ?_))⟩)
  refine DK (p:=e) (d:=D.take c) (rs:=Pq) (es:=ik) hB hdm e8 e4 e5 e6 (fun x hx=>hr x (by rw[S.MC];exact t9 _ (.tail _ hx))) fun v H4 k4 S4=>?_
  refine bG ⟨Pq.length,nU _,v,done++[r1],vP++[e],Pq,ik,rfl,rfl,S4,by rw[S.MC,dE];rfl,by rw[S.XH,dE];rfl,by rw[bN,bN,S.len];rfl,?_,S.rd,S.ls,?_,?_,cH.le (f5 S.le Zl) OL k4⟩
  ·intro x hx
   rcases iS.mp hx with hx |hx
   ·exact S.le_ x hx
   ·rw[eT.mp hx];exact e4
  ·rw[f6];exact k4 lr _ ab2.symm aN
  ·rw[SH];rfl
end
structure Lg where
 az:Nat
 bt:Nat
 gJ:ah Nat
 now:ah Nat
 br:Nat
 eM:Nat
 app:Nat
noncomputable def dZ (i:Nat) (ts:ah Nat):ah V:=(ents i ts).map En.v
noncomputable def Lg.tm (σ:Lg) (i:Nat):Nat:=if i=σ.az then σ.bt else σ.now.getD (i-σ.az-1) 0
structure Lg.Ok (σ:Lg):Prop where
 k1:σ.br<=σ.gJ.length
 k2:σ.br<=σ.now.length
 k3:σ.gJ.take σ.br=σ.now.take σ.br
 k4:σ.br=σ.now.length->σ.gJ.length=σ.br
 b:σ.az<=100000
 n1:σ.now.length<=400
 n2:σ.gJ.length<=400
 t1:∀ t∈σ.now,t < 2 ^ 32
 t2:∀ t∈σ.gJ,t < 2 ^ 32
 bt:σ.bt < 2 ^ 32
 c:σ.eM<=σ.az+σ.now.length
 a1:σ.az<=σ.app
 a2:σ.app<=σ.eM
noncomputable def m8 (σ:Lg) (hv cv sv:V):Mo:=.inst .iy [(.cO,hv),(.dq,cv),(.xQ,sv),(.cD,nv σ.az),(.bU,nv σ.bt),(.aS,.bE (dZ (σ.az+1) σ.gJ))]
noncomputable def Ef (σ:Lg):Mo:=.inst .j' [(.cZ,.none),(.aS,.bE (dZ (σ.az+1+σ.br) (σ.now.drop σ.br))),(.cJ,nv (σ.az+1+σ.br))]
noncomputable def lgO (σ:Lg) (st un:ax):Mo:=.inst .wA [(.cV,.ref st),(.fC,.int 1048576),(.fN,.ref un),(.b6,nv σ.eM),(.d_,nv σ.app)]
structure eC (H:Hp) (lg st un:ax) (σ:Lg):Prop where
 lg:H lg=aa (lgO σ st un)
 st:∃ hv cv sv,H st=aa (m8 σ hv cv sv)
 un:H un=aa (Ef σ)
 ok:σ.Ok
theorem cQ (i:Nat) (ts:ah Nat):(dZ i ts).length=ts.length:=(cF ..).trans (fi i ts)
theorem pL {i:Nat}{ts:ah Nat}{k t:Nat} (h:ts[k]? =aa t):(dZ i ts)[k]? =aa (kF t (i+k)).v:=by
 unfold dZ;rw[BX,rF,h];rfl
section
variable {C:CC}{L:b5}{H:Hp}{e c:E}{k j:Nat}
theorem gq (p:PE C L H e (.int k)) (q:PE C L H c (.int j)):PE C L H (.cB e .lt c) (.bool (decide (k < j))):=gF (eL p q) (aW Vx.bool (kW.mpr sE))
theorem fo (p:PE C L H e (.int k)) (q:PE C L H c (.int j)):PE C L H (.cB e .gt c) (.bool (decide (j < k))):=gF (kn p q) (aW Vx.bool (kW.mpr sE))
theorem kJ (p:PE C L H e (.int k)) (q:PE C L H c (.int j)):PE C L H (.cB e .le c) (.bool (decide (k<=j))):=gF (Xg p q) (aW Vx.bool (kW.mpr uT))
theorem QC (p:PE C L H e (.int k)) (q:PE C L H c (.int j)):PE C L H (.cB e .ge c) (.bool (decide (j<=k))):=gF (nh p q) (aW Vx.bool (kW.mpr uT))
theorem fF (p:PE C L H e (.int k)) (q:PE C L H c (.int j)):PE C L H (.cB e .eq c) (.bool (decide (k=j))):=gF (cU p q) (aW Vx.bool (kW.mpr LR))
theorem ri (p:PE C L H e (.int k)) (q:PE C L H c (.int j)):PE C L H (.cB e .ne c) (.bool (!decide (k=j))):=gF (kI p q) (aW (fun b=>Vx.bool !b) (kW.mpr LR))
theorem c6 (p:PE C L H e (.int k)) (q:PE C L H c (.int j)) (h:j<=k):PE C L H (.bR .sub e c) (.int (k-j:Nat)):=eW (jb p q) (LQ h).symm
theorem He {i:Nat} (h:i < 2 ^ 40):small (i:Int):=ft h (by decide)
theorem My {rz tup:aj}{b r:Ss}{h:Hr}{cs:ah Cn}{Q:PO}{X:fk} (k:wSs C ao b L H (i9 C rz r Q X) (fun c L1 H1=>cs.any c.under=ag/\wH h L1 H1 (i9 C rz r Q X))):wSs C rz (.cons (.Eh b tup cs h) r) L H Q X:=k
end
section
variable {C:CC}{L:b5}{n:Nat}{H:Hp}{Q:PV}{X:PX}{lg st un:ax}{σ:Lg}{e:E}
theorem kE (h:H un=aa (Ef σ)) (p:PE C L H e (.ref un)):PE C L H (.aV e .cJ) (nv (σ.az+1+σ.br)):=aP p h rfl
theorem JG (h:H un=aa (Ef σ)) (o:σ.Ok) (p:PE C L H e (.ref un)):PE C L H (.bc .len (.cons (.aV e .aS) .nil)) (nv (σ.now.length-σ.br)):=
 have hl:(dZ (σ.az+1+σ.br) (σ.now.drop σ.br)).length=σ.now.length-σ.br:=(cQ ..).trans (fJ ..)
 gF (eY (aP p h rfl) (by rw[hl];exact aK (jc ..) (aK o.n1 (by decide)))) (by rw[hl];rfl)
theorem uo (h:H un=aa (Ef σ)) (o:σ.Ok) (p:PE C L H e (.ref un)):PE C L H (.bR .add (.aV e .cJ) (.bc .len (.cons (.aV e .aS) .nil))) (nv (σ.az+1+σ.now.length)):=
 gF (cS (kE h p) (JG h o p)) (by rw[dU (σ.az+1),gY o.k2];rfl)
theorem II {hv cv sv:V} (h:H st=aa (m8 σ hv cv sv)) (q:Q (nv (σ.az+1)) H):aM (n+1) .ja [.ref st] H Q X:=
 bA rfl (cy (dM (aP (ai rfl) h rfl)) q)
theorem Nu {hv cv sv:V} (h:H st=aa (m8 σ hv cv sv)) (hl:σ.gJ.length<=1000) (q:Q (nv (σ.az+σ.gJ.length)) H):aM (n+1) .jw [.ref st] H Q X:=
 bA rfl (cy (cS (aP (ai rfl) h rfl) (gF (eY (aP (ai rfl) h rfl) (by rw[cQ];exact aK hl (by decide))) (by rw[cQ]))) q)
theorem R9 (h:H un=aa (Ef σ)) (q:Q .none H):aM (n+1) .lL [.ref un] H Q X:=
 bA rfl (bK (qg (aP (ai rfl) h rfl)) rfl (cy iO q))
theorem Wh (h:H un=aa (Ef σ)) (o:σ.Ok) (q:Q (if σ.br < σ.now.length then nv (σ.az+σ.now.length) else .none) H):aM (n+1) .mx [.ref un] H Q X:=by
 refine bA rfl ?_
 by_cases hc:σ.br < σ.now.length
 ·rw[a8 hc] at q
  exact c5 (fo (JG h o (ai rfl)) aH) (dC (BW hc)) (cy (eW (jb (uo h o (ai rfl)) aH) (lE [σ.az,σ.now.length] rN 0x1000411210120044175 aQ)) q)
 ·rw[bb hc] at q
  exact bK (fo (JG h o (ai rfl)) aH) (cb (gg [] vU [σ.now.length,σ.br] 0x11000110006001900110110006002011001 0x200216 0x1016 hc aQ)) (bK (qg (aP (ai rfl) h rfl)) rfl (cy iO q))
theorem R_ (A:eC H lg st un σ) (q:Q (nv (σ.az+1)) H):aM (n+2) .my [.ref lg] H Q X:=by
 obtain⟨hv,cv,sv,hs⟩:=A.st
 exact bA rfl (bM (bH (aP (ai rfl) A.lg rfl) A.un rfl aE (R9 A.un (bK (qg (ai rfl)) rfl (gM (bH (aP (ai rfl) A.lg rfl) hs rfl aE (II hs q)))))))
theorem Ny (A:eC H lg st un σ) (q:Q (nv (σ.az+σ.now.length)) H):aM (n+2) .nW [.ref lg] H Q X:=by
 obtain⟨hv,cv,sv,hs⟩:=A.st
 refine bA rfl (bM (bH (aP (ai rfl) A.lg rfl) A.un rfl aE (Wh A.un A.ok ?_)))
 by_cases hc:σ.br < σ.now.length
 ·rw[a8 hc]
  exact c5 (QB (ai rfl)) rfl (cy (ai rfl) q)
 ·rw[bb hc]
  have:σ.br=σ.now.length:=BR A.ok.k2 (iC hc)
  refine bK (qg (ai rfl)) rfl (gM (bH (aP (ai rfl) A.lg rfl) hs rfl aE (Nu hs (aK A.ok.n2 (by decide)) ?_)))
  rw[A.ok.k4 this,this];exact q
theorem ru (A:eC H lg st un σ) (p:PE (aM (n+2)) L H e (.ref lg)):PE (aM (n+2)) L H (.bk e .de .nil) (nv (σ.az+1)):=d' p A.lg rfl aE fun _ _ q=>R_ A q
theorem jZ (A:eC H lg st un σ) (p:PE (aM (n+2)) L H e (.ref lg)):PE (aM (n+2)) L H (.bk e .cn .nil) (nv (σ.az+σ.now.length)):=d' p A.lg rfl aE fun _ _ q=>Ny A q
theorem vo {hv cv sv:V} (h:H st=aa (m8 σ hv cv sv)) (p:PE (aM (n+1)) L H e (.ref st)):PE (aM (n+1)) L H (.bk e .de .nil) (nv (σ.az+1)):=d' p h rfl aE fun _ _ q=>II h q
theorem zl {hv cv sv:V} (h:H st=aa (m8 σ hv cv sv)) (hl:σ.gJ.length<=1000) (p:PE (aM (n+1)) L H e (.ref st)):PE (aM (n+1)) L H (.bk e .cn .nil) (nv (σ.az+σ.gJ.length)):=d' p h rfl aE fun _ _ q=>Nu h hl q
theorem JH {i:Nat} (h1:σ.az < i) (h2:i-(σ.az+1) < σ.now.length):σ.now[i-(σ.az+1)]? =aa (σ.tm i):=by
 unfold Lg.tm
 rw[bb (BL h1),Ph,SR,lK h2];rfl
theorem Nv {i:Nat} (h:H un=aa (Ef σ)) (o:σ.Ok) (q:Q (if σ.az+1+σ.br<=i/\i < σ.az+1+σ.now.length then nv (σ.tm i) else .none) H):aM (n+1) .mw [.ref un,.int i] H Q X:=by
 refine bA rfl ?_
 by_cases c1:i < σ.az+1+σ.br
 ·rw[bb (fun h=>gv h.1 c1)] at q
  exact c5 (gq (ai rfl) (kE h (ai rfl))) (dC c1) (bK (a9 (jl (qg (aP (ai rfl) h rfl)) rfl)) rfl (cy iO q))
 ·refine bK (gq (ai rfl) (kE h (ai rfl))) (cb c1) ?_
  by_cases c2:i < σ.az+1+σ.now.length
  ·have c1':=iC c1
   rw[a8 ⟨c1',c2⟩] at q
   refine bK (QC (ai rfl) (uo h o (ai rfl))) (cb (BS c2)) ?_
   have hg:(σ.now.drop σ.br)[i-(σ.az+1+σ.br)]? =aa (σ.tm i):=by
    rw[B0,<- JH (σ:=σ) (i:=i) (by exact cw [σ.az,i,σ.br] oZ rI 0x201200441016 c1 aQ) (by exact nt [] 0x12104000104 [i,σ.az,σ.now.length,σ.br] 0x1101100005001900011001106002011 0x20401 0x301210440016 0x20121044001 c1 c2 aQ)]
    exact aW (σ.now[·]?) (gg [] 0x1220410000122044100203 [σ.br,i,σ.az] 0x11001100050011019001100007001100190011000080120201100110005001100001100070019001100110000801202001011 0x50300042 0x1220441016 c1 aQ)
   refine cy (bI (gG (aP (ai rfl) h rfl) (c6 (ai rfl) (kE h (ai rfl)) c1') (pL hg) ?_) rfl) q
   rw[cQ,fJ];exact aK (jc ..) (aK o.n1 (by decide))
  ·rw[bb (fun h=>c2 h.2)] at q
   exact c5 (QC (ai rfl) (uo h o (ai rfl))) (dC (iC c2)) (cy iO q)
theorem Wc {hv cv sv:V}{i:Nat} (h:H st=aa (m8 σ hv cv sv)) (o:σ.Ok) (h1:σ.az<=i) (h2:i<=σ.az+σ.br) (q:Q (nv (σ.tm i)) H):aM (n+2) .kz [.ref st,.int i] H Q X:=by
 have g1:=aK o.n2 (show 400<=1000 by decide)
 refine bA rfl (bK (gq (ai rfl) (aP (ai rfl) h rfl)) (cb (gv h1)) ?_)
 refine bK (fo (ai rfl) (zl h g1 (ai rfl))) (cb (gv (aK h2 (dX o.k1 _)))) ?_
 by_cases hb:i=σ.az
 ·unfold Lg.tm at q
  rw[a8 hb] at q
  exact c5 (fF (ai rfl) (aP (ai rfl) h rfl)) (dC hb) (cy (aP (ai rfl) h rfl) q)
 ·have lW:σ.az < i:=xI h1 (l6 hb)
  have hk:i-(σ.az+1) < σ.br:=by exact EU [] 0x12104000103 [i,σ.az,σ.br] 0x110110000007001900000110011080020110000110060041031 0x20301 256 oI 0x100026 h1 h2 hb aQ
  have hg:σ.gJ[i-(σ.az+1)]? =aa (σ.tm i):=by
   have e1:σ.gJ[i-(σ.az+1)]? =(σ.gJ.take σ.br)[i-(σ.az+1)]? :=(pY hk).symm
   rw[e1,o.k3,pY hk]
   exact JH lW (ma hk o.k2)
  refine bK (fF (ai rfl) (aP (ai rfl) h rfl)) (cb hb) ?_
  exact cy (bI (gG (aP (ai rfl) h rfl) (c6 (ai rfl) (vo h (ai rfl)) lW) (pL hg) (by rw[cQ];exact aK g1 (by decide))) rfl) q
theorem eC.bound (A:eC H lg st un σ):σ.az+σ.now.length<=100400:=fS A.ok.b A.ok.n1
theorem Fw {i:Nat} (A:eC H lg st un σ) (hi:i < 2 ^ 40) (h1:σ.az<=i) (q:i<=σ.az+σ.now.length->Q (nv (σ.tm i)) H) (x:σ.az+σ.now.length < i->X .hM H):aM (n+3) .wz [.ref lg,.int i] H Q X:=by
 obtain⟨hv,cv,sv,hs⟩:=A.st
 refine bA rfl (bM (bH (aP (ai rfl) A.lg rfl) A.un rfl (aq (ai rfl) aE) (Nv A.un A.ok ?_)))
 by_cases hc:σ.az+1+σ.br<=i/\i < σ.az+1+σ.now.length
 ·rw[a8 hc]
  exact c5 (QB (ai rfl)) rfl (cy (ai rfl) (q (cw [i,σ.az,σ.now.length,σ.br] 0x1100011040011 oI 0x20121044001003012104407 hc aQ)))
 ·rw[bb hc]
  refine bK (qg (ai rfl)) rfl (bK (gq (dM (ai rfl)) (ru A (ai rfl))) (cb (gv (eH h1))) ?_)
  by_cases hl:i<=σ.az+σ.now.length
  ·refine bK (fo (ai rfl) (jZ A (ai rfl))) (cb (gv hl)) ?_
   exact gM (bH (aP (ai rfl) A.lg rfl) hs rfl (aq (ai rfl) aE) (Wc hs A.ok h1 (fw [i,σ.az,σ.br,σ.now.length] 0x11001100050011000011050031011 oI 0x301210440010020121044076 0x30104000 hc hl aQ) (q hl)))
  ·have VW:=Gw hl
   exact c5 (fo (ai rfl) (jZ A (ai rfl))) (dC VW) (ou (Vc (zr la (zr (Qt (ai rfl) (He hi)) (zr la (zr (Qt (jZ A (ai rfl)) (He (ft VW hi))) YU))))) (x VW))
theorem vZ {i t:Nat} (A:eC H lg st un σ) (hi:i < 2 ^ 40) (h1:σ.az<=i) (q:Q (.bool (decide (i<=σ.az+σ.now.length/\σ.tm i=t))) H):aM (n+4) .nV [.ref lg,.int i,.int t] H Q X:=by
 refine bA rfl (My ?_)
 by_cases hl:i<=σ.az+σ.now.length
 ·exact cy (gF (fF (d' (ai rfl) A.lg rfl (aq (ai rfl) aE) fun _ _ q=>Fw A hi h1 (fun _=>q) fun x=>absurd hl (BS x)) (ai rfl)) (aW Vx.bool (kW.mpr ⟨fun h=>⟨hl,h⟩,fun h=>h.2⟩))) q
 ·rw[dW (fun h=>hl h.1)] at q
  exact gM (bH (ai rfl) A.lg rfl (aq (ai rfl) aE) (Fw A hi h1 (fun x=>absurd x hl) fun _=>⟨rfl,q⟩))
theorem acA (A:eC H lg st un σ) (q:Q (nv (σ.tm (σ.az+σ.now.length))) H):aM (n+4) .oO [.ref lg] H Q X:=
 bA rfl (My (gM (bH (ai rfl) A.lg rfl (aq (jZ A (ai rfl)) aE) (Fw A (cE A.bound (by decide)) (fu ..) (fun _=>q) (fun hl=>absurd hl (sG _))))))
noncomputable def fc (now:ah Nat):Nat->ah Nat->aB Nat
 |_,[]=>au
 |k,t::ts=>if now[k]? =aa t then fc now (k+1) ts else aa k
theorem Ei (σ:Lg) (k t:Nat):(σ.az+1+k<=σ.az+σ.now.length/\σ.tm (σ.az+1+k)=t)↔σ.now[k]? =aa t:=by
 by_cases h:k < σ.now.length
 ·have:=JH (σ:=σ) (i:=σ.az+1+k) (lE [σ.az,k] hJ 0x10120044001 aQ) (by rw[pX];exact h)
  rw[pX] at this
  rw[this]
  exact⟨fun h=>aW aa h.2,fun e=>⟨by exact cw [σ.az,k,σ.now.length] bJ 0x20004101200440 0x20101 h aQ,eS e⟩⟩
 ·rw[BF (iC h)]
  exact⟨fun x=>absurd x.1 (cw [σ.az,k,σ.now.length] vV 0x200041012004406 0x201016 h aQ),nofun⟩
theorem ZY {k0:Nat}{ts:ah Nat} (A:eC H lg st un σ) (hk:k0+ts.length<=1000) (q:Q (nv (match fc σ.now k0 ts with |none=>0 |some k=>σ.az+1+k)) H):aM (n+5) .ky [.ref lg,.bE (dZ (σ.az+1+k0) ts)] H Q X:=by
 have b1:=A.ok.b
 refine bA rfl (tK (ai rfl) rfl (Az (fun r L H1=>∃ j us,r=dZ (σ.az+1+j) us/\fc σ.now j us=fc σ.now k0 ts/\j+us.length<=1000/\L .aG=aa (.ref lg)/\H1=H) ?_ ?_ ⟨k0,ts,rfl,rfl,hk,rfl,rfl⟩))
 ·rintro v r L H1 ⟨j,us,e1,e2,e3,e4,rfl⟩
  refine⟨rfl,?_⟩
  cases us with
  |nil=>contradiction
  |cons u us=>
   obtain⟨rfl,rfl⟩:=Te (e1:_::_=(kF u (σ.az+1+j)).v::dZ (σ.az+1+j+1) us)
   rw[jf] at e3
   rw[<- e2] at q
   have hj:σ.az+1+j < 2 ^ 40:=by exact fw [σ.az,j,us.length] eI 0x1000000000063101200441 0x186a033000 0x3e823122041040 b1 e3 aQ
   have hb:σ.az<=σ.az+1+j:=by exact lE [σ.az,j] hJ 0x10120044000 aQ
   by_cases hc:σ.now[j]? =aa u
   ·refine bK (lS (d' (ai e4) A.lg rfl (aq (bI (ai rfl) rfl) (aq (bI (ai rfl) rfl) aE)) fun _ _ q=>vZ A hj hb q) (aW aa (c9 ((Ei σ j u).mpr hc)))) rfl (bG ⟨j+1,us,rfl,?_,by exact cw [j,us.length] bJ 0x3e823101200440 0x3e823121040040 e3 aQ,e4,rfl⟩)
    rw[<- e2,fc,a8 hc]
   ·rw[fc,bb hc] at q
    exact c5 (lS (d' (ai e4) A.lg rfl (aq (bI (ai rfl) rfl) (aq (bI (ai rfl) rfl) aE)) fun _ _ q=>vZ A hj hb q) (aW aa (dW fun h=>hc ((Ei σ j u).mp h)))) rfl (cy (bI (ai rfl) rfl) q)
 ·rintro L H1 ⟨j,us,e1,e2,e3,e4,rfl⟩
  refine⟨rfl,?_⟩
  cases us with
  |cons u us=>contradiction
  |nil=>rw[<- e2] at q;exact bC (cy aH q)
end
theorem tg {α:Type} (xs:ah α) (p q:Nat):(cut xs p q).length=min (q-p) (xs.length-p):=(eX ..).trans (aW (min (q-p)) (fJ ..))
theorem Ip (i:Nat) (ts:ah Nat) (p q:Nat):cut (dZ i ts) p q=dZ (i+p) (cut ts p q):=by
 unfold cut dZ
 rw[<- Gj,<- sF,pK,mR]
theorem OT {α:Type} (xs:ah α){k a b:Nat} (h1:k<=a) (h2:a<=b):cut (xs.drop k) (a-k) (b-k)=cut xs a b:=by
 unfold cut
 rw[xB,gY h1,Nat.sub_sub_sub_cancel_right h1]
theorem Nh {α:Type} (xs:ah α){a b:Nat} (h:xs.length<=b):cut xs a b=xs.drop a:=
 mv (by rw[fJ];exact wu h a)
theorem V8 {α:Type} (xs:ah α){a k b:Nat} (h1:a<=k) (h2:k<=b):cut xs a k++cut xs k b=cut xs a b:=by
 unfold cut
 have:=List.take_add (i:=k-a) (j:=b-k) (l:=xs.drop a)
 rw[nR,Nat.sub_add_sub_cancel h2 h1,xB,gY h1] at this
 exact this.symm
theorem RT {α:Type} (xs ys:ah α){a b k:Nat} (h:xs.take k=ys.take k) (hb:b<=k):cut xs a b=cut ys a b:=by
 have e:∀ zs:ah α,cut zs a b=((zs.take k).drop a).take (b-a):=fun zs=>by
  unfold cut
  rw[Tq,qx,dK (wu hb a)]
 rw[e xs,e ys,h]
theorem MG {C:CC}{L:b5}{H:Hp}{e:E}{xs:ah V} (p:PE C L H e (.bE xs)) (hl:xs.length<=line):PE C L H (.slice ag e .none .none) (.bE xs):=fun Q X z=>p _ _
 ⟨0,xs.length,hl,rfl,rfl,aK (gj _ _ _) hl,by rw[vR];exact z⟩
theorem AS (i:Nat) (ts us:ah Nat):dZ i (ts++us)=dZ i ts++dZ (i+ts.length) us:=by unfold dZ;rw[rG,f6]
noncomputable def Lg.ext (σ:Lg) (k:Nat) (us:ah Nat):Lg:={σ with now:=σ.now.take k++us,br:=min σ.br k}
theorem Na {xs us:ah Nat}{k:Nat} (hk:k<=xs.length):(xs.take k++us).length=k+us.length:=by rw[bN,eX,dK hk]
theorem Lg.Ok.ext {σ:Lg} (o:σ.Ok){k:Nat}{us:ah Nat} (hk:k<=σ.now.length) (hu:us≠[]) (hn:k+us.length<=400) (ht:∀ t∈us,t < 2 ^ 32) (hc:σ.eM<=σ.az+k):(σ.ext k us).Ok:=by
 have e:=Na (us:=us) hk
 have hl:k < (σ.now.take k++us).length:=by rw[e];exact NK (qB.mpr hu)
 have hm:=je σ.br k
 refine⟨aK (Gn _ _) o.k1,aK hm (fH hl),?_,fun q=>absurd (cE hm hl) (gv (gX q.symm)),o.b,aK (gX e) hn,o.n2,fun t h=>?_,o.t2,o.bt,aK hc (dX (fH hl) _),o.a1,o.a2⟩
 ·show σ.gJ.take (min σ.br k)=(σ.now.take k++us).take (min σ.br k)
  have:=aW (List.take (min σ.br k)) o.k3
  rw[qx,qx,dK (Gn _ _)] at this
  rw[Tc (by rw[eX,dK hk];exact hm),qx,dK hm]
  exact this
 ·rcases iS.mp h with h |h
  ·exact o.t1 t (yt h)
  ·exact ht t h
section
variable {n:Nat}{H:Hp}{Q:PV}{X:PX}{lg st un:ax}{σ:Lg}
theorem KY {a b:Nat} (h:H un=aa (Ef σ)) (o:σ.Ok) (h1:σ.br<=a) (h2:a<=b) (h3:b<=σ.now.length) (q:Q (.bE (dZ (σ.az+1+a) (cut σ.now a b))) H):aM (n+1) .t_ [.ref un,nv (σ.az+1+a),nv (σ.az+1+b)] H Q X:=by
 have hl:(dZ (σ.az+1+σ.br) (σ.now.drop σ.br)).length=σ.now.length-σ.br:=(cQ ..).trans (fJ ..)
 refine bA rfl (bK (fo (ai rfl) (ai rfl)) (cb (gv (dX h2 _))) ?_)
 refine bK (a9 (dJ (gq (ai rfl) (kE h (ai rfl))) (cb (gv (dX h1 _))) (cP (fo (ai rfl) (uo h o (ai rfl)))))) (cb (gv (dX h3 _))) ?_
 refine cy (gF (JV (k:=a-σ.br) (q:=b-σ.br) (aP (ai rfl) h rfl) (gF (c6 (ai rfl) (kE h (ai rfl)) (dX h1 _)) (by rw[ND])) (gF (c6 (ai rfl) (kE h (ai rfl)) (dX (aK h1 h2) _)) (by rw[ND])) ?_ ?_ ?_) ?_) q
 ·rw[hl];exact wu (aK h2 h3) _
 ·rw[hl];exact wu h3 _
 ·rw[hl];exact aK (jc ..) (aK o.n1 (by decide))
 ·rw[Ip,OT _ h1 h2,dU,gY h1]
theorem UX {k:Nat}{us:ah Nat} (hk:k<=σ.now.length):Ef (σ.ext k us)=.inst .j' [(.cZ,.none),(.aS,.bE (dZ (σ.az+1+min σ.br k) (cut σ.now (min σ.br k) k)++dZ (σ.az+1+k) us)),(.cJ,nv (σ.az+1+min σ.br k))]:=by
 have h:=je σ.br k
 have e:(σ.now.take k++us).drop (min σ.br k)=cut σ.now (min σ.br k) k++us:=by
  rw[List.drop_append_of_le_length (by rw[eX,dK hk];exact h),Tq];rfl
 have e2:dZ (σ.az+1+min σ.br k) ((σ.now.take k++us).drop (min σ.br k))=dZ (σ.az+1+min σ.br k) (cut σ.now (min σ.br k) k)++dZ (σ.az+1+k) us:=by
  rw[e,AS,tg,dK (wu hk _),dU (σ.az+1),gY h]
 exact aW (fun x=>Mo.inst .j' [(.cZ,.none),(.aS,.bE x),(.cJ,nv (σ.az+1+min σ.br k))]) e2
theorem Wa {k:Nat}{us:ah Nat} (h:H un=aa (Ef σ)) (o:σ.Ok) (hk:k<=σ.now.length) (hu:us≠[]) (hn:k+us.length<=400) (q:Q .none (H.set un (Ef (σ.ext k us)))):aM (n+2) .iu [.ref un,.bE (dZ (σ.az+1+k) us)] H Q X:=by
 have yO:=qB.mpr hu
 have u3:(dZ (σ.az+1+k) us).length<=line:=by rw[cQ];exact aK (j_ _ k) (aK hn (by decide))
 have lP:∀ xs:ah V,xs.length<=400->xs.length+(dZ (σ.az+1+k) us).length<=line:=fun xs h=>by rw[cQ];exact aK (fS h (aK (j_ _ k) hn)) (by decide)
 have w7:∃ u,(dZ (σ.az+1+k) us)[0]? =aa (kF u (σ.az+1+k)).v:=by
  cases us with
  |nil=>exact(hu rfl).elim
  |cons u us=>exact⟨u,rfl⟩
 obtain⟨u,w7⟩:=w7
 rw[UX hk] at q
 refine bA rfl (bK (fF (eY (ai rfl) u3) aH) (cb (by rw[cQ];exact BL yO)) ?_)
 refine aR (bI (gG (k:=0) (ai rfl) aH w7 u3) rfl) ?_
 by_cases c1:k=σ.now.length
 ·refine c5 (fF (ai rfl) (uo h o (ai rfl))) (dC (aW _ c1)) ?_
  refine cT (oB (aP (ai rfl) h rfl) (ai rfl) (lP _ ?_)) (ai rfl) h (aT rfl) (by decide) (bG (bC (bG ?_)))
  ·rw[cQ,fJ];exact aK (jc ..) o.n1
  ·rw[c1,dK o.k2,vR] at q
   rw[c1];exact q
 ·have lW:k < σ.now.length:=xI hk c1
  refine mi (fF (ai rfl) (uo h o (ai rfl))) (cb fun e=>c1 (GH e)) ?_
  by_cases c2:k<=σ.br
  ·rw[qz c2,show cut σ.now k k=[] by unfold cut;rw[BK,LY]] at q
   refine c5 (kJ (ai rfl) (kE h (ai rfl))) (dC (dX c2 _)) (cT (ai rfl) (ai rfl) h (aT rfl) (by decide) ?_)
   exact bj (MG (ai rfl) u3) (ai rfl) (aT rfl) (by decide) (bG (bC (bG (bC (bG q)))))
  ·have c2':=xE c2
   rw[dK c2'] at q
   refine mi (kJ (ai rfl) (kE h (ai rfl))) (cb fun e=>c2 (DZ e)) (c5 (gq (ai rfl) (uo h o (ai rfl))) (dC (GG lW _)) ?_)
   have hp:∀ {L:b5},L .aG=aa (.ref un)->L .qb=aa (nv (σ.az+1+k))->PE (aM (n+1)) L H (.bk (.aC .aG) .C3 (.cons (.aV (.aC .aG) .cJ) (.cons (.aC .qb) .nil))) (.bE (dZ (σ.az+1+σ.br) (cut σ.now σ.br k))):=fun h1 h2=>d' (ai h1) h rfl (aq (kE h (ai h1)) (aq (ai h2) aE)) fun _ _ q=>KY h o (bD _) c2' hk q
   refine cT (oB (hp rfl rfl) (ai rfl) (lP _ ?_)) (ai rfl) h (aT rfl) (by decide) (bG (bC (bG (bC (bG (bC (bG q)))))))
   rw[cQ,tg];exact aK (je ..) (aK (jc ..) o.n1)
end
section
variable {C:CC}{L:b5}{H:Hp}{e c:E}{x u:V}{xs ys:ah V}{k:Nat}
theorem qk {x:V}{xs:ah V} (h:listOf H x=aa xs):x=.bE xs∨∃ a,x=.ref a/\H a=aa (.bE xs):=by
 cases x with
 |bE ys=>cases h;exact .inl rfl
 |ref a=>
  exact .inr ⟨a,rfl,Lu h⟩
 |_=>contradiction
theorem Vm (p:PE C L H e x) (h:listOf H x=aa xs) (hl:xs.length<=line):PE C L H (.bc .len (.cons e .nil)) (.int xs.length):=by
 rcases qk h with rfl |⟨a,rfl,ha⟩
 ·exact eY p hl
 ·exact oy p ha hl
theorem MJ (p:PE C L H e x) (h:listOf H x=aa xs) (q:PE C L H c (.int k)) (g:xs[k]? =aa u) (hl:xs.length<=line):PE C L H (.idx e c) u:=by
 rcases qk h with rfl |⟨a,rfl,ha⟩
 ·exact gG p q g hl
 ·exact Vn p ha q g hl
theorem Vr (p:PE C L H e (.bE ys)) (q:PE C L H c x) (h:listOf H x=aa xs) (hl:ys.length+xs.length<=line):PE C L H (.bR .add e c) (.bE (ys++xs)):=by
 rcases qk h with rfl |⟨a,rfl,ha⟩
 ·exact oB p q hl
 ·exact fun Q X z=>p _ _ (q _ _ ⟨ys,xs,rfl,h,hl,z⟩)
end
theorem Ff {n:Nat}{x:Nm}{b:Ss}{Q:PO}{X:fk}{L:b5}{H:Hp}{k:Nat} (c:Nat) (hc:k=c) (I:Nat->b5->Hp->Prop) (h0:I 0 L H)
  (step:∀ m L H,m < c->I m L H->wSs (aM n) ao b (L.set x (nv m)) H (G8 Q (I (m+1))) X)
  (fin:∀ L H,I c L H->Q .next L H):B_ x (fun L H Q X=>wSs (aM n) ao b L H Q X) Q X k 0 L H:=
 KI c hc I h0 (fun m L H hm h=>by rw[Tb];exact step m L H hm h) fin
section
variable {n:Nat}{H:Hp}{Q:PV}{X:PX}{lg st un:ax}{σ:Lg}
theorem eC.ls (A:eC H lg st un σ):lg≠st:=by
 obtain⟨hv,cv,sv,h⟩:=A.st
 exact aZ A.lg h nofun
theorem eC.lu (A:eC H lg st un σ):lg≠un:=aZ A.lg A.un nofun
theorem eC.su (A:eC H lg st un σ):st≠un:=by
 obtain⟨hv,cv,sv,h⟩:=A.st
 exact aZ h A.un nofun
theorem eC.tlg {τ:Lg} (A:eC H lg st un σ) (e1:∀ a b c,m8 τ a b c=m8 σ a b c) (e2:Ef τ=Ef σ) (o:τ.Ok):eC (H.set lg (lgO τ st un)) lg st un τ:=by
 obtain⟨hv,cv,sv,h⟩:=A.st
 exact⟨aN,⟨hv,cv,sv,by rw[e1];exact bZ A.ls.symm h⟩,by rw[e2];exact bZ A.lu.symm A.un,o⟩
theorem eC.tun {τ:Lg} (A:eC H lg st un σ) (e1:∀ a b c,m8 τ a b c=m8 σ a b c) (e2:∀ a b,lgO τ a b=lgO σ a b) (o:τ.Ok):eC (H.set un (Ef τ)) lg st un τ:=by
 obtain⟨hv,cv,sv,h⟩:=A.st
 exact⟨by rw[e2];exact bZ A.lu A.lg,⟨hv,cv,sv,by rw[e1];exact bZ A.su h⟩,aN,o⟩
theorem xc {i:Nat} (A:eC H lg st un σ) (h:i<=σ.az+σ.now.length) (q:∀ H',eC H' lg st un {σ with eM:=max σ.eM i}->gZ [lg,st,un] H H'->Q .none H'):aM (n+3) .oP [.ref lg,.int i] H Q X:=by
 refine bA rfl ?_
 by_cases hc:i<=σ.eM
 ·rw[xD hc] at q
  exact c5 (kJ (ai rfl) (aP (ai rfl) A.lg rfl)) (dC hc) (Qh (q _ A (d7 H)))
 ·refine bK (kJ (ai rfl) (aP (ai rfl) A.lg rfl)) (cb hc) (bK (fo (ai rfl) (jZ A (ai rfl))) (cb (gv h)) ?_)
  have o:=A.ok
  have VX:=xE hc
  rw[BV VX] at q
  have o2:({σ with eM:=i}:Lg).Ok:=⟨o.k1,o.k2,o.k3,o.k4,o.b,o.n1,o.n2,o.t1,o.t2,o.bt,h,o.a1,aK o.a2 VX⟩
  exact cT (ai rfl) (ai rfl) A.lg (aT rfl) (by decide) (bG (q _ (A.tlg (τ:={σ with eM:=i}) (fun _ _ _=>rfl) rfl o2) (dS (d7 H) (.head _))))
theorem Bb {i:Nat} (A:eC H lg st un σ) (h0:1<=i) (h1:σ.app<=i) (h2:i<=σ.eM) (q:∀ H',eC H' lg st un {σ with app:=i}->gZ [lg,st,un] H H'->Q .none H'):aM (n+3) .nX [.ref lg,.int i] H Q X:=by
 have o:=A.ok
 have o2:({σ with app:=i}:Lg).Ok:=⟨o.k1,o.k2,o.k3,o.k4,o.b,o.n1,o.n2,o.t1,o.t2,o.bt,o.c,aK o.a1 h1,h2⟩
 refine bA rfl (bK (fF (ai rfl) aH) (cb (BL h0)) ?_)
 refine bK (a9 (dJ (fo (ai rfl) (aP (ai rfl) A.lg rfl)) (cb (gv h2)) (cP (gq (ai rfl) (aP (ai rfl) A.lg rfl))))) (cb (gv h1)) ?_
 exact cT (ai rfl) (ai rfl) A.lg (aT rfl) (by decide) (bG (q _ (A.tlg (τ:={σ with app:=i}) (fun _ _ _=>rfl) rfl o2) (dS (d7 H) (.head _))))
theorem Ms (o:σ.Ok):(dZ (σ.az+1+σ.br) (σ.now.drop σ.br)).length<=line:=by
 rw[cQ,fJ];exact aK (jc ..) (aK o.n1 (by decide))
theorem KS (A:eC H lg st un σ) (q:Q (.bE (dZ (σ.az+1+σ.br) (σ.now.drop σ.br))) H):aM (n+1) .ju [.ref lg] H Q X:=
 bA rfl (cy (MG (aP (aP (ai rfl) A.lg rfl) A.un rfl) (Ms A.ok)) q)
noncomputable def Lg.Ci (σ:Lg):Lg:={σ with gJ:=σ.now,br:=σ.now.length}
theorem Lg.Ok.Ci {σ:Lg} (o:σ.Ok):σ.Ci.Ok:=⟨bD _,bD _,rfl,fun _=>rfl,o.b,o.n1,o.n1,o.t1,o.t1,o.bt,o.c,o.a1,o.a2⟩
theorem O2 {t:Nat} (A:eC H lg st un σ) (hk:σ.br < σ.now.length) (hs:σ.gJ=σ.now) (ht:t=σ.tm (σ.az+σ.now.length)) (q:∀ H',eC H' lg st un σ.Ci->gZ [lg,st,un] H H'->Q .none H'):aM (n+3) .oN [.ref lg,.int (σ.az+σ.now.length:Nat),.int t] H Q X:=by
 have hle:σ.az+1+σ.br<=σ.az+σ.now.length:=by rw[dU,nR 1];exact dX hk _
 refine bA rfl (bo (bH (aP (ai rfl) A.lg rfl) A.un rfl (aq (ai rfl) (aq (ai rfl) aE)) ?_))
 refine bA rfl (bK (gq (ai rfl) (kE A.un (ai rfl))) (cb (gv hle)) ?_)
 refine bM (bH (ai rfl) A.un rfl (aq (ai rfl) aE) (Nv A.un A.ok ?_))
 rw[a8 ⟨hle,by rw[iD];exact nU _⟩,<- ht]
 refine bK (a9 (dJ (YX (ai rfl)) rfl (cP (ri (ai rfl) (ai rfl))))) (mZ rfl) ?_
 have hn:σ.az+σ.now.length+1-(σ.az+1+σ.br)=σ.now.length-σ.br:=by rw[iD,ND]
 refine cT (zt (aP (ai rfl) A.un rfl) (c6 (dM (ai rfl)) (kE A.un (ai rfl)) (TY hle)) ?_ (Ms A.ok)) (ai rfl) A.un (aT rfl) (by decide) (bj (dM (ai rfl)) (ai rfl) (aT rfl) (by decide) (bG ⟨rfl,?_⟩))
 ·rw[hn,cQ,fJ];exact bD _
 ·have e:Ef σ.Ci=.inst .j' [(.cZ,.none),(.aS,.bE ((dZ (σ.az+1+σ.br) (σ.now.drop σ.br)).drop (σ.az+σ.now.length+1-(σ.az+1+σ.br)))),(.cJ,nv (σ.az+σ.now.length+1))]:=by
   rw[hn,List.drop_of_length_le (gX ((cQ ..).trans (fJ ..))),iD]
   unfold Ef Lg.Ci
   dsimp only
   rw[TK];rfl
  have:=q _ (A.tun (τ:=σ.Ci) (fun _ _ _=>by unfold m8 Lg.Ci;rw[hs]) (fun _ _=>rfl) A.ok.Ci) (dS (d7 H) (.tail _ (.tail _ (.head _))))
  rw[e] at this
  exact this
theorem A8 {hv cv sv:V}{h:Hd} (hs:H st=aa (m8 σ hv cv sv)) (q:Q .none (H.set st (m8 σ h.o cv sv))):aM (n+3) .kg [.ref st,h.o] H Q X:=
 bA rfl (cT (jX (ai rfl) rfl aE fun _ _ q=>Wj q) (ai rfl) hs (aT rfl) (by decide) q)
theorem DJ {hv cv sv x:V}{k:Nat}{us:ah Nat} (hs:H st=aa (m8 σ hv cv sv)) (hx:listOf H x=aa (dZ (σ.az+1+k) us)) (hk:k<=σ.gJ.length) (he:us=[]->k=σ.gJ.length) (h1:σ.gJ.length<=1000) (h2:us.length<=1000)
  (q:∀ H',H' st=aa (m8 {σ with gJ:=σ.gJ.take k++us} hv cv sv)->gZ [st] H H'->Q .none H'):aM (n+2) .lN [.ref st,x] H Q X:=by
 have Ku:(dZ (σ.az+1+k) us).length<=line:=by rw[cQ];exact aK h2 (by decide)
 have hlen:∀ {L:b5},L .aS=aa x->PE (aM (n+1)) L H (.bc .len (.cons (.aC .aS) .nil)) (nv us.length):=fun h=>gF (Vm (ai h) hx Ku) (by rw[cQ];rfl)
 have Pw:∀ {i},i < us.length->∃ t,(dZ (σ.az+1+k) us)[i]? =aa (kF t (σ.az+1+k+i)).v:=fun h=>⟨_,pL (lK h)⟩
 refine bA rfl ?_
 by_cases hu:us=[]
 ·refine c5 (fF (hlen rfl) aH) (dC (by rw[hu];rfl)) (Qh (q H ?_ (d7 H)))
  rw[hs,hu,he hu,sH,fT]
 ·have tP:=qB.mpr hu
  obtain⟨t0,ht0⟩:=Pw tP
  refine bK (fF (hlen rfl) aH) (cb (BL tP)) (aR (bI (MJ (k:=0) (ai rfl) hx aH ht0 Ku) rfl) ?_)
  refine zp (hlen rfl) (lE [us.length] hJ Iv aQ) (cw [us.length] bJ Iu yi h2 aQ) (Ff us.length (gg [] 0x200174101 [us.length] 0x1100110040011001100050020110011004001900110005002001 258 33 tP aQ) (fun _ L H1=>L .aS=aa x/\L .aG=aa (.ref st)/\L .mV=aa (nv (σ.az+1+k))/\H1=H) ⟨rfl,rfl,rfl,rfl⟩ ?_ ?_)
  ·rintro m L H1 hm ⟨e2,e3,e4,rfl⟩
   obtain⟨t,ht⟩:=Pw hm
   exact bK (ri (bI (MJ (ai e2) hx (ai rfl) ht Ku) rfl) (cS (ai e4) (ai rfl))) (mZ rfl) (bG ⟨e2,e3,e4,rfl⟩)
  ·rintro L H1 ⟨e2,e3,e4,rfl⟩
   refine bC (aR (vo hs (ai e3)) ?_)
   refine bK (eL (jb (jC (ai e4) (hlen e2)) aH) (ai rfl)) (cb (cw [σ.az,k,us.length] mF 0x120041122011012004414746 0x20021 tP aQ)) ?_
   refine bK (fo (ai e4) (dM (zl hs h1 (ai e3)))) (cb (cw [σ.az,σ.gJ.length,k] mF 0x201200441210004416 lJ hk aQ)) ?_
   refine bK (gq (ai e4) (ai rfl)) (cb (gv (fu ..))) ?_
   have lP:(dZ (σ.az+1) σ.gJ).length<=1000:=by rw[cQ];exact h1
   have Zo:k<=(dZ (σ.az+1) σ.gJ).length:=by rw[cQ];exact hk
   refine cT (Vr (Ew (aP (ai e3) hs rfl) (eW (jb (ai e4) (ai rfl)) (by exact lE [σ.az,k] rN 0x10112004110120044175 aQ)) Zo (aK lP (by decide))) (ai e2) hx ?_) (ai e3) hs (aT rfl) (by decide) (bG (q _ ?_ (dS (d7 _) (.head _))))
   ·rw[eX,cQ _ us];exact aK (fS (aK (je ..) lP) h2) (by decide)
   ·have:(dZ (σ.az+1) σ.gJ).take k++dZ (σ.az+1+k) us=dZ (σ.az+1) (σ.gJ.take k++us):=by
     rw[AS,eX,dK hk]
     refine aW (· ++_) ?_
     unfold dZ
     rw[<- sF,mR]
    rw[this];exact aN
end
section
variable {C:CC}{L:b5}{H:Hp}{e c:E}{k j:Nat}
theorem ox (p:PE C L H e (.int k)) (q:PE C L H c (.int j)):PE C L H (.bc .min (.cons e (.cons c .nil))) (.int (min k j:Nat)):=eW (JX p q) (Tr ..).symm
theorem vz (p:PE C L H e (.int k)) (q:PE C L H c (.int j)):PE C L H (.bc .max (.cons e (.cons c .nil))) (.int (max k j:Nat)):=eW (Qz p q) (Yj ..).symm
theorem cX {i:Nat} (p:PE C L H e (.int k)) (h:k=i):PE C L H e (nv i):=h▸p
theorem iV {xs ys:ah V} (p:PE C L H e (.bE xs)) (h:xs=ys):PE C L H e (.bE ys):=h▸p
end
theorem Fo {α:Type}{xs:ah α}{a b:Nat} (h:b<=xs.length):(cut xs a b).length=b-a:=(tg ..).trans (dK (wu h a))
theorem Il {α:Type} (xs:ah α){a b:Nat} (h:b<=a):cut xs a b=[]:=by unfold cut;rw[NJ h,LY]
theorem Ng {α:Type}{xs:ah α}{a b:Nat}{x:α} (h:x∈cut xs a b):x∈xs:=Ja (yt h)
section
variable {n:Nat}{H:Hp}{Q:PV}{X:PX}{lg st un:ax}{σ:Lg}
theorem Wi {i:Nat}{ts:ah Nat}{lim:Int} (hb:i+ts.length < 2 ^ 32) (ht:∀ t∈ts,t < 2 ^ 32) (hn:ts.length<=1000) (hl:42000<=lim) (q:Q (.bE (dZ i ts)) H):aM (n+3) .kN [.bE (dZ i ts),.int lim] H Q X:=
 Fx (es:=ents i ts) rfl (zF ht hb) (by rw[fi];exact hn) hl q
theorem IK {xs:ah Nat}{a b:Nat}{lim:Int} (o:σ.az<=100000) (hx:xs.length<=400) (ht:∀ t∈xs,t < 2 ^ 32) (h2:b<=xs.length) (h1:a<=b) (hl:42000<=lim) (q:Q (.bE (dZ (σ.az+1+a) (cut xs a b))) H):aM (n+3) .kN [.bE (dZ (σ.az+1+a) (cut xs a b)),.int lim] H Q X:=
 Wi (by rw[Fo h2,dU,gY h1];exact cE (fS (eH o) (aK h2 hx)) (by decide)) (fun t h=>ht t (Ng h)) (by rw[Fo h2];exact aK (jc ..) (aK h2 (aK hx (by decide)))) hl q
theorem O6 {hv cv sv:V}{a b:Nat}{lim:Int} (hs:H st=aa (m8 σ hv cv sv)) (o:σ.Ok) (h1:a < b) (h2:b<=σ.gJ.length) (hl:42000<=lim) (q:Q (.bE (dZ (σ.az+1+a) (cut σ.gJ a b))) H):
  aM (n+4) .hU [.ref st,nv (σ.az+1+a),nv (σ.az+1+b),.int lim] H Q X:=by
 have g:=aK o.n2 (show 400<=1000 by decide)
 refine bA rfl (bK (kJ (ai rfl) (aP (ai rfl) hs rfl)) (cb (lE [σ.az,a] mq 0x1012004406 aQ)) ?_)
 refine bK (fo (ai rfl) (dM (zl hs g (ai rfl)))) (cb (cw [σ.az,σ.gJ.length,b] mF 0x201200441210004416 lJ h2 aQ)) ?_
 refine bK (kJ (ai rfl) (ai rfl)) (cb (fun h=>BS h1 (DZ h))) (aR (vo hs (ai rfl)) ?_)
 have yM:(dZ (σ.az+1) σ.gJ).length=σ.gJ.length:=cQ ..
 exact gM (bQ (aq (iV (JV (aP (ai rfl) hs rfl) (cX (c6 (ai rfl) (ai rfl) (fu ..)) (pX ..)) (cX (c6 (ai rfl) (ai rfl) (fu ..)) (pX ..)) (by rw[yM];exact aK (fH h1) h2) (by rw[yM];exact h2) (by rw[yM];exact aK g (by decide))) (Ip ..)) (aq (ai rfl) aE)) (IK o.b o.n2 o.t2 h2 (fH h1) hl q))
theorem Nt {a b:Nat}{lim:Int} (A:eC H lg st un σ) (h1:a<=b) (h2:b<=σ.now.length) (hl:42000<=lim) (q:Q (.bE (dZ (σ.az+1+a) (cut σ.now a b))) H):
  aM (n+5) .ue [.ref lg,nv (σ.az+1+a),nv (σ.az+1+b),.int lim] H Q X:=by
 obtain⟨hv,cv,sv,hs⟩:=A.st
 have o:=A.ok
 refine bA rfl (bK (fo (ai rfl) (ai rfl)) (cb (gv (dX h1 _))) ?_)
 refine bK (gq (ai rfl) (ru A (ai rfl))) (cb (gv (fu ..))) ?_
 refine bK (fo (ai rfl) (dM (jZ A (ai rfl)))) (cb (gv (by rw[iD];exact eH (dX h2 _)))) ?_
 by_cases KG:a=b
 ·rw[Il _ (gX KG.symm)] at q
  exact c5 (fF (ai rfl) (ai rfl)) (dC (aW _ KG)) (cy (cG aE (bX _)) q)
 have KG:=xI h1 KG
 have fin:∀ {L},L .lQ=aa (.bE (dZ (σ.az+1+a) (cut σ.now a b)))->L .qa=aa (.int lim)->wSs (aM (n+4)) ag (.cons (.ret (.bL .kN (.cons (.aC .lQ) (.cons (.aC .qa) .nil)))) .nil) L H (Ck Q) (wU X):=fun g1 g2=>gM (bQ (aq (ai g1) (aq (ai g2) aE)) (IK o.b o.n1 o.t1 h2 h1 hl q))
 have MZ:∀ {x y},(cut σ.now x y).length<=400:=fun{x y}=>aK (gj ..) o.n1
 refine bK (fF (ai rfl) (ai rfl)) (cb fun h=>sD KG (GH h)) (aR (kE A.un (aP (ai rfl) A.lg rfl)) (aR (cG aE (bX _)) ?_))
 by_cases c1:a < σ.br
 ·have m1:a < min b σ.br:=Nat.lt_min.mpr ⟨KG,c1⟩
  have m2:=je b σ.br
  have e2:cut σ.gJ a (min b σ.br)=cut σ.now a (min b σ.br):=RT _ _ o.k3 m2
  refine c5 (gq (ai rfl) (ai rfl)) (dC (GG c1 _)) (aR (cX (ox (ai rfl) (ai rfl)) (Up ..)) (My (bM (bH (aP (ai rfl) A.lg rfl) hs rfl (aq (ai rfl) (aq (ai rfl) (aq (ai rfl) aE))) (O6 hs o m1 (aK m2 o.k1) hl (bG (bC ?_)))))))
  rw[e2]
  refine bK (gq (cX (eY (ai rfl) (by rw[cQ];exact aK MZ (by decide))) (by rw[cQ,Fo (aK m2 o.k2)])) (cX (c6 (ai rfl) (ai rfl) (dX (fH m1) _)) (ND ..))) (cb (sG _)) (bG (bC ?_))
  by_cases c2:σ.br < b
  ·rw[qz (fH c2)]
   refine c5 (fo (ai rfl) (ai rfl)) (dC (GG c2 _)) (aR (iV (oB (ai rfl) (d' (aP (ai rfl) A.lg rfl) A.un rfl (aq (cX (vz (ai rfl) (ai rfl)) (BV (dX (fH c1) _))) (aq (ai rfl) aE)) fun _ _ q=>KY A.un o (bD _) (fH c2) h2 q) (by rw[cQ,cQ];exact aK (fS MZ MZ) (by decide))) ?_) (bG (bC (fin rfl rfl))))
   rw[<- V8 σ.now (fH c1) (fH c2),AS,Fo o.k2,dU (σ.az+1),gY (fH c1)]
  ·rw[dK (iC c2)]
   exact bK (fo (ai rfl) (ai rfl)) (cb fun h=>c2 (Ym h)) (fin rfl rfl)
 ·have c1':=iC c1
  refine bK (gq (ai rfl) (ai rfl)) (cb fun h=>c1 (Ym h)) (c5 (fo (ai rfl) (ai rfl)) (dC (GG (cE c1' KG) _)) (aR (oB (ai rfl) (d' (aP (ai rfl) A.lg rfl) A.un rfl (aq (cX (vz (ai rfl) (ai rfl)) (xD (dX c1' _))) (aq (ai rfl) aE)) fun _ _ q=>KY A.un o c1' h1 h2 q) ?_) (bG (bC (fin rfl rfl)))))
  rw[cQ];exact aK (fS (bX 400) MZ) (by decide)
theorem O1 (A:eC H lg st un σ) (q:Q (.bool ao) H):aM (n+1) .jv [.ref lg] H Q X:=
 bA rfl (cy (a9 (jl (qg (aP (aP (ai rfl) A.lg rfl) A.un rfl)) rfl)) q)
theorem yk (A:eC H lg st un σ) (q:Q (nv (σ.app+1)) H):aM (n+3) .jO [.ref lg] H Q X:=
 bA rfl (cy (cX (vz (dM (aP (ai rfl) A.lg rfl)) (ru A (ai rfl))) (xD (eH A.ok.a1))) q)
theorem DO (A:eC H lg st un σ) (q:Q (.bool (decide (σ.app+1 < σ.eM+1))) H):aM (n+4) .p8 [.ref lg] H Q X:=
 bA rfl (bK (d' (ai rfl) A.lg rfl aE fun _ _ q=>O1 A q) rfl (cy (fo (dM (aP (ai rfl) A.lg rfl)) (d' (ai rfl) A.lg rfl aE fun _ _ q=>yk A q)) q))
theorem ZV (A:eC H lg st un σ) (q:Q (.bE (dZ (σ.app+1) (cut σ.now (σ.app-σ.az) (σ.eM-σ.az)))) H):aM (n+6) .kc [.ref lg] H Q X:=by
 have g1:=A.ok.a1
 have g2:=A.ok.a2
 refine bA rfl ?_
 by_cases hc:σ.app < σ.eM
 ·have e1:σ.app+1=σ.az+1+(σ.app-σ.az):=by rw[iD,gY g1]
  have e2:σ.eM+1=σ.az+1+(σ.eM-σ.az):=by rw[iD,gY (aK g1 g2)]
  rw[e1] at q
  refine bK (lS (d' (ai rfl) A.lg rfl aE fun _ _ q=>DO A q) (dC (TJ hc))) rfl (gM (bH (ai rfl) A.lg rfl (aq (cX (d' (ai rfl) A.lg rfl aE fun _ _ q=>yk A q) e1) (aq (cX (dM (aP (ai rfl) A.lg rfl)) e2) (aq (aP (ai rfl) A.lg rfl) aE))) (Nt A (wu g2 _) ?_ (by decide) q)))
  exact Uo (by rw[nR];exact A.ok.c)
 ·rw[Il _ (wu (iC hc) _)] at q
  exact c5 (lS (d' (ai rfl) A.lg rfl aE fun _ _ q=>DO A q) (cb fun h=>hc (X5 h))) rfl (cy (cG aE (bX _)) q)
theorem acC (A:eC H lg st un σ) (q:Q (.bE (dZ (σ.az+1) σ.now)) H):aM (n+7) .mz [.ref lg] H Q X:=by
 refine bA rfl (gM (bH (ai rfl) A.lg rfl (aq (ru A (ai rfl)) (aq (bw rfl) aE)) (bA rfl ?_)))
 by_cases hc:σ.now.length=0
 ·rw[qO.mp hc] at q
  exact c5 (fo (ai rfl) (jZ A (ai rfl))) (dC (by rw[hc];exact nU _)) (cy (cG aE (bX _)) q)
 ·refine bK (fo (ai rfl) (jZ A (ai rfl))) (cb (cw [σ.az,σ.now.length] 0x110011000500110000050031011001 0x120041000416 0x21026 hc aQ)) (gM (bH (ai rfl) A.lg rfl (aq (ai rfl) (aq (cX (dM (jZ A (ai rfl))) (iD ..)) (aq (ai rfl) aE))) (Nt (a:=0) A (bX _) (bD _) (by decide) ?_)))
  rw[Ik,sH];exact q
theorem O4 {k:Nat}{us:ah Nat} (A:eC H lg st un σ) (hk:k<=σ.now.length) (hu:us≠[]) (hn:k+us.length<=400) (ht:∀ t∈us,t < 2 ^ 32) (hc:σ.eM<=σ.az+k) (q:∀ v H',flat v=ag->eC H' lg st un (σ.ext k us)->gZ [lg,st,un] H H'->Q v H'):aM (n+3) .sL [.ref lg,.bE (dZ (σ.az+1+k) us)] H Q X:=by
 have u3:(dZ (σ.az+1+k) us).length<=line:=by rw[cQ];exact aK (j_ _ k) (aK hn (by decide))
 have yO:=qB.mpr hu
 have w7:=pL (i:=σ.az+1+k) (lK yO)
 have A2:=A.tun (τ:=σ.ext k us) (fun _ _ _=>rfl) (fun _ _=>rfl) (A.ok.ext hk hu hn ht hc)
 refine bA rfl (bK (fF (eY (ai rfl) u3) aH) (cb (by rw[cQ];exact BL yO)) ?_)
 have hp:∀ {L},L .aS=aa (.bE (dZ (σ.az+1+k) us))->PE (aM (n+2)) L H (.aV (.idx (.aC .aS) (.int 0)) .cp) (nv (σ.az+k+1)):=fun h=>cX (bI (gG (k:=0) (ai h) aH w7 u3) rfl) (show σ.az+1+k=σ.az+k+1 from iD ..)
 refine aR (cX (c6 (j:=1) (hp rfl) aH (j_ ..)) (Mc ..)) ?_
 refine bK (gq (ai rfl) (aP (ai rfl) A.lg rfl)) (cb (gv hc)) ?_
 refine bK (fo (ai rfl) (jZ A (ai rfl))) (cb (gv (dX hk _))) ?_
 refine bo (bH (aP (ai rfl) A.lg rfl) A.un rfl (aq (ai rfl) aE) (Wa A.un A.ok hk hu hn ⟨rfl,gM (bH (ai rfl) A2.lg rfl aE (Ny A2 (q _ _ rfl A2 (dS (d7 H) (.tail _ (.tail _ (.head _)))))))⟩))
noncomputable def Lg.Sz (σ:Lg) (k0:Nat) (ts:ah Nat) (sure:Nat):Lg:=
 let τ:=match fc σ.now k0 ts with
  |none=>σ
  |some k=>σ.ext k (ts.drop (k-k0))
 {τ with eM:=max τ.eM (min sure (σ.az+k0+ts.length))}
theorem tc:∀ {now ts:ah Nat}{k0 k:Nat},fc now k0 ts=aa k->k0<=k/\k < k0+ts.length/\now[k]? ≠ts[k-k0]? /\∀ j,k0<=j->j < k->now[j]? =ts[j-k0]?
 |now,[],k0,k,h=>by contradiction
 |now,t::ts,k0,k,h=>by
  unfold fc at h
  split at h
  ·rename_i hc
   obtain⟨h1,h2,h3,h4⟩:=tc h
   refine⟨by exact cw [k0,k] bJ dO 0x10120040 h1 aQ,by simp;exact cw [k,k0,ts.length] bJ 0x12204104001 0x20121044001 h2 aQ,?_,?_⟩
   ·rw[show k-k0=(k-(k0+1))+1 by exact gg [] 0x1210400010000202 [k,k0] 0x11001100400110190011000600110019001100070120201100110040011000011006001900110011000701202001 0x12404202 0x121040 h1 aQ,SM];exact h3
   ·intro j h5 h6
    by_cases e:j=k0
    ·subst e;rw[BK];exact hc
    ·rw[show j-k0=(j-(k0+1))+1 by exact nt [] 0x1210400010000202 [j,k0] 0x11001100000700110190011000008001100190011000009012020110011000000800110000001100800310110011000000800110019001100000900212001021 0x12404202 256 0x100026 h5 e aQ,SM];exact h4 j (fw [k0,j] 0x11000011050011000110050031021 0x10120040 dO 0x1026 h5 e aQ) h6
  ·rename_i hc
   cases h
   refine⟨bD _,by simp,by rw[BK];exact hc,fun j h5 h6=>by exact(fw [k0,j] AY 11 dO 257 h5 h6 aQ:False).elim⟩
theorem Fh:∀ {now ts:ah Nat}{k0:Nat},fc now k0 ts=au->∀ j,k0<=j->j < k0+ts.length->now[j]? =ts[j-k0]?
 |now,[],k0,h,j,h1,h2=>by simp at h2;exact(fw [k0,j] AY 11 dO 257 h1 h2 aQ:False).elim
 |now,t::ts,k0,h,j,h1,h2=>by
  unfold fc at h
  split at h
  ·rename_i hc
   by_cases e:j=k0
   ·subst e;rw[BK];exact hc
   ·rw[show j-k0=(j-(k0+1))+1 by exact nt [] 0x1210400010000202 [j,k0] 0x11001100000700110190011000008001100190011000009012020110011000000800110000001100800310110011000000800110019001100000900212001021 0x12404202 256 0x100026 h1 e aQ,SM]
    exact Fh h j (fw [k0,j] 0x11000011050011000110050031021 0x10120040 dO 0x1026 h1 e aQ) (by simp at h2;exact cw [j,k0,ts.length] bJ 0x20121044001 0x12204104001 h2 aQ)
  ·contradiction
theorem XE {now ts:ah Nat}{k0 k:Nat} (h:fc now k0 ts=aa k) (h0:k0<=now.length):k<=now.length:=by
 obtain⟨h1,h2,_,h4⟩:=tc h
 by_cases e0:k=k0
 ·rw[e0];exact h0
 ·have:=h4 (k-1) (nt [] 0x12100102 [k0,k] 0x11011000011060011001100001107002011000110050031021 pO dO 0x1026 h1 e0 aQ) (nt [] 0x12000102 [k,k0] 0x1101100000600190000001107002011000110050031021 513 256 0x100026 h1 e0 aQ)
  rw[lK (l:=ts) (by exact EU [] 0x1030012000203 [k,k0,ts.length] 0x1100110000008001100000011008004101100000011011011090019001900001100110901202031 0x20501 256 mn 0x100026 h1 h2 e0 aQ)] at this
  have:=lX this
  exact gg [] 0x12000102 [k,now.length] Nk dO 0x10201 this aQ
theorem ZF {now ts:ah Nat}{k0:Nat} (h:fc now k0 ts=au) (h0:k0<=now.length):k0+ts.length<=now.length:=by
 by_cases e0:ts.length=0
 ·rw[e0];exact h0
 ·have:=Fh h (k0+ts.length-1) (gg [] 0x12100040102 [k0,ts.length] 0x110110001105001100110001106002011000040021011 pO 0x21026 e0 aQ) (gg [] 0x12100040102 [k0,ts.length] 0x11011000050019000001106002011000040021011 0x10004201 0x21026 e0 aQ)
  rw[lK (l:=ts) (by exact gg [] 0x20012100040202 [k0,ts.length] 0x110110000500110110011000070019001900000110801202011000040021011 0x10401 0x21026 e0 aQ)] at this
  have:=lX this
  exact gg [] 0x12100040103 [k0,ts.length,now.length] Nk yg 0x20301 this aQ
theorem Nw {k0 t sure:Nat}{ts:ah Nat} (A:eC H lg st un σ) (hk:k0+ts.length<=400) (ht:∀ t∈ts,t < 2 ^ 32)
  (hc:(σ.az+k0<=σ.az+σ.now.length/\σ.tm (σ.az+k0)=t)->∀ k,fc σ.now k0 ts=aa k->σ.eM<=σ.az+k)
  (q:∀ H',¬ (σ.az+k0<=σ.az+σ.now.length/\σ.tm (σ.az+k0)=t)->H'=H->Q .none H')
  (q2:∀ H',(σ.az+k0<=σ.az+σ.now.length/\σ.tm (σ.az+k0)=t)->eC H' lg st un (σ.Sz k0 ts sure)->gZ [lg,st,un] H H'->Q (nv (σ.az+k0+ts.length)) H'):
  aM (n+6) .lM [.ref lg,.int (σ.az+k0:Nat),.int t,.int sure,.bE (dZ (σ.az+1+k0) ts)] H Q X:=by
 have g1:=A.ok.b
 have lP:(dZ (σ.az+1+k0) ts).length<=line:=by rw[cQ];exact aK (j_ _ k0) (aK hk (by decide))
 have hi:σ.az+k0 < 2 ^ 40:=cE (fS g1 (aK (fu ..) hk)) (by decide)
 have hm0:∀ {L},L .aG=aa (.ref lg)->L .cp=aa (nv (σ.az+k0))->L .sR=aa (nv t)->PE (aM (n+5)) L H (.bk (.aC .aG) .lz (.cons (.aC .cp) (.cons (.aC .sR) .nil))) (.bool (decide (σ.az+k0<=σ.az+σ.now.length/\σ.tm (σ.az+k0)=t))):=fun h1 h2 h3=>d' (ai h1) A.lg rfl (aq (ai h2) (aq (ai h3) aE)) fun _ _ q=>vZ A hi (fu ..) q
 refine bA rfl ?_
 by_cases hm:σ.az+k0<=σ.az+σ.now.length/\σ.tm (σ.az+k0)=t
 case neg=>exact c5 (lS (hm0 rfl rfl rfl) (aW aa (dW hm))) rfl (cy iO (q H hm rfl))
 have hk0:k0<=σ.now.length:=DZ hm.1
 have hlen:∀ {L H},L .aS=aa (.bE (dZ (σ.az+1+k0) ts))->PE (aM (n+5)) L H (.bc .len (.cons (.aC .aS) .nil)) (nv ts.length):=fun h=>cX (eY (ai h) lP) (cQ ..)
 refine bK (lS (hm0 rfl rfl rfl) (aW aa (c9 hm))) rfl (zp (hlen rfl) (lE [ts.length] hJ Iv aQ) (cw [ts.length,k0] bJ Iu 0x19023001040 hk aQ) (Ff ts.length (lT [] 0x200174101 [ts.length] Nl 258 aQ) (fun _ L H1=>L .aS=aa (.bE (dZ (σ.az+1+k0) ts))/\L .aG=aa (.ref lg)/\L .cp=aa (nv (σ.az+k0))/\L .b6=aa (nv sure)/\H1=H) ⟨rfl,rfl,rfl,rfl,rfl⟩ ?_ ?_))
 ·rintro m L H1 hm ⟨e2,e3,e4,e5,rfl⟩
  exact bK (ri (bI (gG (ai e2) (ai rfl) (pL (lK hm)) lP) rfl) (cS (dM (ai e4)) (ai rfl))) (mZ (show σ.az+1+k0+m=σ.az+k0+1+m by rw[iD σ.az])) (bG ⟨e2,e3,e4,e5,rfl⟩)
 ·rintro L H1 ⟨e2,e3,e4,e5,rfl⟩
  refine bC (aR (cS (ai e4) (hlen e2)) (bM (bH (ai e3) A.lg rfl (aq (ai e2) aE) (ZY A (aK hk (by decide)) ?_))))
  cases hf:fc σ.now k0 ts with
  |none=>
   have hle:min sure (σ.az+k0+ts.length)<=σ.az+σ.now.length:=aK (je ..) (by rw[dU];exact dX (ZF hf hk0) _)
   refine bK (ri (ai rfl) aH) (mZ rfl) (bo (bH (ai e3) A.lg rfl (aq (ox (ai e5) (ai rfl)) aE) (xc A hle fun H2 A2 K2=>⟨rfl,cy (ai rfl) (q2 _ hm ?_ K2)⟩)))
   unfold Lg.Sz;rw[hf];exact A2
  |some k=>
   obtain⟨f1,f2,f3,f4⟩:=tc hf
   have Zo:=XE hf hk0
   have ya:(ts.drop (k-k0)).length=ts.length-(k-k0):=fJ ..
   have hkd:k+(ts.drop (k-k0)).length=k0+ts.length:=by rw[ya];exact nt [] 0x3010020000203 [k,ts.length,k0] 0x1100011005001101900011000700190011001100008012020110001100500110190001100070011001900110000801202001 0x10204500042 512 0x10204001 f1 f2 aQ
   have acs:(dZ (σ.az+1+k0) ts).drop (k-k0)=dZ (σ.az+1+k) (ts.drop (k-k0)):=by
    unfold dZ;rw[<- Gj,pK,dU,gY f1]
   have hck:=hc hm k hf
   refine c5 (ri (k:=σ.az+1+k) (j:=0) (ai rfl) aH) (xX (lE [σ.az,k] mq 0x21012004426 aQ)) (bK (kJ (k:=σ.az+1+k) (ai rfl) (aP (ai e3) A.lg rfl)) (cb (cw [σ.az,k,σ.eM] mF 0x201012004406 0x10004200 hck aQ)) ?_)
   refine bo (bH (ai e3) A.lg rfl (aq (iV (zt (k:=k-k0) (ai e2) (cX (c6 (k:=σ.az+1+k) (ai rfl) (dM (ai e4)) (cw [σ.az,k0,k] bJ 0x20120044121000440 0x20100 f1 aQ)) (lT [] 0x2010012200044101200440203 [σ.az,k,k0] 0x11001100400110190011005001100190011006012020110000110060019000110110060120110011000500190011001100601202001 0x50302 aQ)) (by rw[cQ];exact gg [] AX [k,k0,ts.length] 0x1100011040019001101104002 tQ mn f2 aQ) lP) acs) aE) (O4 A Zo (qB.mp (fw [(List.drop (k-k0) ts).length,k,k0,ts.length] 0x19011011030 33 0x30204101 0x30204001042 f2 hkd aQ)) (by rw[hkd];exact hk) (fun t h=>ht t (Ja h)) hck fun v H2 fv A2 K2=>⟨fv,bG (bC ?_)⟩))
   have hle:min sure (σ.az+k0+ts.length)<=(σ.ext k (ts.drop (k-k0))).az+(σ.ext k (ts.drop (k-k0))).now.length:=by
    refine aK (je ..) ?_
    show _<=σ.az+(σ.now.take k++ts.drop (k-k0)).length
    rw[Na Zo,hkd,dU];exact bD _
   refine bo (bH (ai e3) A2.lg rfl (aq (ox (ai e5) (ai rfl)) aE) (xc A2 hle fun H3 A3 K3=>⟨rfl,cy (ai rfl) (q2 _ hm ?_ (jD K2 K3))⟩))
   unfold Lg.Sz;rw[hf];exact A3
end
set_option genCtorIdx true in
inductive Rc
 |f
 |h (d:Hd)
 |e (x:En)
noncomputable def Rc.bs (b t:Nat) (vs:ah Nat):Rc->ah aA
 |.f=>fold b t vs
 |.h d=>d.bs
 |.e x=>x.bs
noncomputable def Rc.Ok:Rc->Prop
 |.f=>True
 |.h d=>d.Ok
 |.e x=>x.Ok
abbrev Rs:=ah En×Hd×ah En
noncomputable def yG (b:Nat):Rs->Rc->aB Rs
 |(es,hd,pe),.e x=>aa (es,hd,pe++[x])
 |(es,hd,pe),.h d=>(fg b es pe).map fun ik=>(ik,d,[])
 |_,.f=>au
noncomputable def runs (b:Nat):Rs->ah Rc->aB Rs
 |s,[]=>aa s
 |s,r::rs=>(yG b s r).bind fun s1=>runs b s1 rs
theorem lC (b:Nat):∀ (rs us:ah Rc) (s:Rs),runs b s (rs++us)=(runs b s rs).bind fun s1=>runs b s1 us
 |[],us,s=>rfl
 |r::rs,us,s=>by
  simp only[List.cons_append,runs]
  cases yG b s r with
  |none=>rfl
  |some s1=>simp only[pk,lC b rs us s1]
noncomputable def U8:Rs:=([],⟨0,0,0⟩,[])
structure Sv where
 e:Nat
 rows:ah Nat
 hd:Hd
noncomputable def c8 (es:ah Nat) (n:Nat):ah Nat:=es.filter (· <=n)
noncomputable def fb (ss:ah Sv) (n:Nat):ah Sv:=ss.filter (·.e<=n)
theorem Jr.le {B:Nat}:∀ {rs:ah (ah aA)}{p:Nat}{bs:ah aA}{es:ah Nat},Jr B p rs bs es->(∀ e∈es,e<=p+bs.length)/\es.getLast?.getD p=p+bs.length
 |[],p,bs,es,h=>by obtain⟨rfl,rfl⟩:=h;simp
 |r::rs,p,bs,es,⟨b,yp,ik,h1,h2,h3,h4⟩=>by
  subst h2 h3
  obtain⟨i1,i2⟩:=Jr.le h4
  refine⟨fun e he=>?_,?_⟩
  ·rcases dT.mp he with rfl |he
   ·simp
   ·have:=i1 e he;simp;exact cw [e,p,b.length,yp.length] bJ 0x30204104000 0x30201044000 this aQ
  ·rw[show((p+b.length)::ik).getLast?.getD p=ik.getLast?.getD (p+b.length) by cases ik<;>simp [T9]]
   rw[i2];simp;exact lE [p,b.length,yp.length] rN 0x20104004201000442 aQ
theorem mK (es:ah Nat) (E n:Nat):c8 (es++[E]) n=c8 es n++(if E<=n then[E] else[]):=by
 unfold c8
 rw[GB]
 by_cases h:E<=n
 ·rw[a8 h];simp [h]
 ·rw[bb h];simp [h]
theorem JK (es:ah Sv) (E:Sv) (n:Nat):fb (es++[E]) n=fb es n++(if E.e<=n then[E] else[]):=by
 unfold fb
 rw[GB]
 by_cases h:E.e<=n
 ·rw[a8 h];simp [h]
 ·rw[bb h];simp [h]
theorem vh {es:ah Nat}{n:Nat} (h:∀ e∈es,e<=n):c8 es n=es:=Mf.mpr (by simpa using h)
theorem Oe {es:ah Sv}{n:Nat} (h:∀ e∈es,e.e<=n):fb es n=es:=Mf.mpr (by simpa using h)
theorem N9 (es:ah Nat) (a n:Nat):c8 (c8 es a) n=c8 es (min a n):=by
 unfold c8
 rw[T8]
 congr 1
 funext e
 simp [SO,and_comm,Td]
theorem G_ (es:ah Sv) (a n:Nat):fb (fb es a) n=fb es (min a n):=by
 unfold fb
 rw[T8]
 congr 1
 funext e
 simp [SO,Td]
structure iJ where
 B:Nat
 az:Nat
 bt:Nat
 vs:ah Nat
noncomputable def iJ.bs (P:iJ):Rc->ah aA:=Rc.bs P.az P.bt P.vs
structure Jn (P:iJ) (cg:ah Rc) (F:ah aA) (aX:ah Nat) (bu:ah Sv) (synced:Nat) (gJ:ah Nat) (pend:ah En):Prop where
 jr:Jr P.B 0 (cg.map P.bs) F aX
 shape:∃ Cf rest,cg=.f::.h Cf::rest
 ok:∀ r∈cg,r.Ok
 two:∀ n,synced<=n->2<=(c8 aX n).length
 KJ:∀ n,synced<=n->∃ sv pe,(fb bu n).getLast?=aa sv/\runs P.az U8 ((cg.take (c8 aX n).length).drop 1)=aa (ents (P.az+1) sv.rows,sv.hd,pe)/\pe.length=((c8 aX n).filter (sv.e < ·)).length
 sf:synced<=F.length
 sl:∀ sv∈bu,sv.e<=F.length
 se:∃ sv∈bu,sv.e=synced
 so:bu.Pairwise (·.e < ·.e)
 fin:∃ sv,bu.getLast?=aa sv/\sv.rows=gJ/\runs P.az U8 (cg.drop 1)=aa (ents (P.az+1) gJ,sv.hd,pend)
section
variable {P:iJ}{cg:ah Rc}{F:ah aA}{aX:ah Nat}{bu:ah Sv}{synced:Nat}{gJ:ah Nat}{pend:ah En}
theorem Jn.AB (J:Jn P cg F aX bu synced gJ pend):cg.length=aX.length:=by have:=J.jr.AB;simpa using this
theorem Jn.entry (hB:8<=P.B) (J:Jn P cg F aX bu synced gJ pend){x:En}{b:ah aA} (hx:x.Ok) (hf:Frs P.B F.length ao x.bs b):Jn P (cg++[.e x]) (F++b) (aX++[(F++b).length]) bu synced gJ (pend++[x]):=by
 have hb:=(hf.len hB).2.1
 have hL:=J.AB
 have hle:=(J.jr.le).1
 have hz:∀ n,synced<=n->(cg++[Rc.e x]).take (c8 (aX++[(F++b).length]) n).length=(if (F++b).length<=n then cg++[Rc.e x] else cg.take (c8 aX n).length):=by
  intro n hn
  rw[mK]
  split
  ·rename_i h
   rw[vh (fun e he=>by have:=hle e he;simp at h;exact GR [e,n,b.length,F.length] ye dO qI 0x30024000 0x10203040 hb this h aQ)]
   rw[mv (by simp;exact cw [cg.length,aX.length] bJ dO pS hL aQ)]
  ·rw[fT,Tc]
   have:(c8 aX n).length<=aX.length:=t8 _ _
   exact fw [(c8 aX n).length,cg.length,aX.length] 0x11019011030 dO 0x20102 pO hL this aQ
 refine⟨?_,?_,?_,?_,?_,?_,?_,J.se,J.so,?_⟩
 ·have:=J.jr.snoc (r:=x.bs) (b:=b) (by rw[jF];exact hf)
  rw[jF] at this
  rw[f6];exact this
 ·obtain⟨Cf,rest,e⟩:=J.shape
  exact⟨Cf,rest++[.e x],by rw[e];rfl⟩
 ·intro r hr
  rcases iS.mp hr with hr |hr
  ·exact J.ok r hr
  ·simp at hr;subst hr;exact hx
 ·intro n hn
  rw[mK]
  have:=J.two n hn
  simp;exact cw [(c8 aX n).length,(if F.length+b.length<=n then[F.length+b.length] else[]).length] bJ 0x10004220 544 this aQ
 ·intro n hn
  rw[hz n hn]
  by_cases h:(F++b).length<=n
  ·rw[a8 h]
   obtain⟨sv,e1,e2,e3⟩:=J.fin
   obtain⟨sv2,pe2,f1,f2,f3⟩:=J.KJ n hn
   have Fb:fb bu n=bu:=Oe fun s hs=>by have:=J.sl s hs;simp at h;exact GR [s.e,n,b.length,F.length] ye dO qI rK 0x10203040 hb this h aQ
   have M0:c8 aX n=aX:=vh fun e he=>by have:=hle e he;simp at h;exact GR [e,n,b.length,F.length] ye dO qI 0x30024000 0x10203040 hb this h aQ
   rw[Fb,e1] at f1
   cases f1
   rw[M0,mv (by exact cw [cg.length,aX.length] bJ dO pS hL aQ),e3] at f2
   simp only[Z_,Prod.mk.injEq] at f2
   obtain⟨_,_,rfl⟩:=f2
   refine⟨sv,pend++[x],by rw[Fb];exact e1,?_,?_⟩
   ·have:(cg++[Rc.e x]).drop 1=cg.drop 1++[.e x]:=by
     obtain⟨Cf,rest,e⟩:=J.shape
     rw[e];rfl
    rw[this,lC,e3,e2];rfl
   ·rw[mK,a8 h,GB,bN,bN,<- f3]
    have:sv.e < (F++b).length:=by have:=J.sl sv (BD e1);simp;exact fw [sv.e,F.length,b.length] eI mn qI dO hb this aQ
    have e9:[(F++b).length].filter (sv.e < ·)=[(F++b).length]:=by simp only[List.filter_cons,List.filter_nil,c9 this,if_true]
    rw[e9];rfl
  ·rw[bb h]
   obtain⟨sv2,pe2,f1,f2,f3⟩:=J.KJ n hn
   refine⟨sv2,pe2,f1,f2,?_⟩
   rw[mK,bb h,fT];exact f3
 ·have:=J.sf;simp;exact fw [synced,F.length,b.length] eI oI qI dO hb this aQ
 ·intro sv h;have:=J.sl sv h;simp;exact fw [sv.e,F.length,b.length] eI oI qI dO hb this aQ
 ·obtain⟨sv,e1,e2,e3⟩:=J.fin
  refine⟨sv,e1,e2,?_⟩
  have:(cg++[Rc.e x]).drop 1=cg.drop 1++[.e x]:=by
   obtain⟨Cf,rest,e⟩:=J.shape
   rw[e];rfl
  rw[this,lC,e3];rfl
theorem Jn.KD (hB:8<=P.B) (J:Jn P cg F aX bu synced gJ pend){d:Hd}{b:ah aA}{now:ah Nat} (hx:d.Ok) (hf:Frs P.B F.length ao d.bs b) (hs:fg P.az (ents (P.az+1) gJ) pend=aa (ents (P.az+1) now)):
  Jn P (cg++[.h d]) (F++b) (aX++[(F++b).length]) (bu++[⟨(F++b).length,now,d⟩]) synced now []:=by
 have hb:=(hf.len hB).2.1
 have hL:=J.AB
 have hle:=(J.jr.le).1
 have hdr:(cg++[Rc.h d]).drop 1=cg.drop 1++[.h d]:=by
  obtain⟨Cf,rest,e⟩:=J.shape
  rw[e];rfl
 have H_:runs P.az U8 ((cg++[Rc.h d]).drop 1)=aa (ents (P.az+1) now,d,[]):=by
  obtain⟨sv,e1,e2,e3⟩:=J.fin
  rw[hdr,lC,e3]
  simp only[pk,runs,yG,hs,Gp]
 refine⟨?_,?_,?_,?_,?_,?_,?_,?_,?_,?_⟩
 ·have:=J.jr.snoc (r:=d.bs) (b:=b) (by rw[jF];exact hf)
  rw[jF] at this
  rw[f6];exact this
 ·obtain⟨Cf,rest,e⟩:=J.shape
  exact⟨Cf,rest++[.h d],by rw[e];rfl⟩
 ·intro r hr
  rcases iS.mp hr with hr |hr
  ·exact J.ok r hr
  ·simp at hr;subst hr;exact hx
 ·intro n hn
  rw[mK]
  have:=J.two n hn
  simp;exact cw [(c8 aX n).length,(if F.length+b.length<=n then[F.length+b.length] else[]).length] bJ 0x10004220 544 this aQ
 ·intro n hn
  rw[mK,JK]
  by_cases h:(F++b).length<=n
  ·rw[a8 h,a8 h]
   have M0:c8 aX n=aX:=vh fun e he=>by have:=hle e he;simp at h;exact GR [e,n,b.length,F.length] ye dO qI 0x30024000 0x10203040 hb this h aQ
   refine⟨⟨(F++b).length,now,d⟩,[],by simp,?_,?_⟩
   ·rw[M0,mv (by simp;exact cw [cg.length,aX.length] bJ dO pS hL aQ)];exact H_
   ·rw[M0]
    symm
    rw[xC,qO,Je]
    intro e he
    rcases iS.mp he with he |he
    ·have:=hle e he;simp;exact fw [e,F.length,b.length] eI oI qI 0x10024000 hb this aQ
    ·simp at he ⊢;exact cw [e,F.length,b.length] bJ oI 0x20104002 he aQ
  ·rw[bb h,bb h,fT,fT]
   obtain⟨sv2,pe2,f1,f2,f3⟩:=J.KJ n hn
   refine⟨sv2,pe2,f1,?_,f3⟩
   rw[Tc]
   ·exact f2
   ·have:(c8 aX n).length<=aX.length:=t8 _ _
    exact fw [(c8 aX n).length,cg.length,aX.length] 0x11019011030 dO 0x20102 pO hL this aQ
 ·have:=J.sf;simp;exact fw [synced,F.length,b.length] eI oI qI dO hb this aQ
 ·intro sv h
  rcases iS.mp h with h |h
  ·have:=J.sl sv h;simp;exact fw [sv.e,F.length,b.length] eI oI qI dO hb this aQ
  ·have h:=eT.mp h;subst h;exact bD _
 ·obtain⟨sv,h1,h2⟩:=J.se
  exact⟨sv,NF _ h1,h2⟩
 ·rw[NG]
  refine⟨J.so,by simp,?_⟩
  intro s hs t ht
  simp at ht;subst ht
  have:=J.sl s hs;simp;exact fw [s.e,F.length,b.length] eI mn qI dO hb this aQ
 ·exact⟨⟨(F++b).length,now,d⟩,by simp,rfl,H_⟩
theorem Jn.sync (J:Jn P cg F aX bu synced gJ pend){s2:Nat} (h1:synced<=s2) (h2:s2<=F.length) (h3:∃ sv∈bu,sv.e=s2):Jn P cg F aX bu s2 gJ pend:=
 ⟨J.jr,J.shape,J.ok,fun n hn=>J.two n (fw [synced,n,s2] eI dO pO lJ h1 hn aQ),fun n hn=>J.KJ n (fw [synced,n,s2] eI dO pO lJ h1 hn aQ),h2,J.sl,h3,J.so,J.fin⟩
theorem Jn.cut (hB:8<=P.B) (J:Jn P cg F aX bu synced gJ pend){a:Nat}{sv:Sv} (h1:synced<=a) (h2:a<=F.length) (u2:(fb bu a).getLast?=aa sv) (hg:(c8 aX a).getLast?.getD 0=a) (hp:((c8 aX a).filter (sv.e < ·))=[]):
  Jn P (cg.take (c8 aX a).length) (F.take a) (c8 aX a) (fb bu a) a sv.rows []/\sv.e=a:=by
 have Jq:(F.take a).length=a:=by simp;exact gg [] 0x10001102 [a,F.length] Nj 514 dO h2 aQ
 have htw:=J.two a h1
 have hsa:sv.e=a:=by
  have hm:sv∈fb bu a:=BD u2
  have hle:sv.e<=a:=by have:=(nT.mp hm).2;simpa using this
  have Dx:c8 aX a≠[]:=by intro q;rw[q] at htw;simp at htw
  obtain⟨g,hgl⟩:∃ g,(c8 aX a).getLast?=aa g:=⟨_,Wv Dx⟩
  rw[hgl] at hg
  have hg:g=a:=hg
  subst hg
  have:¬ (sv.e < g):=by
   intro q
   have:g∈(c8 aX g).filter (sv.e < ·):=nT.mpr ⟨BD hgl,by simpa using q⟩
   rw[hp] at this;cases this
  exact fw [sv.e,g] 0x11000110050011011000050001021 pS dO 0x100016 hle this aQ
 have hjr:=J.jr.cut hB a
 obtain⟨hj1,hj2,hj3⟩:=hjr
 have hg':(aX.filter (· <=a)).getLast?.getD 0=a:=hg
 rw[hg',Nat.sub_zero,<- sF] at hj1
 have Xu:∀ n,a<=n->c8 (c8 aX a) n=c8 aX a:=fun n hn=>by rw[N9,dK hn]
 have hm3:∀ n,a<=n->fb (fb bu a) n=fb bu a:=fun n hn=>by rw[G_,dK hn]
 obtain⟨sv2,pe2,f1,f2,f3⟩:=J.KJ a h1
 rw[u2] at f1
 cases f1
 rw[hp,xC,qO] at f3
 subst f3
 have H_:runs P.az U8 ((cg.take (c8 aX a).length).drop 1)=aa (ents (P.az+1) sv.rows,sv.hd,[]):=f2
 refine⟨⟨hj1,?_,?_,?_,?_,by exact cw [a,(List.take a F).length] 0x19011020 dO 258 Jq aQ,?_,?_,?_,?_⟩,hsa⟩
 ·obtain⟨Cf,rest,e⟩:=J.shape
  refine⟨Cf,rest.take ((c8 aX a).length-2),?_⟩
  rw[e]
  obtain⟨k,hk⟩:∃ k,(c8 aX a).length=k+2:=⟨(c8 aX a).length-2,by exact gg [] 0x22000101 [(c8 aX a).length] RZ 0x22104002 544 htw aQ⟩
  rw[hk];simp
 ·intro r hr;exact J.ok r (yt hr)
 ·intro n hn;rw[Xu n hn];exact htw
 ·intro n hn
  refine⟨sv,[],by rw[hm3 n hn];exact u2,?_,?_⟩
  ·rw[Xu n hn,mv (by simp;exact lT [] 0x10001102 [(c8 aX a).length,cg.length] 0x11011011030011001103002 512 aQ)];exact H_
  ·rw[Xu n hn,hp];rfl
 ·intro s hs
  have:=(nT.mp hs).2
  simp at this;rw[Jq];exact this
 ·exact⟨sv,BD u2,hsa⟩
 ·exact J.so.sublist Ui
 ·exact⟨sv,u2,rfl,H_⟩
end
theorem oR (b:Nat):∀ (us gJ:ah Nat) (k:Nat),k<=gJ.length->fg b (ents (b+1) gJ) (ents (b+1+k) us)=aa (ents (b+1) (if us=[] then gJ else gJ.take k++us))
 |[],gJ,k,h=>rfl
 |u::us,gJ,k,h=>by
  have e1:gQ b (ents (b+1) gJ) (kF u (b+1+k))=aa (ents (b+1) (gJ.take k++[u])):=by
   unfold gQ
   rw[a8 ⟨by show b+1<=b+1+k;exact lE [b,k] hJ 0x10120044120040 aQ,by show b+1+k<=_;rw[fi];exact cw [b,k,gJ.length] bJ 0x20120044101200440 0x20100 h aQ⟩]
   rw[show(kF u (b+1+k)).i-b-1=k by show b+1+k-b-1=k;exact lT [] 0x1220000101200440202 [b,k] 0x1100030011011000050019001900110060120201100030011011001100500110011001100601202001 0x10402 aQ,mR,rG,eX,dK h]
   rfl
  have hl:(gJ.take k++[u]).length=k+1:=by simp;exact gg [] 0x10001102 [k,gJ.length] Nj 514 dO h aQ
  simp only[ents,fg,e1,pk]
  have:=oR b us (gJ.take k++[u]) (k+1) (cw [k,(List.take k gJ++[u]).length] 0x19011020 0x10120040 0x12004102 hl aQ)
  rw[show b+1+k+1=b+1+(k+1) by exact lE [b,k] rN 0x12104120044121012004442 aQ,this]
  congr 2
  by_cases hu:us=[]
  ·subst hu;simp
  ·rw[bb hu,bb (by simp),mv (by exact cw [(List.take k gJ++[u]).length,k] bJ pR 0x12104002 hl aQ)];simp
theorem Qn (b:Nat):∀ (xs:ah En) (es:ah En) (hd:Hd) (pe:ah En),runs b (es,hd,pe) (xs.map Rc.e)=aa (es,hd,pe++xs)
 |[],es,hd,pe=>by simp [runs]
 |x::xs,es,hd,pe=>by
  simp only[gu,runs,yG,pk]
  rw[Qn b xs es hd (pe++[x])];simp
noncomputable def lY (P:iJ) (rows:ah Nat) (hd:Hd):ah Rc:=.f::.h hd::(if rows=[] then[] else(ents (P.az+1) rows).map Rc.e++[.h hd])
theorem Jn.start {P:iJ}{F:ah aA}{aX:ah Nat}{rows:ah Nat}{hd:Hd} (hB:8<=P.B) (hj:Jr P.B 0 ((lY P rows hd).map P.bs) F aX) (hh:hd.Ok) (ho:∀ x∈ents (P.az+1) rows,x.Ok):Jn P (lY P rows hd) F aX [⟨F.length,rows,hd⟩] F.length rows []:=by
 have hle:=hj.le
 have hlen:=hj.AB
 rw[cF] at hlen
 have H_:runs P.az U8 ((lY P rows hd).drop 1)=aa (ents (P.az+1) rows,hd,[]):=by
  unfold lY U8
  by_cases hr:rows=[]
  ·subst hr;rfl
  ·rw[bb hr]
   show(yG P.az ([],⟨0,0,0⟩,[]) (.h hd)).bind (fun s1=>runs P.az s1 _)=_
   simp only[yG,fg,Gp,pk]
   rw[lC,Qn]
   have:=oR P.az rows [] 0 (by simp)
   rw[bb hr] at this
   simp only[pk,runs,yG,L5]
   rw[show fg P.az [] (ents (P.az+1) rows)=aa (ents (P.az+1) rows) from this]
   rfl
 have Fb:∀ n,F.length<=n->c8 aX n=aX:=fun n hn=>vh fun e he=>by have:=hle.1 e he;exact fw [e,n,F.length] eI dO lJ 0x20024000 hn this aQ
 have h2:2<=(lY P rows hd).length:=by unfold lY;simp
 refine⟨hj,⟨hd,_,rfl⟩,?_,?_,?_,bD _,?_,⟨_,.head _,rfl⟩,by simp,⟨_,rfl,rfl,H_⟩⟩
 ·intro r hr
  unfold lY at hr
  rcases dT.mp hr with rfl |hr
  ·trivial
  rcases dT.mp hr with rfl |hr
  ·exact hh
  split at hr
  ·cases hr
  ·rcases iS.mp hr with hr |hr
   ·obtain⟨x,hx,rfl⟩:=l9.mp hr
    exact ho x hx
   ·simp at hr;subst hr;exact hh
 ·intro n hn;rw[Fb n hn];exact fw [aX.length,(lY P rows hd).length] eI 544 258 0x10220 hlen h2 aQ
 ·intro n hn
  refine⟨⟨F.length,rows,hd⟩,[],by unfold fb;simp [hn],?_,?_⟩
  ·rw[Fb n hn,mv (by exact cw [(lY P rows hd).length,aX.length] bJ dO pS hlen aQ)];exact H_
  ·rw[Fb n hn]
   symm
   rw[xC,qO,Je]
   intro e he
   have:=hle.1 e he;simp;exact cw [e,F.length] bJ dO 0x10024000 this aQ
 ·intro sv h;simp at h;subst h;exact bD _
structure Agree (bh rows:ah Nat) (b8:Nat):Prop where
 m:∀ (k t:Nat),rows[k]? =aa t->bh[k]? =aa t->rows.take (k+1)=bh.take (k+1)
 c:∀ k:Nat,rows[k]? =aa b8->bh[k]? =aa b8
 b:∀ t∈rows,t<=b8
structure tG (az sure:Nat) (bh rows:ah Nat) (b8 eM:Nat):Prop where
 a:Agree bh rows b8
 c1:az<=eM
 c2:eM<=sure
 c3:eM<=az+rows.length
 p:rows.take (eM-az)=bh.take (eM-az)
theorem Ej {α:Type}{xs ys:ah α}{k n:Nat} (h:xs.take n=ys.take n) (hk:k<=n):xs.take k=ys.take k:=by
 have:=aW (List.take k) h
 rw[qx,qx,dK hk] at this;exact this
theorem xY {α:Type}{xs ys:ah α}{n:Nat} (h:∀ j,j < n->xs[j]? =ys[j]?):xs.take n=ys.take n:=by
 apply TX
 intro j
 by_cases hj:j < n
 ·rw[pY hj,pY hj];exact h j hj
 ·rw[BF (by simp;exact gg [] 0x10001103 [n,xs.length,j] Ni tQ 0x2016 hj aQ),BF (by simp;exact gg [] 0x10001103 [n,ys.length,j] Ni tQ 0x2016 hj aQ)]
theorem rE {α:Type}{xs ys:ah α}{n j:Nat} (h:xs.take n=ys.take n) (hj:j < n):xs[j]? =ys[j]? :=by
 rw[<- pY hj,h,pY hj]
section
variable {az sure b8 eM:Nat}{bh rows:ah Nat}
theorem tG.grow (S:tG az sure bh rows b8 eM) (hs:sure<=az+bh.length) (n:Nat){G9:Nat} (h2:sure<=G9):tG az G9 (bh++List.replicate n b8) rows b8 eM:=by
 have hl:∀ k:Nat,k<=bh.length->(bh++List.replicate n b8).take k=bh.take k:=fun k hk=>Tc hk
 refine⟨⟨fun k t h1 h3=>?_,fun k h1=>?_,S.a.b⟩,S.c1,aK S.c2 h2,S.c3,?_⟩
 ·by_cases hk:k < bh.length
  ·rw[Jg hk] at h3
   rw[hl _ (by exact cw [k,bh.length] bJ 0x10120040 rI hk aQ)];exact S.a.m k t h1 h3
  ·rw[Z7 (by exact cw [bh.length,k] oZ dO 0x1016 hk aQ)] at h3
   have:t=b8:=by
    have:=BE h3
    exact(BZ.mp this).2
   subst this
   have:=lX (S.a.c k h1)
   exact(fw [k,bh.length] 0x1101100040011 11 0x100016 rI hk this aQ:False).elim
 ·have:=S.a.c k h1
  rw[Jg (lX this)];exact this
 ·rw[hl _ (by have:=S.c2;exact nt [] 0x10000104 [eM,az,bh.length,sure] 0x11000011050019001101101105002 0x20400 0x20104300 rK hs this aQ)];exact S.p
theorem tG.turn (S:tG az sure bh rows b8 eM){c n vl G9:Nat} (h1:sure<=az+c) (hc:c<=bh.length) (ht:b8 < vl) (h2:sure<=G9):tG az G9 (bh.take c++List.replicate n vl) rows vl eM:=by
 have lP:(bh.take c).length=c:=by simp;exact gg [] 0x10001102 [c,bh.length] Nj 514 dO hc aQ
 have hl:∀ k:Nat,k<=c->(bh.take c++List.replicate n vl).take k=bh.take k:=fun k hk=>by
  rw[Tc (by exact fw [k,(List.take c bh).length,c] 0x11019011030 dO 0x20102 pO lP hk aQ),qx,dK hk]
 refine⟨⟨fun k t h3 h4=>?_,fun k h3=>?_,fun t h=>by have:=S.a.b t h;exact fw [t,vl,b8] eI dO 0x10201 pO ht this aQ⟩,S.c1,aK S.c2 h2,S.c3,?_⟩
 ·by_cases hk:k < c
  ·rw[Jg (by exact fw [k,(List.take c bh).length,c] 0x11019011030 rI 0x20102 0x20001 lP hk aQ),pY hk] at h4
   rw[hl _ (by exact cw [k,c] bJ 0x10120040 rI hk aQ)];exact S.a.m k t h3 h4
  ·rw[Z7 (by exact fw [(List.take c bh).length,k,c] 0x110011011040021 dO 0x20002 0x201016 lP hk aQ)] at h4
   have:t=vl:=(BZ.mp (BE h4)).2
   have:=S.a.b t (BE h3)
   exact(GR [b8,vl,t] 0x110190110040 11 rI 0x10202 512 ht (by assumption) this aQ:False).elim
 ·have:=S.a.b vl (BE h3)
  exact(fw [b8,vl] AY 11 rI 256 ht this aQ:False).elim
 ·rw[hl _ (by have:=S.c2;exact nt [] 0x10000104 [eM,az,c,sure] 0x11000011050019001101101105002 0x20400 0x20104300 rK h1 this aQ)];exact S.p
noncomputable def Cp (now:ah Nat) (k0:Nat) (ts:ah Nat):ah Nat:=match fc now k0 ts with
 |none=>now
 |some k=>now.take k++ts.drop (k-k0)
theorem Qf {k0 c j:Nat} (h1:k0<=j) (h2:j < k0+(cut bh k0 (k0+c)).length):(cut bh k0 (k0+c))[j-k0]? =bh[j]? :=by
 rw[tg] at h2
 unfold cut
 rw[pY (by exact nt [] 0x80601103001020104010000404 [j,k0,c,bh.length] 0x1100110040011011019001100110700110019001100110703202 0x60401 256 0xa0104001 h1 h2 aQ),B0]
 congr 1;exact gg [] 0x100102 [k0,j] 0x1100110040019001100050020110110004001100110005002001 0x10200042 dO h1 aQ
theorem tG.append (S:tG az sure bh rows b8 eM) (hs:sure<=az+bh.length){k0 c:Nat} (hk:k0<=bh.length) (hl:∀ t∈bh,t<=b8) (hm:k0=0∨∃ t,rows[k0-1]? =aa t/\bh[k0-1]? =aa t):
  (∀ k,fc rows k0 (cut bh k0 (k0+c))=aa k->eM<=az+k/\k<=rows.length)/\tG az sure bh (Cp rows k0 (cut bh k0 (k0+c))) b8 (max eM (min sure (az+k0+(cut bh k0 (k0+c)).length))):=by
 have E9:rows.take k0=bh.take k0:=by
  rcases hm with rfl |⟨t,h1,h2⟩
  ·simp
  ·by_cases h0:k0=0
   ·subst h0;simp
   ·have:=S.a.m _ _ h1 h2
    rw[show k0-1+1=k0 by exact gg [] 0x12000101 [k0] 0x110011000060011000000600210110190000060011011000006000102011 0x121042 0x20026 h0 aQ] at this;exact this
 have lP:=tg bh k0 (k0+c)
 have w7:∀ j,k0<=j->j < k0+(cut bh k0 (k0+c)).length->(cut bh k0 (k0+c))[j-k0]? =bh[j]? :=fun j h1 h2=>Qf h1 h2
 have hnn:k0+(cut bh k0 (k0+c)).length<=bh.length:=by exact nt [] 0x604010020000300040304 [k0,(cut bh k0 (k0+c)).length,bh.length,c] 0x1100110040011001900110011070011011019001100110702212 yg pO 0x80102 hk lP aQ
 generalize hts:cut bh k0 (k0+c)=ts at lP w7 hnn ⊢
 have c1:=S.c1
 have c2:=S.c2
 have c3:=S.c3
 cases hf:fc rows k0 ts with
 |none=>
  refine⟨nofun,?_⟩
  have hn:=Fh hf
  have Fb:rows.take (k0+ts.length)=bh.take (k0+ts.length):=xY fun j hj=>by
   by_cases h:j < k0
   ·exact rE E9 h
   ·rw[hn j (by exact cw [k0,j] oZ dO 0x1016 h aQ) hj];exact w7 j (cw [k0,j] oZ dO 0x1016 h aQ) hj
  have hlen:k0+ts.length<=rows.length:=by
   have:=aW List.length Fb
   simp at this;exact nt [] 0x3010004120100041204 [k0,ts.length,rows.length,bh.length] 0x1900110019011011070019001100190011070120110001104002 yg 0x30100040 0x60402 hnn this aQ
  unfold Cp;rw[hf]
  refine⟨S.a,by exact gg [] 0x5010240300044201205 [az,eM,sure,k0,ts.length] 0x19001101104001901101101104012 0x70000 dO c1 aQ,by exact gg [] 0x5000240302044101205 [eM,sure,az,k0,ts.length] 0x1100001101106001100110110011060120110000110110600110011000110601202 0x10700 dO c2 aQ,by show _<=az+rows.length;exact nt [] 0x6000240302044101206 [eM,sure,az,k0,ts.length,rows.length] 0x110000011011070011001100110011070120110000011011070011001101101100110701202 0x50204800 0x50204000 0x50403040 c3 hlen aQ,?_⟩
  show rows.take _=_
  by_cases h:eM<=min sure (az+k0+ts.length)
  ·rw[BV h]
   exact Ej Fb (lT [] 0x1040030201044001204 [sure,az,k0,ts.length] 0x1101900040019001100110501201100001105001900110110110501202 0x30204600 aQ)
  ·rw[xD (by exact gg [] 0x30201044001105 [sure,az,k0,ts.length,eM] oZ 0x40500 0x504006 h aQ)];exact S.p
 |some k=>
  obtain⟨f1,f2,f3,f4⟩:=tc hf
  have hpk:rows.take k=bh.take k:=xY fun j hj=>by
   by_cases h:j < k0
   ·exact rE E9 h
   ·rw[f4 j (by exact cw [k0,j] oZ dO 0x1016 h aQ) hj];exact w7 j (cw [k0,j] oZ dO 0x1016 h aQ) (fw [j,k0,ts.length,k] eI mn 0x20104301 0x30001 f2 hj aQ)
  have hck:eM<=az+k:=by
   refine iC fun h=>?_
   have:=rE S.p (show k < eM-az by exact gg [] 0x20100103 [k,eM,az] 0x110110030011001101104002 0x30001 0x10002041 h aQ)
   rw[w7 k f1 f2] at f3
   exact f3 this
  have hkr:k<=rows.length:=by
   have:=aW List.length hpk
   simp at this;exact EU [] 0x4000110001205 [k,rows.length,k0,ts.length,bh.length] 0x11000011011007001900110019000110801201100001105002 dO 0x40302040 0x30204001 0x70502 hnn f2 this aQ
  refine⟨fun k2 h2=>(eS h2)▸⟨hck,hkr⟩,?_⟩
  have aei:Cp rows k0 ts=bh.take (k0+ts.length):=by
   unfold Cp;rw[hf]
   show rows.take k++ts.drop (k-k0)=_
   rw[hpk]
   apply TX
   intro j
   by_cases h1:j < k
   ·rw[Jg (by simp;exact nl4 [] 0xa0801302003050304020101406 [j,k,bh.length,k0,ts.length,c] 0x1100000011008001100190019001101101100110b00110110190019001101101100110b03222019001100001107002 0x60001 tQ 0xc0402 0x40304101 rI hk lP f2 h1 aQ),pY h1,pY (by exact fw [j,k0,ts.length,k] eI mn 0x20104301 0x30001 f2 h1 aQ)]
   ·rw[Z7 (by simp;exact gg [] 0x10001103 [k,bh.length,j] Ni tQ 0x2016 h1 aQ),eX,dK (by exact fw [k,bh.length,k0,ts.length] eI dO 0x10302040 0x30204001 hnn f2 aQ),B0]
    by_cases h2:j < k0+ts.length
    ·rw[pY h2,show k-k0+(j-k)=j-k0 by exact nt [] 0x102000020010000303 [k,k0,j] 0x1100001100600110000110000800110190019001100000a001100190019001100000b022120201100001100600110000110000800110000001100000b001900110011001100000b0221202001021 0x70503042 256 0x2016 f1 h1 aQ];exact w7 j (fw [k0,j,k] 0x110011011040021 dO pO 0x201016 f1 h1 aQ) h2
    ·rw[BF (by exact nt [] 0x1030020100204 [ts.length,k,k0,j] 0x11001101100011070011000110110001108012011000110011007001100110011000110801202021 0x60404000 0x204101 0x2043016 f2 h2 aQ),BF (by simp;exact gg [] 0x20100041104 [k0,ts.length,bh.length,j] Ni 0x30400 0x100043016 h2 aQ)]
  rw[aei]
  have hln:(bh.take (k0+ts.length)).length=k0+ts.length:=by simp;exact gg [] 0x20100041103 [k0,ts.length,bh.length] Nj 0x10004302 yg hnn aQ
  refine⟨⟨fun j t h1 h2=>?_,fun j h1=>?_,fun t h=>hl t (yt h)⟩,by exact gg [] 0x5010240300044201205 [az,eM,sure,k0,ts.length] 0x19001101104001901101101104012 0x70000 dO c1 aQ,by exact gg [] 0x5000240302044101205 [eM,sure,az,k0,ts.length] 0x1100001101106001100110110011060120110000110110600110011000110601202 0x10700 dO c2 aQ,by exact EU [] 0x7000240302044101207 [eM,sure,az,k0,ts.length,(List.take (k0+ts.length) bh).length,k] 0x110000190110110110800110011001900011080120110000190110110110800110011011019000110801202 0x50204900 0x40304601 0x60204000 0x40304502 f2 hck hln aQ,?_⟩
  ·have:=lX h1
   rw[qx,dK (by exact fw [j,k0,ts.length,(List.take (k0+ts.length) bh).length] eI 0x20104120040 0x20104302 0x30001 hln this aQ)]
  ·have:=lX h1
   rw[pY (by exact fw [j,k0,ts.length,(List.take (k0+ts.length) bh).length] eI mn 0x20104302 0x30001 hln this aQ)] at h1;exact h1
  ·rw[qx,dK (by exact nt [] 0x208006000240302044101306 [eM,sure,az,k0,ts.length,k] 0x11019001101100600110000000110110900190011001100001109022120110000000110110900190011000011011011090220110000000110110900190011001101100011090221202 0x40304a00 0x40304501 0x50204000 f2 hck aQ)]
end
noncomputable def dk (i:Nat) (ts:ah Nat):ah V:=(ents i ts).map En.row
theorem dH (i:Nat) (ts:ah Nat):(dk i ts).length=ts.length:=(cF ..).trans (fi i ts)
theorem pC {i:Nat}{ts:ah Nat}{k t:Nat} (h:ts[k]? =aa t):(dk i ts)[k]? =aa (kF t (i+k)).row:=by
 unfold dk;rw[BX,rF,h];rfl
theorem z_ (i:Nat) (ts us:ah Nat):dk i (ts++us)=dk i ts++dk (i+ts.length) us:=by unfold dk;rw[rG,f6]
theorem Im (i:Nat) (ts:ah Nat) (p q:Nat):cut (dk i ts) p q=dk (i+p) (cut ts p q):=by
 unfold cut dk
 rw[<- Gj,<- sF,pK,mR]
theorem Dg (i:Nat) (ts:ah Nat) (p:Nat):(dk i ts).take p=dk i (ts.take p):=by
 unfold dk;rw[<- sF,mR]
theorem DB (i:Nat) (ts:ah Nat) (p:Nat):(dk i ts).drop p=dk (i+p) (ts.drop p):=by
 unfold dk;rw[<- Gj,pK]
theorem kH {n:Nat}{xs ys:ah V}{r:aB aj} (h:xs.length=ys.length) (k:oS (tM n) xs ys=r):tM (n+1) (.tup xs) (.tup ys)=r:=(a8 h).trans k
theorem JY {n:Nat}{xs ys:ah V}{r:aB aj} (h:xs.length=ys.length) (k:oS (tM n) xs ys=r):tM (n+1) (.bE xs) (.bE ys)=r:=(a8 h).trans k
theorem ib {f:V->V->aB aj}{x y:V}{xs ys:ah V}{a b:aj} (h:f x y=aa a) (k:oS f xs ys=aa b):oS f (x::xs) (y::ys)=aa (a&&b):=by
 show((f x y).bind fun a=>(oS f xs ys).map (a&& ·))=_
 rw[h,k];rfl
theorem Qx (n:Nat) (t u i:Nat):tM (n+2) (kF t i).row (kF u i).row=aa (decide (t=u)):=by
 refine kH rfl ((ib (a:=decide ((t:Int)=u)) rfl (ib rfl (ib rfl (ib rfl rfl)))).trans ?_)
 by_cases h:t=u
 ·subst h;simp only[decide_true,Tn]
 ·rw[dW h,dW fun e=>h (LR.mp e),Bool.false_and]
theorem Hv (n:Nat):∀ (ts:ah Nat) (i:Nat),oS (tM (n+2)) (dk i ts) (dk i ts)=aa ag
 |[],i=>rfl
 |t::ts,i=>ib ((Qx n t t i).trans (aW aa (c9 rfl))) (Hv n ts (i+1))
theorem Ex (n:Nat) (i:Nat) (ts:ah Nat):tM (n+3) (.bE (dk i ts)) (.bE (dk i ts))=aa ag:=JY rfl (Hv n ts i)
theorem Vl {n:Nat}{xs ys:ah V} (h:¬ xs.length=ys.length):tM (n+1) (.bE xs) (.bE ys)=aa ao:=bb h
theorem rh (n:Nat) (xs:ah V):tM (n+1) (.bE xs) (.bE [])=aa (decide (xs=[])):=by
 cases xs with
 |nil=>rfl
 |cons x xs=>exact(Vl (show ¬ (x::xs).length=([]:ah V).length from nofun)).trans (aW aa (dW (show ¬ x::xs=[] from nofun)).symm)
theorem vx {i:Nat}{ts:ah Nat}:dk i ts=[]↔ts=[]:=by
 rw[<- qO,dH,qO]
theorem Ie (fs:ah (Nm×V)) (f g:Nm) (v:V):eG (cL fs f v) g=if f=g then aa v else eG fs g:=by
 induction fs with
 |nil=>rfl
 |cons a fs ih=>
  obtain⟨k,w⟩:=a
  show eG (if k=f then(k,v)::fs else(k,w)::cL fs f v) g=if f=g then aa v else if k=g then aa w else eG fs g
  by_cases h:k=f
  ·subst h;rw[a8 rfl]
   show(if k=g then aa v else eG fs g)=_
   by_cases h2:k=g
   ·rw[a8 h2,a8 h2]
   ·rw[bb h2,bb h2,bb h2]
  ·rw[bb h]
   show(if k=g then aa w else eG (cL fs f v) g)=_
   rw[ih]
   by_cases h2:k=g
   ·rw[a8 h2,a8 h2,bb (by rw[<- h2];exact fun q=>h q.symm)]
   ·rw[bb h2,bb h2]
theorem iq {fs:ah (Nm×V)}{f:Nm}{v:V}:eG (cL fs f v) f=aa v:=(Ie ..).trans (a8 rfl)
theorem aJ {fs:ah (Nm×V)}{f g:Nm}{v:V}{r:aB V} (h:decide (f=g)=ao) (k:eG fs g=r):eG (cL fs f v) g=r:=(Ie ..).trans ((bb (GC h)).trans k)
theorem eD (fs:ah (Nm×V)) (f:Nm) (v:V):(cL fs f v).length<=fs.length+1/\(∀ w,eG fs f=aa w->(cL fs f v).length=fs.length):=by
 induction fs with
 |nil=>exact⟨bD _,nofun⟩
 |cons a fs ih=>
  obtain⟨k,w⟩:=a
  show List.length (if k=f then(k,v)::fs else(k,w)::cL fs f v)<=_/\∀ u,(if k=f then aa w else eG fs f)=aa u->List.length (if k=f then(k,v)::fs else(k,w)::cL fs f v)=_
  by_cases h:k=f
  ·rw[a8 h];exact⟨Ge _,fun _ _=>rfl⟩
  ·rw[bb h,bb h];exact⟨eH ih.1,fun w hw=>aW (· +1) (ih.2 w hw)⟩
theorem vq {fs:ah (Nm×V)}{f:Nm}{v:V}{k:Nat} (h:fs.length < k):(cL fs f v).length < k+1:=cE (eD fs f v).1 (TJ h)
structure D9 (H:Hp) (wa:ax) (fs:ah (Nm×V)) (f e wr:ax) (B:Nat) (F:ah aA) (aX:ah Nat):Prop where
 at_:H wa=aa (.i_ fs)
 kw:eG fs .fy=aa (.ref wr)
 ke:eG fs .km=aa (.ref e)
 W:pq H wr f B F
 E:H e=aa (.bE (aX.map nv))
 fe:f≠e
section
variable {n:Nat}{H:Hp}{Q:PV}{X:PX}{wa f e wr:ax}{fs:ah (Nm×V)}{B:Nat}{F:ah aA}{aX:ah Nat}
theorem pq.keep {H':Hp}{S:ah ax} (W:pq H wr f B F) (k:gZ S H H') (h1:wr∉S) (h2:f∉S):pq H' wr f B F:=by
 obtain⟨a,ps,b,c⟩:=W
 exact⟨k _ _ h1 a,ps,k _ _ h2 b,c⟩
theorem D9.more {H':Hp} (J:D9 H wa fs f e wr B F aX) (l:H.le H'):D9 H' wa fs f e wr B F aX:=⟨l _ _ J.at_,J.kw,J.ke,J.W.more l,l _ _ J.E,J.fe⟩
theorem D9.aw (J:D9 H wa fs f e wr B F aX):wa≠wr:=aZ J.at_ J.W.at_ nofun
theorem D9.af (J:D9 H wa fs f e wr B F aX):wa≠f:=by
 obtain⟨ps,h,_⟩:=J.W.fl
 exact aZ J.at_ h nofun
theorem D9.ae (J:D9 H wa fs f e wr B F aX):wa≠e:=aZ J.at_ J.E nofun
theorem D9.ew (J:D9 H wa fs f e wr B F aX):e≠wr:=aZ J.E J.W.at_ nofun
theorem Kl {a b c:ax} (h:c≠a) (k:c≠b):c∉[a,b]:=fun q=>by
 rcases dT.mp q with r |r
 ·exact h r
 ·exact k (eT.mp r)
theorem gp {a c:ax} (h:c≠a):c∉[a]:=fun q=>h (eT.mp q)
theorem DM {r:ah aA} (J:D9 H wa fs f e wr B F aX) (hB:8<=B/\B<=100) (hr:r.length<=100) (hF:F.length<=900000) (he:aX.length<=100000)
  (q:∀ H' bs,Frs B F.length ao r bs->D9 H' wa fs f e wr B (F++bs) (aX++[(F++bs).length])->gZ [wr,f,e] H H'->Q .none H'):aM (n+5) .mC [.ref wa,.bytes r] H Q X:=by
 refine bA rfl (bo (bH (bp (ai rfl) J.at_ J.kw) J.W.at_ rfl (aq (ai rfl) aE) (ZP J.W hB hr hF fun H1 bs h1 h2 h3=>⟨rfl,?_⟩)))
 have k1:=h3 wa _ (Kl J.aw J.af) J.at_
 have k2:=h3 e _ (Kl J.ew J.fe.symm) J.E
 refine bo (oW (bp (ai rfl) k1 J.ke) k2 (aP (bp (ai rfl) k1 J.kw) h2.at_ rfl) (by rw[cF];exact cE he (by decide)) ⟨rfl,bG ?_⟩)
 refine q _ bs h1 ⟨bZ J.ae k1,J.kw,J.ke,h2.keep (dS (d7 _) (.head _)) (gp J.ew.symm) (gp J.fe),?_,J.fe⟩ (dS (fun c o hc h=>h3 c o (fun q=>hc ?_) h) (.tail _ (.tail _ (.head _))))
 ·rw[f6];exact aN
 ·exact NF [e] q
end
theorem Jr.aa_ {B:Nat}{rs:ah (ah aA)}{bs:ah aA}{es:ah Nat}{r b:ah aA} (h:Jr B 0 rs bs es) (hf:Frs B bs.length ao r b):Jr B 0 (rs++[r]) (bs++b) (es++[(bs++b).length]):=by
 have:=h.snoc (r:=r) (b:=b) (by rw[jF];exact hf)
 rw[jF] at this;exact this
theorem AG {S T:ah ax}{H H1 H2:Hp} (k:gZ S H H1) (j:gZ T H1 H2) (h:∀ c∈T,H c=au∨c∈S):gZ S H H2:=fun c o nc e=>j c o (fun q=>by
 rcases h c q with h |h
 ·rw[e] at h;contradiction
 ·exact nc h) (k c o nc e)
theorem Oz {S:ah ax}{H H1:Hp}{c:ax} (k:gZ S H H1) (nc:c∉S) (h:H1 c=au):H c=au:=by
 cases e:H c with
 |none=>rfl
 |some o=>rw[k c o nc e] at h;contradiction
theorem AQ {b t:Nat}{vs:ah Nat} (hb:b < 2 ^ 32) (ht:t < 2 ^ 32) (hv:mf vs):(fold b t vs).length<=100:=
 have l3:=ti hv
 have l4:(lp (Np vs)).length<=66:=du (c_ (cE l3 (by decide))) l3 (bD _)
 aK (du (x:=[4]) (bD 1) (du (c_ hb) (du (c_ ht) l4 (bD _)) (bD _)) (bD _)) (by decide)
theorem zE {h:Hd} (hh:h.Ok):h.bs.length<=16:=du (x:=[1]) (bD 1) (du (c_ hh.1) (du (c_ hh.2.1) (c_ hh.2.2) (bD _)) (bD _)) (bD _)
theorem zG {x:En} (hx:x.Ok):x.bs.length<=43:=eH (vN hx)
structure iJ.Ok (P:iJ):Prop where
 B1:8<=P.B
 B2:P.B<=100
 b1:2<=P.az
 b2:P.az<=50000
 t1:1<=P.bt
 t2:P.bt<=50000
 v:mf P.vs
 v2:P.vs≠[]
structure UE (P:iJ) (fs:ah (Nm×V)):Prop where
 B:eG fs .dB=aa (nv P.B)
 az:eG fs .cx=aa (nv P.az)
 bt:eG fs .bU=aa (nv P.bt)
 kO:eG fs .dq=aa (Nn P.vs)
theorem Frs.le {B L:Nat}{bg:aj}{d bs:ah aA} (hB:8<=B) (h:Frs B L bg d bs) (hd:d.length<=100):bs.length<=3000:=
 aK (h.len hB).1 (aK (SG (me 27 hd) 26) (by decide))
section
variable {C:CC}{L:b5}{H:Hp}{rz:aj}{r:Ss}{Q:PO}{X:fk}{e:E}{wa:ax}{fs:ah (Nm×V)}{f:Nm}
theorem Hk (z:∀ H,PE C L H e (.ref wa)) (h:H wa=aa (.i_ fs)) (hl:fs.length < 100) (k:∀ a K,H a=au->K a=aa (.bE [])->K wa=aa (.i_ (cL fs f (.ref a)))->cH wa H K->wSs C rz r L K Q X):wSs C rz (.cons (.c4 e f (.list ao .nil)) r) L H Q X:=
 mM (iH aE (bX _) fun a ha=>Dv (z _) (bZ (a_ h ha) h) hl (k a _ ha (bZ (a_ h ha).symm aN) aN (.set (.of_le (iB ha)))))
end
theorem ad0 {A B:Prop} (k:B):cond (!true) A B:=k
theorem ad1 {A B:Prop} (k:A):cond (!false) A B:=k
theorem VM {C:CC}{L:b5}{H:Hp}{Q:PV}{X:PX}{e:E}{xs:ah V} (p:PE C L H e (.bE xs)) (k:∀ z,H z=au->Q (.bool !decide (xs=[])) (H.set z (.bE []))):wE C (.cB e .ne (.list ao .nil)) L H Q X:=
 p _ _ (iH aE (bX _) fun z hz=>⟨decide (xs=[]),by rw[QX aN];exact rh 5 xs,k z hz⟩)
section
variable {n:Nat}{H:Hp}{Q:PV}{X:PX}{wa:ax}{fs:ah (Nm×V)}{P:iJ}
noncomputable def ZC (fs:ah (Nm×V)) (f e wr sv:ax) (s:Nat):ah (Nm×V):=cL (cL (cL (cL (cL fs .gC (.ref f)) .km (.ref e)) .fy (.ref wr)) .iF (nv s)) .iz (.ref sv)
theorem JF {rows:ah Nat}{hd:Hd}{L:b5}{f e wr:ax}{F:ah aA}{aX:ah Nat}{X:fk} (OM:fs.length<=50) (g1:L .xw=aa (.ref wa)) (g2:L .f7=aa (.bE (dk (P.az+1) rows))) (g3:L .cO=aa hd.row)
  (J8:D9 H wa (cL (cL (cL fs .gC (.ref f)) .km (.ref e)) .fy (.ref wr)) f e wr P.B F aX):
  wSs (aM n) ag nH L H (fun o L1 H1=>o=.next/\∃ sv,H sv=au/\D9 H1 wa (ZC fs f e wr sv F.length) f e wr P.B F aX/\H1 sv=aa (.bE [.tup [nv F.length,.bE (dk (P.az+1) rows),hd.row]])/\e≠sv/\f≠sv/\wa≠sv/\gZ [wa,sv] H H1) X:=by
 have m3:(cL (cL (cL fs .gC (.ref f)) .km (.ref e)) .fy (.ref wr)).length < 54:=vq (vq (vq (sI OM)))
 have m4:(cL (cL (cL (cL fs .gC (.ref f)) .km (.ref e)) .fy (.ref wr)) .iF (nv F.length)).length < 55:=vq m3
 obtain⟨ps,w2,_⟩:=J8.W.fl
 refine iM (aP (bp (ai g1) J8.at_ J8.kw) J8.W.at_ rfl) (ai g1) J8.at_ (ft m3 (by decide)) ?_
 refine mM (iH (aq (dw (aq (bp (ai g1) aN iq) (aq (ai g2) (aq (ai g3) aE))) (aT rfl)) aE) (aT rfl) fun sv u2=>?_)
 have hwv:=eZ u2 aN
 have VV:=lh (.set (.refl H)) hwv.symm u2
 refine Dv (ai g1) (bZ hwv aN) (ft m4 (by decide)) (bG ⟨rfl,sv,VV,?_⟩)
 have ks:gZ [wa,sv] H (((H.set wa (.i_ (cL (cL (cL (cL fs .gC (.ref f)) .km (.ref e)) .fy (.ref wr)) .iF (nv F.length)))).set sv (.bE [.tup [nv F.length,.bE (dk (P.az+1) rows),hd.row]])).set wa (.i_ (ZC fs f e wr sv F.length))):=dS (dS (dS (d7 _) (.head _)) (.tail _ (.head _))) (.head _)
 have hev:=eZ VV J8.E
 have hfv:=eZ VV w2
 exact⟨⟨aN,aJ rfl (aJ rfl iq),aJ rfl (aJ rfl (aJ rfl iq)),J8.W.keep ks (Kl J8.aw.symm (eZ VV J8.W.at_)) (Kl J8.af.symm hfv),ks e _ (Kl J8.ae.symm hev) J8.E,J8.fe⟩,bZ hwv.symm aN,hev,hfv,hwv,ks⟩
theorem Lh {r:Ss}{L:b5}{Qo:PO}{Xo:fk} (hP:P.Ok) (h:H wa=aa (.i_ fs)) (OM:fs.length<=50) (A:UE P fs) (l1:L .xw=aa (.ref wa)) (k:∀ K f e wr,D9 K wa (cL (cL (cL fs .gC (.ref f)) .km (.ref e)) .fy (.ref wr)) f e wr P.B [] []->gZ [wa] H K->H f=au->H e=au->H wr=au->wSs (aM (n+2)) ag r L K Qo Xo):
  wSs (aM (n+2)) ag (.cons (.c4 (.aC .xw) .gC (.list ao .nil)) (.cons (.c4 (.aC .xw) .km (.list ao .nil)) (.cons (.c4 (.aC .xw) .fy (.new ao .jP (.cons (.key (.aC .xw) .gC) (.cons (.key (.aC .xw) .dB) (.cons (.glob .iL) (.cons (.int 0) .nil)))))) r))) L H Qo Xo:=by
 have m1:(cL fs .gC (.ref wa)).length < 52:=vq (sI OM)
 refine Hk (fun _=>ai l1) h (cE OM (by decide)) fun f K1 hf f1 w1 k1=>?_
 refine Hk (fun _=>ai l1) w1 (ft (vq (sI OM)) (by decide)) fun e K2 he e2 w2 k2=>?_
 have hwf:=a_ h hf
 have he0:=lh k1 (eZ he w1).symm he
 have f2:=k2 f _ hwf.symm f1
 have hfe:=eZ he f1
 refine mM (lV (aq (bp (ai l1) w2 (aJ rfl iq)) (aq (bp (ai l1) w2 (aJ rfl (aJ rfl A.B))) (aq (bw rfl) (aq aH aE)))) rfl fun wr UP=>?_)
 have hww:=eZ UP w2
 have hfw:=eZ UP f2
 have hew:=eZ UP e2
 have k12:=k1.trans k2
 have abR:=lh k12 hww.symm UP
 refine IB (F:=[]) (B:=P.B) aN ⟨[],bZ hfw f2,rfl,bD _⟩ ⟨hP.B1,hP.B2⟩ fun W=>⟨rfl,?_⟩
 rw[Hp.set_set] at W ⊢
 refine Dv (ai l1) (bZ hww w2) (ft (vq (vq (sI OM))) (by decide)) (k _ f e wr ⟨aN,iq,aJ rfl iq,W.keep (dS (S:=[wa]) (d7 _) (.head _)) (gp hww.symm) (gp hwf.symm),bZ (eZ he w1).symm (bZ hew e2),hfe⟩ (dS (fun c o nc hc=>?_) (.head _)) hf he0 abR)
 exact bZ (a_ hc abR) (k12 c o (fun q=>nc (by rw[q];exact .head _)) hc)
structure Yz (P:iJ) (H H1:Hp) (wa:ax) (fs:ah (Nm×V)) (f e wr:ax) (cg:ah Rc) (F:ah aA) (aX:ah Nat):Prop where
 J:D9 H1 wa fs f e wr P.B F aX
 K:gZ [wa] H H1
 R:Jr P.B 0 (cg.map P.bs) F aX
 N:F.length<=3000*cg.length
 E:aX.length=cg.length
theorem Yz.up {H1 H2:Hp}{f e wr:ax}{cg:ah Rc}{F:ah aA}{aX:ah Nat} (S:Yz P H H1 wa fs f e wr cg F aX) (l:H1.le H2):Yz P H H2 wa fs f e wr cg F aX:=⟨S.J.more l,jD S.K (MW l),S.R,S.N,S.E⟩
theorem FH {H1:Hp}{f e wr:ax}{cg:ah Rc}{F:ah aA}{aX:ah Nat}{x:Rc} (hP:P.Ok) (hT:∀ c∈[wr,f,e],H c=au∨c∈[wa]) (S:Yz P H H1 wa fs f e wr cg F aX) (hx:(P.bs x).length<=100) (hn:cg.length<=200) (k:∀ H' F' acu,Yz P H H' wa fs f e wr (cg++[x]) F' acu->Q .none H'):aM (n+5) .mC [.ref wa,.bytes (P.bs x)] H1 Q X:=by
 refine DM S.J ⟨hP.B1,hP.B2⟩ hx (aK S.N (cw [cg.length] 0xbb82011020 0xdbba033000bb8250 0xc813000 hn aQ)) (by rw[S.E];exact cw [cg.length] bJ 0x186a033000 0xc813000 hn aQ) fun H' b fr J' k'=>k _ _ _ ⟨J',AG S.K k' hT,?_,?_,?_⟩
 ·rw[f6];exact S.R.aa_ fr
 ·rw[bN,bN,BG,uS];exact fS S.N (fr.le hP.B1 hx)
 ·rw[bN (as:=aX),bN (as:=cg),S.E];rfl
theorem ym {rows:ah Nat}{hd:Hd} (hP:P.Ok) (h:H wa=aa (.i_ fs)) (OM:fs.length<=50) (A:UE P fs) (hh:hd.Ok) (hr:∀ t∈rows,t < 2 ^ 32) (mD:rows.length<=100)
  (q:∀ H' f e wr sv F aX,D9 H' wa (ZC fs f e wr sv F.length) f e wr P.B F aX->H' sv=aa (.bE [.tup [nv F.length,.bE (dk (P.az+1) rows),hd.row]])->e≠sv->f≠sv->gZ [wa] H H'->H f=au->H e=au->H wr=au->H sv=au->
   Jr P.B 0 ((lY P rows hd).map P.bs) F aX->F.length<=3000*(lY P rows hd).length->Q .none H'):aM (n+8) .s_ [.ref wa,.bE (dk (P.az+1) rows),hd.row] H Q X:=by
 have AM:=hP.b2
 have XB:P.az < 2 ^ 32:=cE hP.b2 (by decide)
 have hbt:P.bt < 2 ^ 32:=cE hP.t2 (by decide)
 have hhl:(P.bs (.h hd)).length<=100:=aK (zE hh) (by decide)
 refine bA rfl (Lh (n:=n+5) hP h OM A rfl fun K f e wr J0 K0 hf he UP=>?_)
 have hT:∀ c∈[wr,f,e],H c=au∨c∈[wa]:=fun c hc=>by
  rcases dT.mp hc with rfl |hc
  ·exact .inl UP
  ·rcases dT.mp hc with rfl |hc
   ·exact .inl hf
   ·rw[eT.mp hc];exact .inl he
 have S0:Yz P H K wa _ f e wr [] [] []:=⟨J0,K0,⟨rfl,rfl⟩,bD _,rfl⟩
 have hx:∀ {L:b5}{H:Hp}{i:Int}{k:Nat}{u:V},L .cO=aa hd.row->[nv hd.t,nv hd.v,nv hd.c][k]? =aa u->i=k->PE (aM (n+7)) L H (.idx (.aC .cO) (.int i)) u:=fun h1 h2 h3=>sY (ai h1) (h3▸aH) h2 (aT rfl)
 refine bM (bQ (aq (oz (aq (hx (k:=0) rfl rfl rfl) (aq (hx (k:=1) rfl rfl rfl) (aq (hx (k:=2) rfl rfl rfl) aE)))) aE) (o6 (h:=hd) hh fun H4 l4=>?_))
 have S4:=S0.up l4
 refine bo (rB (q7 (ai rfl) (Ed (bQ (aq (bp (ai rfl) S4.J.at_ (aJ rfl (aJ rfl (aJ rfl A.az)))) (aq (bp (ai rfl) S4.J.at_ (aJ rfl (aJ rfl (aJ rfl A.bt)))) (aq (bp (ai rfl) S4.J.at_ (aJ rfl (aJ rfl (aJ rfl A.kO)))) aE))) (o7 XB hbt hP.v fun H5 l5=>?_)))))
 refine FH (x:=.f) hP hT (S4.up l5) (AQ XB hbt hP.v) (by decide) fun H6 F6 E6 S6=>⟨rfl,?_⟩
 refine bo (bQ (aq (ai rfl) (aq (ai rfl) aE)) (FH (x:=.h hd) hP hT S6 hhl (by decide) fun H7 F7 E7 S7=>⟨rfl,?_⟩))
 have fin:∀ (L:b5) H8 F aX,L .xw=aa (.ref wa)->L .f7=aa (.bE (dk (P.az+1) rows))->L .cO=aa hd.row->Yz P H H8 wa (cL (cL (cL fs .gC (.ref f)) .km (.ref e)) .fy (.ref wr)) f e wr (lY P rows hd) F aX->wSs (aM (n+7)) ag nH L H8 (Ck Q) (wU X):=by
  intro L H8 F aX g1 g2 g3 S8
  refine dG (dj _) _ ?_ (fun _ _ _ h=>h) (JF OM g1 g2 g3 S8.J)
  rintro o L1 H1 ⟨rfl,sv,u2,J9,s9,hev,hfv,hwv,ks⟩
  have hs:=Oz S8.K (gp hwv.symm) u2
  refine q _ f e wr sv F aX J9 s9 hev hfv (AG S8.K ks fun c hc=>?_) hf he UP hs S8.R S8.N
  rcases dT.mp hc with rfl |hc
  ·exact .inr (.head _)
  ·rw[eT.mp hc];exact .inl hs
 refine z8 (VM (ai rfl) fun z hz=>⟨!decide (dk (P.az+1) rows=[]),rfl,?_⟩)
 have S8:=S7.up (iB (o:=.bE []) hz)
 by_cases OL:rows=[]
 ·rw[c9 (vx.mpr OL)]
  exact ad0 (bG (bC (fin _ _ _ _ rfl rfl rfl (by unfold lY;rw[a8 OL];exact S8))))
 ·rw[dW (fun h=>OL (vx.mp h))]
  have Xy:(ents (P.az+1) rows).length<=100:=by rw[fi];exact mD
  have Ce:=zF hr (cE (fS (eH AM) mD) (by decide))
  refine ad1 (tK (eF (aq (ai rfl) aE) fun _ _ q=>o5 (es:=ents (P.az+1) rows) rfl (aK Xy (by decide)) q) rfl (qo En.v (ents (P.az+1) rows) (fun done L H1=>L .xw=aa (.ref wa)/\L .f7=aa (.bE (dk (P.az+1) rows))/\L .cO=aa hd.row/\L .u7=aa (.bytes hd.bs)/\∃ F E,Yz P H H1 wa (cL (cL (cL fs .gC (.ref f)) .km (.ref e)) .fy (.ref wr)) f e wr ([.f,.h hd]++done.map Rc.e) F E) ⟨rfl,rfl,rfl,rfl,_,_,S8⟩ (fun _ _ _ _=>rfl) ?_ ?_))
  ·rintro done w rest L H1 e1 ⟨g1,g2,g3,g4,F,E,S⟩
   have hx:=Ce w (by rw[e1];exact t9 _ (.head _))
   have hn:([Rc.f,Rc.h hd]++done.map Rc.e).length<=200:=by
    have:=aW List.length e1
    rw[bN] at this
    rw[bN,cF]
    exact aK (dX (aK (fu ..) (aK (gX this.symm) Xy)) _) (by show 2+100<=200;decide)
   refine bo (rB (q7 (ai g1) (Ed (bQ (aq (ai rfl) aE) (j8 hx fun H2 l2=>?_)))))
   refine FH (x:=.e w) hP hT (S.up l2) (aK (zG hx) (by decide)) hn fun H3 F3 E3 S3=>⟨rfl,bG ⟨g1,g2,g3,g4,F3,E3,?_⟩⟩
   rw[f6,<- dE];exact S3
  ·rintro L H1 ⟨g1,g2,g3,g4,F,E,S⟩
   have hn:([Rc.f,Rc.h hd]++(ents (P.az+1) rows).map Rc.e).length<=200:=by
    rw[bN,cF]
    exact aK (dX Xy _) (by show 2+100<=200;decide)
   refine bC (bo (bQ (aq (ai g1) (aq (ai g4) aE)) (FH (x:=.h hd) hP hT S hhl hn fun H3 F3 E3 S3=>⟨rfl,bG (bC (fin _ _ F3 E3 g1 g2 g3 ?_))⟩)))
   unfold lY;rw[bb OL];exact S3
end
section
variable {n:Nat}{H:Hp}{Q:PV}{X:PX}{wa:ax}{fs:ah (Nm×V)}{P:iJ}{σ:Lg}
noncomputable def Lg.Jl (P:iJ) (rows:ah Nat) (eM:Nat):Lg:=⟨P.az,P.bt,rows,rows,rows.length,eM,P.az⟩
theorem ZQ {un:ax}{v:V} (q:Q .none (H.set un (.inst .j' [(.cZ,.none),(.aS,.bE []),(.cJ,v)]))):aM (n+1) .oL [.ref un,v] (H.set un (.inst .j' [])) Q X:=by
 refine bA rfl (bj iO (ai rfl) (aT rfl) (by decide) (bj (cG aE (bX _)) (ai rfl) (aT rfl) (by decide) ?_))
 refine bj (ai rfl) (ai rfl) (aT rfl) (by decide) ?_
 exact q
theorem ZU {lg st:ax}{hv cv sv:V} (hs:H st=aa (m8 σ hv cv sv)) (hl:σ.gJ.length<=1000) (ha:H lg=au)
  (q:∀ un K,H un=au->K un=aa (.inst .j' [(.cZ,.none),(.aS,.bE []),(.cJ,nv (σ.az+σ.gJ.length+1))])->K lg=aa (.inst .wA [(.cV,.ref st),(.fC,.int 1048576),(.fN,.ref un),(.b6,nv σ.az),(.d_,nv σ.az)])->cH lg H K->Q .none K):aM (n+2) .p9 [.ref lg,.ref st,.int 1048576] (H.set lg (.inst .wA [])) Q X:=by
 have yM:=a_ hs ha
 refine bA rfl ?_
 refine cT (ai rfl) (ai rfl) aN (aT rfl) (by decide) ?_;refine bj (ai rfl) (ai rfl) (aT rfl) (by decide) ?_
 rw[Hp.set_set]
 have h1:=bZ (o:=.inst .wA (cL (cL [] .cV (.ref st)) .fC (.int 1048576))) yM hs
 refine aR (vo h1 (ai rfl)) (eP (lV (aq (dM (zl h1 hl (ai rfl))) aE) rfl fun un hun=>ZQ ⟨rfl,?_⟩))
 have hlu:=eZ hun aN
 have Kv:=lh (.set (.refl H)) hlu.symm hun
 refine yK (ai rfl) (bZ hlu aN) (aT rfl) (by decide) ?_
 refine bj (cX (c6 (j:=1) (ai rfl) aH (j_ ..)) (Mc ..)) (ai rfl) (aT rfl) (by decide) (bj (cX (c6 (j:=1) (ai rfl) aH (j_ ..)) (Mc ..)) (ai rfl) (aT rfl) (by decide) (bG ?_))
 exact q un _ Kv (bZ hlu.symm aN) aN (.set (.vr (.set (.refl _)) Kv))
theorem Xm {a b c d:ax}{H K:Hp} (k:gZ [b,c,d] H K):gZ [a,b,c,d] H K:=fun x o nx h=>k x o (fun q=>nx (.tail _ q)) h
theorem ad2 {a b c d x:ax} (h1:x≠a) (h2:x≠b) (h3:x≠c) (h4:x≠d):x∉[a,b,c,d]:=fun q=>by
 rcases dT.mp q with r |q
 ·exact h1 r
 ·rcases dT.mp q with r |q
  ·exact h2 r
  ·exact Kl h3 h4 q
theorem Ax {b c d x:ax} (h2:x≠b) (h3:x≠c) (h4:x≠d):x∉[b,c,d]:=fun q=>by
 rcases dT.mp q with r |q
 ·exact h2 r
 ·exact Kl h3 h4 q
theorem PN {L:b5}{st:ax}{rows:ah Nat}{hd:Hd}{cv sv:V}{X:fk} (hP:P.Ok) (h:H wa=aa (.i_ fs)) (OM:fs.length<=60) (hb:eG fs .cx=aa (nv P.az)) (g1:L .xw=aa (.ref wa)) (g2:L .cV=aa (.ref st)) (g3:L .cO=aa hd.o)
  (hr:∀ t∈rows,t < 2 ^ 32) (mD:rows.length<=400) (hc:hd.c<=P.az+rows.length) (hs:H st=aa (m8 (Lg.Jl P rows P.az) hd.o cv sv)):
  wSs (aM (n+3)) ag wc L H (fun o L1 H1=>o=.next/\∃ lg un,eC H1 lg st un (Lg.Jl P rows (max P.az hd.c))/\H1 wa=aa (.i_ (cL (cL fs .cV (.ref st)) .xlog (.ref lg)))/\H lg=au/\H un=au/\gZ [wa,lg,st,un] H H1) X:=by
 have yP:=sI OM
 have Ro:=aZ h hs nofun
 refine bM (lV (aq (ai g2) (aq (eW (j:=1048576) (Ag (k:=1) (q:=20) aH aH (by unfold small;decide) (by decide)) rfl) aE)) rfl fun lg hlg=>ZU (σ:=Lg.Jl P rows P.az) hs (aK mD (by decide)) hlg fun un K hun ku kl kb=>⟨rfl,?_⟩)
 have hwl:=a_ h hlg
 have Xp:=a_ h hun
 have yM:=a_ hs hlg
 have Rq:=a_ hs hun
 have hlu:=aZ kl ku nofun
 have ok:(Lg.Jl P rows P.az).Ok:=⟨bD _,bD _,rfl,fun _=>rfl,aK hP.b2 (by decide),mD,mD,hr,hr,cE hP.t2 (by decide),fu _ _,bD _,bD _⟩
 have eu:Ef (Lg.Jl P rows P.az)=.inst .j' [(.cZ,.none),(.aS,.bE []),(.cJ,nv ((Lg.Jl P rows P.az).az+(Lg.Jl P rows P.az).gJ.length+1))]:=by
  unfold Ef Lg.Jl
  dsimp only
  rw[TK,iD];rfl
 have A:eC K lg st un (Lg.Jl P rows P.az):=⟨kl,⟨hd.o,cv,sv,kb _ _ yM hs⟩,by rw[eu];exact ku,ok⟩
 have hw:=kb _ _ hwl h
 refine bo (bH (ai rfl) A.lg rfl (aq (bI (ai g3) rfl) aE) (xc A hc fun H3 A3 K3=>⟨rfl,?_⟩))
 have hw3:=K3 wa _ (Ax hwl Ro Xp) hw
 refine bo (bH (ai rfl) A3.lg rfl (aq (bp (ai g1) hw3 hb) aE) (Bb A3 (aK (by decide) hP.b1) (bD _) (TB ..) fun H4 A4 K4=>⟨rfl,?_⟩))
 have hw4:=K4 wa _ (Ax hwl Ro Xp) hw3
 refine iM (ai g2) (ai g1) hw4 (ft yP (by decide)) (f_ (ai rfl) (ai g1) (ft (vq yP) (by decide)) (bG ⟨rfl,lg,un,?_,aN,hlg,hun,?_⟩))
 ·obtain⟨a,b,c,uB⟩:=A4.st
  exact⟨bZ hwl.symm A4.lg,⟨a,b,c,bZ Ro.symm uB⟩,bZ Xp.symm A4.un,A4.ok⟩
 ·exact dS (jD (jD (fun c o nc e=>kb c o (fun q=>nc (by rw[q];exact .tail _ (.head _))) e) (Xm K3)) (Xm K4)) (.head _)
theorem Wb {st:ax}{vs:ah Nat} (hv:mf vs) (h0:vs≠[]) (q:Q .none (H.set st (.inst .iy [(.cO,.obj .fQ [(.bO,.int 1),(.om,.int 0),(.hZ,.int 1)]),(.dq,Nn vs),(.xQ,.obj .Snapshot [(.cp,.int 1),(.bO,.int 1),(.dq,Nn vs),(.bq,.bytes [])]),(.cD,.int 1),(.bU,.int 1),(.aS,.bE [])]))):aM (n+2) .kh [.ref st,Nn vs] (H.set st (.inst .iy [])) Q X:=by
 have hvl:(vs.map nv).length<=line:=by rw[cF];exact aK hv.2.1 (by decide)
 refine bA rfl (aR aH (c5 (fo (eY (bI (ai rfl) rfl) hvl) aH) (dC (by rw[cF];exact qB.mpr h0)) (aR aH (bG (bC ?_)))))
 refine bj (oz (aq (ai rfl) (aq aH (aq (ai rfl) aE)))) (ai rfl) (aT rfl) (by decide) ?_
 refine bj (ai rfl) (ai rfl) (aT rfl) (by decide) ?_
 refine bj (MF (aq (ai rfl) (aq (ai rfl) (aq (ai rfl) (aq gR aE))))) (ai rfl) (aT rfl) (by decide) ?_
 refine bj (ai rfl) (ai rfl) (aT rfl) (by decide) ?_;refine bj (ai rfl) (ai rfl) (aT rfl) (by decide) ?_
 exact bj (cG aE (bX _)) (ai rfl) (aT rfl) (by decide) q
theorem KW {st:ax}{i t:Nat}{hv c cv:V} (hi:1 < i) (hs:H st=aa (.inst .iy [(.cO,hv),(.dq,cv),(.xQ,.obj .Snapshot [(.cp,.int 1),(.bO,.int 1),(.dq,cv),(.bq,.bytes [])]),(.cD,.int 1),(.bU,.int 1),(.aS,.bE [])]))
  (q:Q .none (H.set st (.inst .iy [(.cO,hv),(.dq,c),(.xQ,.obj .Snapshot [(.cp,nv i),(.bO,nv t),(.dq,c),(.bq,.bytes [])]),(.cD,nv i),(.bU,nv t),(.aS,.bE [])]))):aM (n+1) .iv [.ref st,.obj .Snapshot [(.cp,nv i),(.bO,nv t),(.dq,c),(.bq,.bytes [])]] H Q X:=by
 refine bA rfl (bK (a9 (dJ (kJ (j:=1) (bI (ai rfl) rfl) (bI (aP (ai rfl) hs rfl) rfl)) (cb (BS hi)) (cP (gq (j:=1) (bI (ai rfl) rfl) (aP (ai rfl) hs rfl))))) (cb (Nat.not_lt_of_lt hi)) ?_)
 refine cT (ai rfl) (ai rfl) hs (aT rfl) (by decide) (bj (bI (ai rfl) rfl) (ai rfl) (aT rfl) (by decide) (bj (bI (ai rfl) rfl) (ai rfl) (aT rfl) (by decide) (bj (bI (ai rfl) rfl) (ai rfl) (aT rfl) (by decide) ?_)))
 exact bj (cG aE (bX _)) (ai rfl) (aT rfl) (by decide) q
theorem DN {x:V}{rows:ah Nat}{hd:Hd} (hP:P.Ok) (h:H wa=aa (.i_ fs)) (OM:fs.length<=60) (A:UE P fs) (hx:listOf H x=aa (dZ (P.az+1) rows)) (hr:∀ t∈rows,t < 2 ^ 32) (mD:rows.length<=400) (hc:hd.c<=P.az+rows.length)
  (q:∀ H' lg st un,eC H' lg st un (Lg.Jl P rows (max P.az hd.c))->H' wa=aa (.i_ (cL (cL fs .cV (.ref st)) .xlog (.ref lg)))->H lg=au->H st=au->H un=au->gZ [wa] H H'->Q .none H'):aM (n+4) .E0 [.ref wa,x,hd.o] H Q X:=by
 have Zz:=hP.b1
 refine bA rfl (bM (lV (aq (bp (ai rfl) h A.kO) aE) rfl fun st uB=>Wb hP.v hP.v2 ⟨rfl,?_⟩))
 have Ro:=a_ h uB
 have hw:=fun o=>bZ (o:=o) Ro h
 refine bo (bH (ai rfl) aN rfl (aq (MF (aq (bp (ai rfl) (hw _) A.az) (aq (bp (ai rfl) (hw _) A.bt) (aq (bp (ai rfl) (hw _) A.kO) (aq gR aE))))) aE) (KW Zz aN ⟨rfl,?_⟩))
 rw[Hp.set_set]
 have UO:=fun o=>rt (o:=o) uB hx
 refine bo (bH (ai rfl) aN rfl (aq (ai rfl) aE) (DJ (σ:=Lg.Jl P [] P.az) (k:=0) (us:=rows) aN (UO _) (bX _) (fun _=>rfl) (bX _) (aK mD (by decide)) fun H2 s2 k2=>⟨rfl,?_⟩))
 refine bo (bH (ai rfl) s2 rfl (aq (ai rfl) aE) (A8 (σ:=Lg.Jl P rows P.az) s2 ⟨rfl,?_⟩))
 have K2:cH st H H2:=fun c o hc Xz=>k2 c o (gp hc) (bZ hc Xz)
 have h2:=K2 wa _ Ro h
 have kb:cH st H (H2.set st (m8 (Lg.Jl P rows P.az) hd.o (Nn P.vs) (.obj .Snapshot [(.cp,nv P.az),(.bO,nv P.bt),(.dq,Nn P.vs),(.bq,.bytes [])]))):=K2.set
 refine dG (dj _) _ ?_ (fun _ _ _ h=>h) (PN (st:=st) (fs:=fs) (wa:=wa) (rows:=rows) (hd:=hd) hP (bZ Ro h2) OM A.az rfl rfl rfl hr mD hc aN)
 rintro o L1 H3 ⟨rfl,lg,un,B1,B2,B3,B4,B5⟩
 have n1:=lh kb (eZ B3 aN).symm B3
 have n2:=lh kb (eZ B4 aN).symm B4
 refine q H3 lg st un B1 B2 n1 uB n2 fun c o hc Xz=>?_
 have c2:=a_ Xz uB
 exact B5 c o (ad2 (fun q=>hc (by rw[q];exact .head _)) (a_ Xz n1) c2 (a_ Xz n2)) (kb c o c2 Xz)
end
structure Ad where
 f:ax
 e:ax
 wr:ax
 ak:ax
 sv:ax
 st:ax
 lg:ax
 un:ax
structure Wd where
 cuts:Nat
 b8:Nat
 sure:Nat
 b9:Nat
 bh:ah Nat
 gJ:ah Nat
 now:ah Nat
 br:Nat
 eM:Nat
 app:Nat
 bV:ah (Nat×Nat)
 F:ah aA
 aX:ah Nat
 bu:ah Sv
 synced:Nat
noncomputable def Wd.lg (P:iJ) (σ:Wd):Lg:=⟨P.az,P.bt,σ.gJ,σ.now,σ.br,σ.eM,σ.app⟩
noncomputable def Jk (P:iJ) (s:Sv):V:=.tup [nv s.e,.bE (dk (P.az+1) s.rows),s.hd.row]
noncomputable def zf (a:Nat×Nat):V:=.tup [nv a.1,nv a.2]
structure jy (P:iJ) (fs:ah (Nm×V)) (a:Ad) (σ:Wd):Prop where
 len:fs.length<=50
 B:eG fs .dB=aa (nv P.B)
 az:eG fs .cx=aa (nv P.az)
 bt:eG fs .bU=aa (nv P.bt)
 kO:eG fs .dq=aa (Nn P.vs)
 cuts:eG fs .qF=aa (nv σ.cuts)
 b8:eG fs .bO=aa (nv σ.b8)
 bh:eG fs .ji=aa (.bE (dk (P.az+1) σ.bh))
 sure:eG fs .tI=aa (nv σ.sure)
 now:eG fs .ip=aa (.bE (dk (P.az+1) σ.now))
 eM:eG fs .b6=aa (nv σ.eM)
 app:eG fs .d_=aa (nv σ.app)
 br:eG fs .lA=aa (nv σ.br)
 b9:eG fs .fY=aa (nv σ.b9)
 bV:eG fs .mY=aa (.ref a.ak)
 file:eG fs .gC=aa (.ref a.f)
 aX:eG fs .km=aa (.ref a.e)
 writer:eG fs .fy=aa (.ref a.wr)
 synced:eG fs .iF=aa (nv σ.synced)
 bu:eG fs .iz=aa (.ref a.sv)
 fB:eG fs .cV=aa (.ref a.st)
 log:eG fs .xlog=aa (.ref a.lg)
structure wD (P:iJ) (H:Hp) (a:Ad) (σ:Wd):Prop where
 J:pq H a.wr a.f P.B σ.F
 E:H a.e=aa (.bE (σ.aX.map nv))
 A:H a.ak=aa (.bE (σ.bV.map zf))
 S:H a.sv=aa (.bE (σ.bu.map (Jk P)))
 L:eC H a.lg a.st a.un (σ.lg P)
 d1:a.f≠a.e
 d2:a.f≠a.ak
 d3:a.f≠a.sv
 d4:a.e≠a.ak
 d5:a.e≠a.sv
 d6:a.ak≠a.sv
structure jh (P:iJ) (H:Hp) (wa:ax) (fs:ah (Nm×V)) (a:Ad) (σ:Wd):Prop where
 at_:H wa=aa (.i_ fs)
 D:jy P fs a σ
 G:wD P H a σ
section
variable {n:Nat}{H:Hp}{Q:PV}{X:PX}{wa:ax}{fs:ah (Nm×V)}{P:iJ}{a:Ad}{σ:Wd}
theorem wD.keep {H':Hp}{S:ah ax} (G:wD P H a σ) (k:gZ S H H') (h:∀ c∈S,c≠a.f/\c≠a.e/\c≠a.wr/\c≠a.ak/\c≠a.sv/\c≠a.st/\c≠a.lg/\c≠a.un):wD P H' a σ:=by
 have h1:a.f∉S:=fun q=>(h _ q).1 rfl
 have h2:a.e∉S:=fun q=>(h _ q).2.1 rfl
 have h3:a.wr∉S:=fun q=>(h _ q).2.2.1 rfl
 have h4:a.ak∉S:=fun q=>(h _ q).2.2.2.1 rfl
 have h5:a.sv∉S:=fun q=>(h _ q).2.2.2.2.1 rfl
 have h6:a.st∉S:=fun q=>(h _ q).2.2.2.2.2.1 rfl
 have h7:a.lg∉S:=fun q=>(h _ q).2.2.2.2.2.2.1 rfl
 have h8:a.un∉S:=fun q=>(h _ q).2.2.2.2.2.2.2 rfl
 obtain⟨x,y,z,uB⟩:=G.L.st
 exact⟨G.J.keep k h3 h1,k _ _ h2 G.E,k _ _ h4 G.A,k _ _ h5 G.S,⟨k _ _ h7 G.L.lg,⟨x,y,z,k _ _ h6 uB⟩,k _ _ h8 G.L.un,G.L.ok⟩,G.d1,G.d2,G.d3,G.d4,G.d5,G.d6⟩
theorem jy.YM {i:Nat} (D:jy P fs a σ):jy P (cL fs .qF (nv i)) a {σ with cuts:=i}:=⟨by rw[(eD fs .qF (nv i)).2 _ D.cuts];exact D.len,aJ rfl D.B,aJ rfl D.az,aJ rfl D.bt,aJ rfl D.kO,iq,aJ rfl D.b8,aJ rfl D.bh,aJ rfl D.sure,aJ rfl D.now,aJ rfl D.eM,aJ rfl D.app,aJ rfl D.br,aJ rfl D.b9,aJ rfl D.bV,aJ rfl D.file,aJ rfl D.aX,aJ rfl D.writer,aJ rfl D.synced,aJ rfl D.bu,aJ rfl D.fB,aJ rfl D.log⟩
theorem jy.YJ {i:Nat} (D:jy P fs a σ):jy P (cL fs .bO (nv i)) a {σ with b8:=i}:=⟨by rw[(eD fs .bO (nv i)).2 _ D.b8];exact D.len,aJ rfl D.B,aJ rfl D.az,aJ rfl D.bt,aJ rfl D.kO,aJ rfl D.cuts,iq,aJ rfl D.bh,aJ rfl D.sure,aJ rfl D.now,aJ rfl D.eM,aJ rfl D.app,aJ rfl D.br,aJ rfl D.b9,aJ rfl D.bV,aJ rfl D.file,aJ rfl D.aX,aJ rfl D.writer,aJ rfl D.synced,aJ rfl D.bu,aJ rfl D.fB,aJ rfl D.log⟩
theorem jy.Qi {ts:ah Nat} (D:jy P fs a σ):jy P (cL fs .ji (.bE (dk (P.az+1) ts))) a {σ with bh:=ts}:=⟨by rw[(eD fs .ji (.bE (dk (P.az+1) ts))).2 _ D.bh];exact D.len,aJ rfl D.B,aJ rfl D.az,aJ rfl D.bt,aJ rfl D.kO,aJ rfl D.cuts,aJ rfl D.b8,iq,aJ rfl D.sure,aJ rfl D.now,aJ rfl D.eM,aJ rfl D.app,aJ rfl D.br,aJ rfl D.b9,aJ rfl D.bV,aJ rfl D.file,aJ rfl D.aX,aJ rfl D.writer,aJ rfl D.synced,aJ rfl D.bu,aJ rfl D.fB,aJ rfl D.log⟩
theorem jy.YK {i:Nat} (D:jy P fs a σ):jy P (cL fs .tI (nv i)) a {σ with sure:=i}:=⟨by rw[(eD fs .tI (nv i)).2 _ D.sure];exact D.len,aJ rfl D.B,aJ rfl D.az,aJ rfl D.bt,aJ rfl D.kO,aJ rfl D.cuts,aJ rfl D.b8,aJ rfl D.bh,iq,aJ rfl D.now,aJ rfl D.eM,aJ rfl D.app,aJ rfl D.br,aJ rfl D.b9,aJ rfl D.bV,aJ rfl D.file,aJ rfl D.aX,aJ rfl D.writer,aJ rfl D.synced,aJ rfl D.bu,aJ rfl D.fB,aJ rfl D.log⟩
theorem jy.Xc {ts:ah Nat} (D:jy P fs a σ):jy P (cL fs .ip (.bE (dk (P.az+1) ts))) a {σ with now:=ts}:=⟨by rw[(eD fs .ip (.bE (dk (P.az+1) ts))).2 _ D.now];exact D.len,aJ rfl D.B,aJ rfl D.az,aJ rfl D.bt,aJ rfl D.kO,aJ rfl D.cuts,aJ rfl D.b8,aJ rfl D.bh,aJ rfl D.sure,iq,aJ rfl D.eM,aJ rfl D.app,aJ rfl D.br,aJ rfl D.b9,aJ rfl D.bV,aJ rfl D.file,aJ rfl D.aX,aJ rfl D.writer,aJ rfl D.synced,aJ rfl D.bu,aJ rfl D.fB,aJ rfl D.log⟩
theorem jy.Hm {i:Nat} (D:jy P fs a σ):jy P (cL fs .b6 (nv i)) a {σ with eM:=i}:=⟨by rw[(eD fs .b6 (nv i)).2 _ D.eM];exact D.len,aJ rfl D.B,aJ rfl D.az,aJ rfl D.bt,aJ rfl D.kO,aJ rfl D.cuts,aJ rfl D.b8,aJ rfl D.bh,aJ rfl D.sure,aJ rfl D.now,iq,aJ rfl D.app,aJ rfl D.br,aJ rfl D.b9,aJ rfl D.bV,aJ rfl D.file,aJ rfl D.aX,aJ rfl D.writer,aJ rfl D.synced,aJ rfl D.bu,aJ rfl D.fB,aJ rfl D.log⟩
theorem jy.Xe {i:Nat} (D:jy P fs a σ):jy P (cL fs .d_ (nv i)) a {σ with app:=i}:=⟨by rw[(eD fs .d_ (nv i)).2 _ D.app];exact D.len,aJ rfl D.B,aJ rfl D.az,aJ rfl D.bt,aJ rfl D.kO,aJ rfl D.cuts,aJ rfl D.b8,aJ rfl D.bh,aJ rfl D.sure,aJ rfl D.now,aJ rfl D.eM,iq,aJ rfl D.br,aJ rfl D.b9,aJ rfl D.bV,aJ rfl D.file,aJ rfl D.aX,aJ rfl D.writer,aJ rfl D.synced,aJ rfl D.bu,aJ rfl D.fB,aJ rfl D.log⟩
theorem jy.JP {i:Nat} (D:jy P fs a σ):jy P (cL fs .lA (nv i)) a {σ with br:=i}:=⟨by rw[(eD fs .lA (nv i)).2 _ D.br];exact D.len,aJ rfl D.B,aJ rfl D.az,aJ rfl D.bt,aJ rfl D.kO,aJ rfl D.cuts,aJ rfl D.b8,aJ rfl D.bh,aJ rfl D.sure,aJ rfl D.now,aJ rfl D.eM,aJ rfl D.app,iq,aJ rfl D.b9,aJ rfl D.bV,aJ rfl D.file,aJ rfl D.aX,aJ rfl D.writer,aJ rfl D.synced,aJ rfl D.bu,aJ rfl D.fB,aJ rfl D.log⟩
theorem jy.z7 {i:Nat} (D:jy P fs a σ):jy P (cL fs .fY (nv i)) a {σ with b9:=i}:=⟨by rw[(eD fs .fY (nv i)).2 _ D.b9];exact D.len,aJ rfl D.B,aJ rfl D.az,aJ rfl D.bt,aJ rfl D.kO,aJ rfl D.cuts,aJ rfl D.b8,aJ rfl D.bh,aJ rfl D.sure,aJ rfl D.now,aJ rfl D.eM,aJ rfl D.app,aJ rfl D.br,iq,aJ rfl D.bV,aJ rfl D.file,aJ rfl D.aX,aJ rfl D.writer,aJ rfl D.synced,aJ rfl D.bu,aJ rfl D.fB,aJ rfl D.log⟩
theorem jy.U7 {x:ax} (D:jy P fs a σ):jy P (cL fs .mY (.ref x)) {a with ak:=x} σ:=⟨by rw[(eD fs .mY (.ref x)).2 _ D.bV];exact D.len,aJ rfl D.B,aJ rfl D.az,aJ rfl D.bt,aJ rfl D.kO,aJ rfl D.cuts,aJ rfl D.b8,aJ rfl D.bh,aJ rfl D.sure,aJ rfl D.now,aJ rfl D.eM,aJ rfl D.app,aJ rfl D.br,aJ rfl D.b9,iq,aJ rfl D.file,aJ rfl D.aX,aJ rfl D.writer,aJ rfl D.synced,aJ rfl D.bu,aJ rfl D.fB,aJ rfl D.log⟩
theorem jy.Qk {x:ax} (D:jy P fs a σ):jy P (cL fs .gC (.ref x)) {a with f:=x} σ:=⟨by rw[(eD fs .gC (.ref x)).2 _ D.file];exact D.len,aJ rfl D.B,aJ rfl D.az,aJ rfl D.bt,aJ rfl D.kO,aJ rfl D.cuts,aJ rfl D.b8,aJ rfl D.bh,aJ rfl D.sure,aJ rfl D.now,aJ rfl D.eM,aJ rfl D.app,aJ rfl D.br,aJ rfl D.b9,aJ rfl D.bV,iq,aJ rfl D.aX,aJ rfl D.writer,aJ rfl D.synced,aJ rfl D.bu,aJ rfl D.fB,aJ rfl D.log⟩
theorem jy.Er {x:ax} (D:jy P fs a σ):jy P (cL fs .km (.ref x)) {a with e:=x} σ:=⟨by rw[(eD fs .km (.ref x)).2 _ D.aX];exact D.len,aJ rfl D.B,aJ rfl D.az,aJ rfl D.bt,aJ rfl D.kO,aJ rfl D.cuts,aJ rfl D.b8,aJ rfl D.bh,aJ rfl D.sure,aJ rfl D.now,aJ rfl D.eM,aJ rfl D.app,aJ rfl D.br,aJ rfl D.b9,aJ rfl D.bV,aJ rfl D.file,iq,aJ rfl D.writer,aJ rfl D.synced,aJ rfl D.bu,aJ rfl D.fB,aJ rfl D.log⟩
theorem jy.Hi {x:ax} (D:jy P fs a σ):jy P (cL fs .fy (.ref x)) {a with wr:=x} σ:=⟨by rw[(eD fs .fy (.ref x)).2 _ D.writer];exact D.len,aJ rfl D.B,aJ rfl D.az,aJ rfl D.bt,aJ rfl D.kO,aJ rfl D.cuts,aJ rfl D.b8,aJ rfl D.bh,aJ rfl D.sure,aJ rfl D.now,aJ rfl D.eM,aJ rfl D.app,aJ rfl D.br,aJ rfl D.b9,aJ rfl D.bV,aJ rfl D.file,aJ rfl D.aX,iq,aJ rfl D.synced,aJ rfl D.bu,aJ rfl D.fB,aJ rfl D.log⟩
theorem jy.z6 {i:Nat} (D:jy P fs a σ):jy P (cL fs .iF (nv i)) a {σ with synced:=i}:=⟨by rw[(eD fs .iF (nv i)).2 _ D.synced];exact D.len,aJ rfl D.B,aJ rfl D.az,aJ rfl D.bt,aJ rfl D.kO,aJ rfl D.cuts,aJ rfl D.b8,aJ rfl D.bh,aJ rfl D.sure,aJ rfl D.now,aJ rfl D.eM,aJ rfl D.app,aJ rfl D.br,aJ rfl D.b9,aJ rfl D.bV,aJ rfl D.file,aJ rfl D.aX,aJ rfl D.writer,iq,aJ rfl D.bu,aJ rfl D.fB,aJ rfl D.log⟩
theorem jy.Mz {x:ax} (D:jy P fs a σ):jy P (cL fs .iz (.ref x)) {a with sv:=x} σ:=⟨by rw[(eD fs .iz (.ref x)).2 _ D.bu];exact D.len,aJ rfl D.B,aJ rfl D.az,aJ rfl D.bt,aJ rfl D.kO,aJ rfl D.cuts,aJ rfl D.b8,aJ rfl D.bh,aJ rfl D.sure,aJ rfl D.now,aJ rfl D.eM,aJ rfl D.app,aJ rfl D.br,aJ rfl D.b9,aJ rfl D.bV,aJ rfl D.file,aJ rfl D.aX,aJ rfl D.writer,aJ rfl D.synced,iq,aJ rfl D.fB,aJ rfl D.log⟩
theorem jy.Oj {x:ax} (D:jy P fs a σ):jy P (cL fs .cV (.ref x)) {a with st:=x} σ:=⟨by rw[(eD fs .cV (.ref x)).2 _ D.fB];exact D.len,aJ rfl D.B,aJ rfl D.az,aJ rfl D.bt,aJ rfl D.kO,aJ rfl D.cuts,aJ rfl D.b8,aJ rfl D.bh,aJ rfl D.sure,aJ rfl D.now,aJ rfl D.eM,aJ rfl D.app,aJ rfl D.br,aJ rfl D.b9,aJ rfl D.bV,aJ rfl D.file,aJ rfl D.aX,aJ rfl D.writer,aJ rfl D.synced,aJ rfl D.bu,iq,aJ rfl D.log⟩
theorem jy.abm {x:ax} (D:jy P fs a σ):jy P (cL fs .xlog (.ref x)) {a with lg:=x} σ:=⟨by rw[(eD fs .xlog (.ref x)).2 _ D.log];exact D.len,aJ rfl D.B,aJ rfl D.az,aJ rfl D.bt,aJ rfl D.kO,aJ rfl D.cuts,aJ rfl D.b8,aJ rfl D.bh,aJ rfl D.sure,aJ rfl D.now,aJ rfl D.eM,aJ rfl D.app,aJ rfl D.br,aJ rfl D.b9,aJ rfl D.bV,aJ rfl D.file,aJ rfl D.aX,aJ rfl D.writer,aJ rfl D.synced,aJ rfl D.bu,aJ rfl D.fB,iq⟩
theorem jy.lU (D:jy P fs a σ):fs.length < 100:=cE D.len (by decide)
theorem jh.ne (T:jh P H wa fs a σ):wa≠a.f/\wa≠a.e/\wa≠a.wr/\wa≠a.ak/\wa≠a.sv/\wa≠a.st/\wa≠a.lg/\wa≠a.un:=by
 have h:=T.at_
 obtain⟨ps,w2,_⟩:=T.G.J.fl
 obtain⟨x,y,z,uB⟩:=T.G.L.st
 exact⟨aZ h w2 nofun,aZ h T.G.E nofun,aZ h T.G.J.at_ nofun,aZ h T.G.A nofun,aZ h T.G.S nofun,aZ h uB nofun,aZ h T.G.L.lg nofun,aZ h T.G.L.un nofun⟩
theorem jh.more {H':Hp} (T:jh P H wa fs a σ) (l:H.le H'):jh P H' wa fs a σ:=⟨l _ _ T.at_,T.D,T.G.keep (S:=[]) (MW l) nofun⟩
theorem wD.Z6 {fs':ah (Nm×V)} (T:jh P H wa fs a σ) (G:wD P H a σ):wD P (H.set wa (.i_ fs')) a σ:=G.keep (S:=[wa]) (dS (d7 _) (.head _)) (fun c hc=>by rw[eT.mp hc];exact T.ne)
theorem Du (σ:Wd):(σ.lg P).tm (P.az+σ.now.length)=(match σ.now.getLast? with |none=>P.bt |some t=>t):=by
 unfold Lg.tm Wd.lg
 dsimp only
 rw[D0]
 by_cases h:σ.now.length=0
 ·rw[a8 (by rw[h];rfl),qO.mp h];rfl
 ·have hl:=F_ (GA h) Nat.one_pos
  rw[bb (show ¬ P.az+σ.now.length=P.az from fun e=>h (GH (e.trans (sA _).symm))),pX,Ph,lK hl];rfl
theorem ia {n:Nat}{i:Int}:tM (n+1) (.int i) (.int i)=aa ag:=aW aa (c9 rfl)
theorem jh.nl (T:jh P H wa fs a σ):(dk (P.az+1) σ.now).length<=400:=by rw[dH];exact T.G.L.ok.n1
theorem v5 (T:jh P H wa fs a σ) (q:Q (.bool ag) H):aM (n+8) .ql [.ref wa] H Q X:=by
 have h:=T.at_
 have D:=T.D
 have L:=T.G.L
 have ok:=L.ok
 have MZ:=aK T.nl (show 400<=line by decide)
 have k1:P.az<=σ.app:=ok.a1
 have k2:σ.app<=σ.eM:=ok.a2
 have k3:σ.eM-P.az<=σ.now.length:=Uo (by rw[nR];exact ok.c)
 have er:∀ (i:Nat) (ts:ah Nat),tM 6 (.bE ((ents i ts).map En.row)) (.bE (dk i ts))=aa ag:=fun i ts=>Ex 3 i ts
 have t5:∀ (Lc:b5) (t:Nat),Lc .xw=aa (.ref wa)->Lc .xlog=aa (.ref a.lg)->Lc .ip=aa (.bE (dk (P.az+1) σ.now))->Lc .xlast=aa (nv (P.az+σ.now.length))->Lc .bO=aa (nv t)->t=(σ.lg P).tm (P.az+σ.now.length)->
   wSs (aM (n+7)) ag qN Lc H (Ck Q) (wU X):=by
  rintro Lc _ g1 g2 g3 g4 g5 rfl
  refine bK (iG (dw (aq (ru L (ai g2)) (aq (jZ L (ai g2)) (aq (d' (ai g2) L.lg rfl aE fun _ _ q=>acA L q) aE))) (aT rfl)) (dw (aq (dM (bp (ai g1) h D.az)) (aq (ai g4) (aq (ai g5) aE))) (aT rfl)) (t:=true) (kH rfl (ib ia (ib ia (ib ia rfl))))) rfl ?_
  refine bK (iG (dw (aq (aP (ai g2) L.lg rfl) (aq (aP (ai g2) L.lg rfl) aE)) (aT rfl)) (dw (aq (bp (ai g1) h D.eM) (aq (bp (ai g1) h D.app) aE)) (aT rfl)) (t:=true) (kH rfl (ib ia (ib ia rfl)))) rfl ?_
  have Jp:(ents (σ.app+1) (cut σ.now (σ.app-P.az) (σ.eM-P.az))).length<=1000:=by rw[fi];exact aK (gj ..) (aK ok.n1 (by decide))
  have aeE:cut (dk (P.az+1) σ.now) (σ.app-P.az) (σ.eM-P.az)=dk (σ.app+1) (cut σ.now (σ.app-P.az) (σ.eM-P.az)):=by
   rw[Im,iD,gY k1]
  have hb:∀ {k},k<=σ.now.length->k<=(dk (P.az+1) σ.now).length:=fun h=>by rw[dH];exact h
  refine bK (iG (eF (aq (d' (ai g2) L.lg rfl aE fun _ _ q=>ZV L q) aE) fun _ _ q=>kP (es:=ents (σ.app+1) (cut σ.now (σ.app-P.az) (σ.eM-P.az))) rfl Jp q) (iV (JV (ai g3) (c6 (bp (ai g1) h D.app) (bp (ai g1) h D.az) k1) (c6 (bp (ai g1) h D.eM) (bp (ai g1) h D.az) (aK k1 k2)) (hb (aK (wu k2 _) k3)) (hb k3) MZ) aeE) (er _ _)) rfl ?_
  exact cy (QD (eF (aq (d' (ai g2) L.lg rfl aE fun _ _ q=>acC L q) aE) fun _ _ q=>kP (es:=ents (P.az+1) σ.now) rfl (by rw[fi];exact aK ok.n1 (by decide)) q) (ai g3) (er _ _)) q
 refine bA rfl (aR (bp (ai rfl) h D.log) (aR (bp (ai rfl) h D.now) (aR (cS (bp (ai rfl) h D.az) (cX (eY (ai rfl) MZ) (dH ..))) (aR (bp (ai rfl) h D.bt) ?_))))
 have lW:=Du (P:=P) σ
 by_cases H9:σ.now=[]
 ·refine bK (iG (ai rfl) (cG aE (bX _)) (rh 5 _)) (mZ (vx.mpr H9)) (t5 _ P.bt rfl rfl rfl rfl rfl ?_)
  rw[lW,H9];rfl
 ·obtain⟨t,ht⟩:∃ t,σ.now.getLast?=aa t:=⟨_,Wv H9⟩
  have u3:(dk (P.az+1) σ.now).getLast?=aa (kF t (P.az+1+(σ.now.length-1))).row:=by
   rw[D0,dH]
   rw[D0] at ht
   exact pC ht
  refine c5 (iG (ai rfl) (cG aE (bX _)) (rh 5 _)) (xX fun h=>H9 (vx.mp h)) (aR (sY (k:=0) (Ah (ai rfl) u3) aH rfl (aT rfl)) (bG (bC (t5 _ t rfl rfl rfl rfl rfl ?_))))
  rw[lW,ht]
theorem wD.log {H2:Hp}{τ:Wd} (G:wD P H a σ) (L2:eC H2 a.lg a.st a.un (τ.lg P)) (k:gZ [a.lg,a.st,a.un] H H2) (e1:τ.F=σ.F) (e2:τ.aX=σ.aX) (e3:τ.bV=σ.bV) (e4:τ.bu=σ.bu):wD P H2 a τ:=by
 obtain⟨J1,ps,J2,J3⟩:=G.J
 obtain⟨x,y,z,uB⟩:=G.L.st
 have S:∀ (c:ax) (o:Mo),H c=aa o->o≠lgO (σ.lg P) a.st a.un->o≠m8 (σ.lg P) x y z->o≠Ef (σ.lg P)->H2 c=aa o:=fun c o hc o1 o2 o3=>k c o (Ax (aZ hc G.L.lg o1) (aZ hc uB o2) (aZ hc G.L.un o3)) hc
 exact⟨by rw[e1];exact⟨S _ _ J1 nofun nofun nofun,ps,S _ _ J2 nofun nofun nofun,J3⟩,by rw[e2];exact S _ _ G.E nofun nofun nofun,by rw[e3];exact S _ _ G.A nofun nofun nofun,by rw[e4];exact S _ _ G.S nofun nofun nofun,L2,G.d1,G.d2,G.d3,G.d4,G.d5,G.d6⟩
theorem IM {r:Nat} (T:jh P H wa fs a σ) (hb:1<=P.az) (q:∀ H' fs' i,jh P H' wa fs' a {σ with app:=i}->σ.app<=i->i<=σ.eM->Q .none H'):aM (n+4) .w0 [.ref wa,.int r] H Q X:=by
 have h:=T.at_
 have D:=T.D
 have L:=T.G.L
 have k1:P.az<=σ.app:=L.ok.a1
 have k2:σ.app<=σ.eM:=L.ok.a2
 have hm:=dD r (sC (σ.eM-σ.app))
 have hle:σ.app+r % (σ.eM-σ.app+1)<=σ.eM:=aK (dX (xG hm) _) (gX (gY k2))
 have hap:σ.app<=σ.app+r % (σ.eM-σ.app+1):=fu ..
 generalize hi:σ.app+r % (σ.eM-σ.app+1)=i at hle hap
 have hx:∀ {Lc:b5},Lc .xw=aa (.ref wa)->Lc .xr=aa (.int r)->PE (aM (n+3)) Lc H (.bR .add (.key (.aC .xw) .d_) (.bR .mod (.aC .xr) (.bR .add (.bR .sub (.key (.aC .xw) .b6) (.key (.aC .xw) .d_)) (.int 1)))) (nv i):=fun g1 g2=>cX (cS (bp (ai g1) h D.app) (eW (rj (ai g2) (dM (c6 (bp (ai g1) h D.eM) (bp (ai g1) h D.app) k2)) (Gq.mpr (sC _))) rfl)) hi
 obtain⟨n1,n2,n3,n4,n5,n6,n7,n8⟩:=T.ne
 refine bA rfl (aR (hx rfl rfl) (bo (bH (bp (ai rfl) h D.log) L.lg rfl (aq (ai rfl) aE) (Bb L (aK hb (aK k1 hap)) hap hle fun H2 L2 k=>⟨rfl,?_⟩))))
 have h2:=k wa _ (Ax n7 n6 n8) h
 have T2:jh P H2 wa fs a {σ with app:=i}->True:=fun _=>trivial
 have G2:wD P H2 a {σ with app:=i}:=T.G.log L2 k rfl rfl rfl rfl
 exact iM (ai rfl) (ai rfl) h2 D.lU (bG (q _ _ i ⟨aN,D.Xe,G2.keep (S:=[wa]) (dS (d7 _) (.head _)) (fun c hc=>by rw[eT.mp hc];exact T.ne)⟩ hap hle))
end
structure Inv (P:iJ) (σ:Wd) (c:Nat):Prop where
 cc:c<=11
 jn:∃ cg,Jn P cg σ.F σ.aX σ.bu σ.synced σ.gJ []/\cg.length<=25*(c+1)
 fl:σ.F.length<=75000*(c+1)
 ld:σ.bh.length<=3+2*c
 nw:σ.now.length<=3+2*c
 t1:P.bt < σ.b8
 t2:σ.b8<=P.bt+1+2*c
 lt:∀ t∈σ.bh,t<=σ.b8
 s1:P.az<=σ.sure
 s2:σ.sure<=P.az+σ.bh.length
 safe:tG P.az σ.sure σ.bh σ.now σ.b8 σ.eM
 sv:∀ s∈σ.bu,tG P.az σ.sure σ.bh s.rows σ.b8 s.hd.c/\s.rows.length<=3+2*c/\s.hd.t<=σ.b8/\s.hd.v < 300
 Jt:∀ p∈σ.bV,P.az < p.1/\∀ s∈σ.bu,σ.synced<=s.e->s.rows[p.1-P.az-1]? =aa p.2
 Uq:σ.bV.length<=c
 Mu:σ.bu.length<=c+1
 new:σ.b9<=P.az+3+2*c
noncomputable def bump (r:Nat):Nat:=if r / 24 % 4=1 then 1 else if r / 24 % 4=3 then 2 else 0
noncomputable def Wd.cutAt (P:iJ) (σ:Wd) (r:Nat):Nat:=σ.bh.length-r / 3 % (P.az+σ.bh.length-σ.sure+1)
noncomputable def Wd.vG (P:iJ) (σ:Wd) (r:Nat):Wd:=
 if r % 3=0 then{σ with b8:=σ.b8+(1+r / 60 % 2),bh:=σ.bh.take (σ.cutAt P r)++List.replicate (1+r / 12 % 2) (σ.b8+(1+r / 60 % 2))}
 else{σ with bh:=σ.bh++List.replicate (r / 12 % 2+r % 3-1) σ.b8}
noncomputable def Wd.mm (P:iJ) (σ:Wd) (r:Nat):Wd:={σ.vG P r with sure:=min (P.az+(σ.vG P r).bh.length) (σ.sure+bump r)}
noncomputable def Wd.place (P:iJ) (σ:Wd) (r:Nat):Nat:=max P.az (min (P.az+σ.bh.length) (P.az+σ.now.length+r / 35 % 6 / 5)-r / 7 % 4)-P.az
noncomputable def Wd.Ep (σ:Wd) (k0 r:Nat):ah Nat:=cut σ.bh k0 (k0+(1+r / 5 % 3))
noncomputable abbrev Wd.fits (σ:Wd) (k0:Nat):Prop:=k0=0∨(k0<=σ.now.length/\σ.now[k0-1]? =σ.bh[k0-1]?)
noncomputable def Wd.wq (P:iJ) (σ:Wd) (k0:Nat) (ts:ah Nat):Wd:=
 {σ with now:=Cp σ.now k0 ts,br:=(match fc σ.now k0 ts with |none=>σ.br |some k=>min σ.br k),eM:=max σ.eM (min σ.sure (P.az+k0+ts.length)),b9:=P.az+k0+ts.length}
theorem Wd.Wu (P:iJ) (σ:Wd) (k0:Nat) (ts:ah Nat):(σ.wq P k0 ts).lg P=(σ.lg P).Sz k0 ts σ.sure:=by
 unfold Wd.wq Wd.lg Lg.Sz Cp
 dsimp only
 cases fc σ.now k0 ts<;>rfl
section
variable {P:iJ}{σ:Wd}{c:Nat}
theorem Inv.bh (I:Inv P σ c) (hc:c<=10) (r:Nat):Inv P (σ.mm P r) (c+1)/\(σ.mm P r).bh.length<=3+2*(c+1)/\σ.sure<=(σ.mm P r).sure/\(σ.vG P r).bh.length=(σ.mm P r).bh.length/\σ.sure<=P.az+σ.cutAt P r/\σ.cutAt P r<=σ.bh.length:=by
 have s1:=I.s1
 have s2:=I.s2
 have ld:=I.ld
 have UQ:σ.sure<=P.az+σ.cutAt P r/\σ.cutAt P r<=σ.bh.length:=by
  have:=dD (r / 3) (show 0 < P.az+σ.bh.length-σ.sure+1 by exact lT [] 0x20100040103 [P.az,σ.bh.length,σ.sure] hJ 0x12304021 aQ)
  unfold Wd.cutAt;exact nt [] 0x20104030200204 [σ.sure,P.az,σ.bh.length,r / 3 % (P.az+σ.bh.length-σ.sure+1)] 0x110011000060019001100006002011000001100700190001101101100080120110000011007001900110011011000801202001 0x20400401040007 oI 0x12604301 s2 this aQ
 obtain⟨cg,J,mD⟩:=I.jn
 by_cases h3:r % 3=0
 ·have e:σ.vG P r={σ with b8:=σ.b8+(1+r / 60 % 2),bh:=σ.bh.take (σ.cutAt P r)++List.replicate (1+r / 12 % 2) (σ.b8+(1+r / 60 % 2))}:=by unfold Wd.vG;rw[a8 h3]
  unfold Wd.mm
  rw[e]
  have lP:(σ.bh.take (σ.cutAt P r)++List.replicate (1+r / 12 % 2) (σ.b8+(1+r / 60 % 2))).length=σ.cutAt P r+(1+r / 12 % 2):=by simp;exact gg [] 0x10001104 [Wd.cutAt P σ r,σ.bh.length,σ.sure,P.az] 0x110110110000070011001100000700201900110110000700190011000007002001011 0x402 0x10000003042007 UQ aQ
  have Rq:σ.sure<=min (P.az+(σ.cutAt P r+(1+r / 12 % 2))) (σ.sure+bump r):=by exact gg [] 0x400049012420410410216030c1303306 [σ.sure,P.az,Wd.cutAt P σ r,r,bump r,σ.bh.length] 0x19000001106001900011001106022011 0xa0000 0x50200201040007 UQ aQ
  dsimp only
  rw[lP]
  have key:∀ {rows:ah Nat}{eM:Nat},tG P.az σ.sure σ.bh rows σ.b8 eM->tG P.az (min (P.az+(σ.cutAt P r+(1+r / 12 % 2))) (σ.sure+bump r)) (σ.bh.take (σ.cutAt P r)++List.replicate (1+r / 12 % 2) (σ.b8+(1+r / 60 % 2))) rows (σ.b8+(1+r / 60 % 2)) eM:=fun S=>S.turn UQ.1 UQ.2 (lT [] 0x212033c1103202 [σ.b8,r] hJ 0x50124004001 aQ) Rq
  refine⟨⟨by exact cw [c] bJ 0xb2120040 0xa2000 hc aQ,⟨cg,J,by exact cw [cg.length,c] bJ 0x121210441915000 0x121041915000 mD aQ⟩,by have:=I.fl;show σ.F.length<=_;exact cw [σ.F.length,c] bJ 0x121210440124f835000 0x121040124f835000 this aQ,by show(_++_:ah Nat).length<=_;rw[lP];exact nt [] 0x216030c1103206 [Wd.cutAt P σ r,r,c,σ.bh.length,σ.sure,P.az] 0x1100110001101107012021 0x122040215324901240040 0x200215324300 0x30000005044007 ld UQ aQ,by have:=I.nw;show σ.now.length<=_;exact cw [σ.now.length,c] bJ rJ lI this aQ,by have:=I.t1;show P.bt < σ.b8+_;exact gg [] 0x213033c1203203 [P.bt,σ.b8,r] bJ 0x60124104001 rI this aQ,by have:=I.t2;show σ.b8+(1+r / 60 % 2)<=_;exact gg [] 0x214033c1103204 [σ.b8,r,P.bt,c] 0x11001101104012 0x123040215122044701240040 0x300215122044000 this aQ,?_,by show P.az<=min _ _;exact nt [] 0x403048012410400410215030c1203305 [P.az,Wd.cutAt P σ r,r,σ.sure,bump r] eI 0x90000 rK 0x90300 s1 Rq aQ,?_,key I.safe,?_,I.Jt,by have:=I.Uq;show σ.bV.length<=_;exact cw [σ.bV.length,c] bJ pR dO this aQ,by have:=I.Mu;show σ.bu.length<=_;exact cw [σ.bu.length,c] bJ 0x12121044000 pR this aQ,by have:=I.new;show σ.b9<=_;exact cw [σ.b9,P.az,c] bJ 0x122040215321044000 0x200215321044000 this aQ⟩,by exact nt [] 0x216030c1103206 [Wd.cutAt P σ r,r,c,σ.bh.length,σ.sure,P.az] 0x1100110001101107012021 0x122040215324901240040 0x200215324300 0x30000005044007 ld UQ aQ,by exact gg [] 0x400048012420410410215030c1303305 [σ.sure,P.az,Wd.cutAt P σ r,r,bump r] bJ 0x90000 0x90000 Rq aQ,rfl,UQ⟩
  ·intro t ht
   rcases iS.mp ht with ht |ht
   ·have:=I.lt t (yt ht);show t<=σ.b8+_;exact gg [] 0x213033c1203203 [t,σ.b8,r] bJ 0x60124104000 dO this aQ
   ·rw[(BZ.mp ht).2];exact bD _
  ·show min _ _<=P.az+(_++_:ah Nat).length
   rw[lP];exact lT [] 0x403048012410400410215030c1203305 [P.az,Wd.cutAt P σ r,r,σ.sure,bump r] 0x11011011030011001103022 0x80124104004900 aQ
  ·intro s hs
   obtain⟨g1,g2,g3,g4⟩:=I.sv s hs
   exact⟨key g1,by exact cw [s.rows.length,c] bJ rJ lI g2 aQ,by show s.hd.t<=σ.b8+_;exact gg [] 0x213033c1203203 [s.hd.t,σ.b8,r] bJ 0x60124104000 dO g3 aQ,g4⟩
 ·have e:σ.vG P r={σ with bh:=σ.bh++List.replicate (r / 12 % 2+r % 3-1) σ.b8}:=by unfold Wd.vG;rw[bb h3]
  unfold Wd.mm
  rw[e]
  have lP:(σ.bh++List.replicate (r / 12 % 2+r % 3-1) σ.b8).length=σ.bh.length+(r / 12 % 2+r % 3-1):=by simp
  have Rq:σ.sure<=min (P.az+(σ.bh.length+(r / 12 % 2+r % 3-1))) (σ.sure+bump r):=by exact gg [] 0x40004b0204104112a080400313030215030c1303505 [σ.sure,P.az,σ.bh.length,r,bump r] 0x1900011040019001101104042 0xd0000 oI s2 aQ
  dsimp only
  rw[lP]
  have key:∀ {rows:ah Nat}{eM:Nat},tG P.az σ.sure σ.bh rows σ.b8 eM->tG P.az (min (P.az+(σ.bh.length+(r / 12 % 2+r % 3-1))) (σ.sure+bump r)) (σ.bh++List.replicate (r / 12 % 2+r % 3-1) σ.b8) rows σ.b8 eM:=fun S=>S.grow I.s2 _ Rq
  refine⟨⟨by exact cw [c] bJ 0xb2120040 0xa2000 hc aQ,⟨cg,J,by exact cw [cg.length,c] bJ 0x121210441915000 0x121041915000 mD aQ⟩,by have:=I.fl;show σ.F.length<=_;exact cw [σ.F.length,c] bJ 0x121210440124f835000 0x121040124f835000 this aQ,by show(_++_:ah Nat).length<=_;rw[lP];exact gg [] 0x128060400311030213030c1103403 [σ.bh.length,r,c] 0x1100000011011080019001100110011011080322212 0x122040215324900040 Ir ld aQ,by have:=I.nw;show σ.now.length<=_;exact cw [σ.now.length,c] bJ rJ lI this aQ,I.t1,by have:=I.t2;show σ.b8<=_;exact cw [σ.b8,P.bt,c] bJ 0x122040215121044000 0x200215121044000 this aQ,?_,by show P.az<=min _ _;exact nt [] 0x40304b0104004112a080400312030215030c1203505 [P.az,σ.bh.length,r,σ.sure,bump r] eI 0xd0000 rK 0xd0300 s1 Rq aQ,?_,key I.safe,?_,I.Jt,by have:=I.Uq;show σ.bV.length<=_;exact cw [σ.bV.length,c] bJ pR dO this aQ,by have:=I.Mu;show σ.bu.length<=_;exact cw [σ.bu.length,c] bJ 0x12121044000 pR this aQ,by have:=I.new;show σ.b9<=_;exact cw [σ.b9,P.az,c] bJ 0x122040215321044000 0x200215321044000 this aQ⟩,by exact gg [] 0x128060400311030213030c1103403 [σ.bh.length,r,c] 0x1100000011011080019001100110011011080322212 0x122040215324900040 Ir ld aQ,by exact gg [] 0x40004b0204104112a080400313030215030c1303505 [σ.sure,P.az,σ.bh.length,r,bump r] bJ 0xd0000 0xd0000 Rq aQ,rfl,UQ⟩
  ·intro t ht
   rcases iS.mp ht with ht |ht
   ·exact I.lt t ht
   ·rw[(BZ.mp ht).2];exact bD _
  ·show min _ _<=P.az+(_++_:ah Nat).length
   rw[lP];exact lT [] 0x40304b0104004112a080400312030215030c1203505 [P.az,σ.bh.length,r,σ.sure,bump r] 0x11011011030011001103042 0xb0104004d00 aQ
  ·intro s hs
   obtain⟨g1,g2,g3,g4⟩:=I.sv s hs
   exact⟨key g1,by exact cw [s.rows.length,c] bJ rJ lI g2 aQ,g3,g4⟩
theorem Inv.place (I:Inv P σ c) (r:Nat):σ.place P r<=σ.bh.length:=by unfold Wd.place;exact lT [] 0x21001002f0a00041c0307130380200044100041051703061403231303904 [P.az,σ.bh.length,σ.now.length,r] 0x11019000000080019001100000011090820110000000011090019001100110000110908272011019000000080019001100000011090820110000000011090019001100190011011011090827262011019000000080019001100000011090820110000000011090019001100110000110908272011019000000080019001100000011090820110000000011090019001100190011001109082726232 0x10410 aQ
theorem Inv.fit (I:Inv P σ c) (r:Nat) (hf:σ.fits (σ.place P r)):
  (∀ k,fc σ.now (σ.place P r) (σ.Ep (σ.place P r) r)=aa k->σ.eM<=P.az+k/\k<=σ.now.length)/\Inv P (σ.wq P (σ.place P r) (σ.Ep (σ.place P r) r)) c:=by
 have hp:=I.place r
 have hm:σ.place P r=0∨∃ t,σ.now[σ.place P r-1]? =aa t/\σ.bh[σ.place P r-1]? =aa t:=by
  rcases hf with h |⟨h1,h2⟩
  ·exact .inl h
  ·by_cases h0:σ.place P r=0
   ·exact .inl h0
   ·right
    have:=lK (l:=σ.now) (i:=σ.place P r-1) (nt [] 0x12000102 [Wd.place P σ r,σ.now.length] 0x1101100000600190000011011070020110000050031021 0x10201 dO 0x20026 h1 h0 aQ)
    exact⟨_,this,by rw[<- h2];exact this⟩
 obtain⟨g1,g2⟩:=I.safe.append I.s2 (k0:=σ.place P r) (c:=1+r / 5 % 3) hp I.lt hm
 have yM:=tg σ.bh (σ.place P r) (σ.place P r+(1+r / 5 % 3))
 have u3:=I.ld
 have hn2:=I.nw
 refine⟨g1,⟨I.cc,I.jn,I.fl,I.ld,?_,I.t1,I.t2,I.lt,I.s1,I.s2,g2,I.sv,I.Jt,I.Uq,I.Mu,?_⟩⟩
 ·show(Cp σ.now (σ.place P r) (cut σ.bh (σ.place P r) (σ.place P r+(1+r / 5 % 3)))).length<=_
  unfold Cp
  cases Jo:fc σ.now (σ.place P r) (cut σ.bh (σ.place P r) (σ.place P r+(1+r / 5 % 3))) with
  |none=>exact hn2
  |some k=>
   obtain⟨f1,f2,_⟩:=tc Jo
   have:=(g1 k Jo).2
   simp only[bN,eX,fJ]
   exact nl5 [] 0x311113050030011243040031d03051603902003000010001807 [k,σ.now.length,(cut σ.bh (Wd.place P σ r) (Wd.place P σ r+(1+r / 5 % 3))).length,Wd.place P σ r,c,σ.bh.length,r] 0x110000110000090011019000011000000b0011000000000001100d00110019001900110011011000110110011100011011019001900110011011000110110011100726222120110000110000090011019000011000000b0011000000000001100d00110019001900110011000011011001110001101101900190011001100001101100111007262221202 0x400215324b07040 0x50300 0x51202 0x400215324500 768 0x20304001 hp yM u3 f1 f2 aQ
 ·show P.az+σ.place P r+(cut σ.bh (σ.place P r) (σ.place P r+(1+r / 5 % 3))).length<=_
  exact EU [] 0xc0a011040010901241040031603051503506 [P.az,Wd.place P σ r,(cut σ.bh (Wd.place P σ r) (Wd.place P σ r+(1+r / 5 % 3))).length,c,σ.bh.length,r] 0x11000110050011001900110110011080011011019001101100110804232 0x300215320044201000440 0x40100 0xe0202 0x300215324400 hp yM u3 aQ
end
noncomputable def Wd.append (P:iJ) (σ:Wd) (r:Nat):Wd:=if (σ.mm P r).fits ((σ.mm P r).place P r) then(σ.mm P r).wq P ((σ.mm P r).place P r) ((σ.mm P r).Ep ((σ.mm P r).place P r) r) else σ.mm P r
theorem Inv.append {P:iJ}{σ:Wd}{c:Nat} (I:Inv P σ c) (hc:c<=10) (r:Nat):Inv P (σ.append P r) (c+1):=by
 have I1:=(I.bh hc r).1
 unfold Wd.append
 split
 ·rename_i h;exact(I1.fit r h).2
 ·exact I1
noncomputable def ap (now:ah Nat) (az:Nat):Nat->ah Nat->ah Nat
 |_,[]=>[]
 |k,t::ts=>if now[k]? =aa t then ap now az (k+1) ts else(az+1+k)::ap now az (k+1) ts
theorem NC (now:ah Nat) (az:Nat):∀ (ts:ah Nat) (k:Nat),(ap now az k ts)[0]? =(fc now k ts).map (az+1+ ·)
 |[],k=>rfl
 |t::ts,k=>by
  show(if now[k]? =aa t then ap now az (k+1) ts else(az+1+k)::ap now az (k+1) ts)[0]? =(if now[k]? =aa t then fc now (k+1) ts else aa k).map _
  by_cases h:now[k]? =aa t
  ·rw[a8 h,a8 h];exact NC now az ts (k+1)
  ·rw[bb h,bb h];rfl
theorem F8 (now:ah Nat) (az:Nat):∀ (ts:ah Nat) (k:Nat),(ap now az k ts).length<=ts.length
 |[],k=>bD 0
 |t::ts,k=>by
  show(if now[k]? =aa t then ap now az (k+1) ts else(az+1+k)::ap now az (k+1) ts).length<=ts.length+1
  by_cases h:now[k]? =aa t
  ·rw[a8 h];exact TY (F8 now az ts (k+1))
  ·rw[bb h];exact eH (F8 now az ts (k+1))
theorem Xn {C:CC}{L:b5}{H:Hp}{Q:PV}{X:PX}{a b:E}{op:Co} (k:wE C a L H (fun x H1=>wE C b L H1 (fun y H2=>yj op x y H2 fun t=>Q (.bool t) H2) X) X):wE C (.cB a op b) L H Q X:=k
section
variable {n:Nat}{H:Hp}{Q:PV}{X:PX}{wa:ax}{fs:ah (Nm×V)}{P:iJ}{a:Ad}{σ:Wd}
theorem DA {i k0:Nat}{ts:ah Nat} (hk:k0+ts.length<=400):(ents i ts).length<=1000:=by rw[fi];exact aK (j_ _ k0) (aK hk (by decide))
theorem wL {L:b5}{k0 t:Nat}{ts:ah Nat}{X:fk} (h:H wa=aa (.i_ fs)) (D:jy P fs a (σ.wq P k0 ts)) (G:wD P H a σ) (g1:L .xw=aa (.ref wa)) (g2:L .dy=aa (nv (P.az+k0))) (g3:L .bO=aa (nv t)) (g4:L .pv=aa (.bE (dk (P.az+1+k0) ts))) (g5:L .zM=aa (nv (P.az+k0+ts.length)))
  (hk:k0+ts.length<=400) (ht:∀ t∈ts,t < 2 ^ 32) (hc:∀ k,fc σ.now k0 ts=aa k->σ.eM<=P.az+k) (hm:P.az+k0<=P.az+σ.now.length/\(σ.lg P).tm (P.az+k0)=t):
  wSs (aM (n+6)) ag iX L H (fun o L1 H1=>o=.ret (.bool ag)/\jh P H1 wa fs a (σ.wq P k0 ts)) X:=by
 refine gM (Xn (bH (bp (ai g1) h D.log) G.L.lg rfl (aq (ai g2) (aq (ai g3) (aq (bp (ai g1) h D.sure) (aq (eF (aq (ai g4) aE) fun _ _ q=>o5 (es:=ents (P.az+1+k0) ts) rfl (DA hk) q) aE)))) ?_))
 refine Nw (σ:=σ.lg P) (k0:=k0) (t:=t) (sure:=σ.sure) (ts:=ts) G.L hk ht (fun _=>hc) (fun H' hn _=>(hn hm).elim) (fun H' _ L2 k=>?_)
 rw[<- Wd.Wu P σ k0 ts] at L2
 obtain⟨x,y,z,uB⟩:=G.L.st
 exact(ai g5) _ _ ⟨ag,ia,rfl,k _ _ (Ax (aZ h G.L.lg nofun) (aZ h uB nofun) (aZ h G.L.un nofun)) h,D,G.log L2 k rfl rfl rfl rfl⟩
theorem yD {L:b5}{k0 t:Nat}{ts:ah Nat}{X:fk} (T:jh P H wa fs a σ) (g1:L .xw=aa (.ref wa)) (g2:L .dy=aa (nv (P.az+k0))) (g3:L .bO=aa (nv t)) (g4:L .pv=aa (.bE (dk (P.az+1+k0) ts))) (g5:L .zM=aa .none)
  (hk:k0+ts.length<=400) (ht:∀ t∈ts,t < 2 ^ 32) (hm:¬ (P.az+k0<=P.az+σ.now.length/\(σ.lg P).tm (P.az+k0)=t)):
  wSs (aM (n+6)) ag iX L H (fun o L1 H1=>o=.ret (.bool ag)/\jh P H1 wa fs a σ) X:=by
 have D:=T.D
 refine gM (Xn (bH (bp (ai g1) T.at_ D.log) T.G.L.lg rfl (aq (ai g2) (aq (ai g3) (aq (bp (ai g1) T.at_ D.sure) (aq (eF (aq (ai g4) aE) fun _ _ q=>o5 (es:=ents (P.az+1+k0) ts) rfl (DA hk) q) aE)))) ?_))
 refine Nw (σ:=σ.lg P) (k0:=k0) (t:=t) (sure:=σ.sure) (ts:=ts) T.G.L hk ht (fun hy=>(hm hy).elim) (fun H' hn e=>?_) (fun H' hy _ _=>(hm hy).elim)
 subst e
 exact(ai g5) _ _ ⟨ag,rfl,rfl,T⟩
end
section
variable {C:CC}{L:b5}{H:Hp}{e:E}{t i:Nat}
theorem zu (p:PE C L H e (kF t i).row):PE C L H (.idx e (.int 0)) (nv t):=sY (k:=0) p aH rfl (aT rfl)
theorem Vi (p:PE C L H e (kF t i).row):PE C L H (.idx e (.int 1)) (nv i):=sY (k:=1) p aH rfl (aT rfl)
theorem Hx {α:Type}{elt it cond:E}{x:Nm}{fv:ah Nm}{src:V} (f:α->V) (g:α->aB V) (xs:ah α) (p:PE C L H it src) (hs:gN H src=aa (xs.map f)) (hl:xs.length<=line) (hx:∀ a∈xs,∀ k:aB V->Hp->Prop,k (g a) H->DE C elt ao [x] cond (L.only fv) (f a) H k):PE C L H (.comp ag elt ao [x] it cond fv) (.bE (xs.filterMap g)):=
 fun Q X q=>w5 f g xs p hs hl hx ⟨aK (List.length_filterMap_le ..) hl,q⟩
end
section
variable {n:Nat}{H:Hp}{Q:PV}{X:PX}{wa:ax}{fs:ah (Nm×V)}{P:iJ}{a:Ad}{σ:Wd}
theorem F4 (b k:Nat):b+1+k-b-1=k:=by rw[dU,pX,pX]
theorem yb (now:ah Nat) (az:Nat):∀ (ts:ah Nat) (k:Nat),(ents (az+1+k) ts).filterMap (fun e=>if now[e.i-az-1]? =aa e.t then au else aa (nv e.i))=(ap now az k ts).map nv
 |[],k=>rfl
 |t::ts,k=>by
  have ih:=yb now az ts (k+1)
  have hb:(if now[(kF t (az+1+k)).i-az-1]? =aa (kF t (az+1+k)).t then au else aa (nv (kF t (az+1+k)).i))=(if now[k]? =aa t then au else aa (nv (az+1+k))):=by
   rw[show(kF t (az+1+k)).i-az-1=k from F4 az k];rfl
  show List.filterMap _ (kF t (az+1+k)::ents (az+1+(k+1)) ts)=(if now[k]? =aa t then ap now az (k+1) ts else(az+1+k)::ap now az (k+1) ts).map nv
  by_cases h:now[k]? =aa t
  ·rw[a8 h] at hb ⊢
   exact(Tp (f:=fun e:En=>if now[e.i-az-1]? =aa e.t then au else aa (nv e.i)) hb).trans ih
  ·rw[bb h] at hb ⊢
   exact(NL (f:=fun e:En=>if now[e.i-az-1]? =aa e.t then au else aa (nv e.i)) hb).trans (aW (_:: ·) ih)
theorem RH {k0 t:Nat} (h0:k0=0->t=P.bt) (h1:k0≠0->σ.bh[k0-1]? =aa t):(P.az+k0<=P.az+σ.now.length/\(σ.lg P).tm (P.az+k0)=t)↔σ.fits k0:=by
 unfold Wd.fits
 by_cases hz:k0=0
 ·subst hz
  exact⟨fun _=>.inl rfl,fun _=>⟨fu ..,(a8 rfl).trans (h0 rfl).symm⟩⟩
 ·have:=Ei (σ.lg P) (k0-1) t
  rw[show(σ.lg P).az+1+(k0-1)=P.az+k0 by show P.az+1+(k0-1)=_;exact gg [] 0x12100102 [P.az,k0] 0x110011000060011000000600210110190000060011011000006000102011 0x10004201200442 0x21026 hz aQ] at this
  refine this.trans ?_
  rw[h1 hz]
  exact⟨fun h=>.inr ⟨Nat.le_of_pred_lt (lX h),h⟩,fun h=>h.resolve_left hz |>.2⟩
theorem Sy {L:b5}{k0 t:Nat}{C:CC} (g2:L .dy=aa (nv (P.az+k0))) (g3:L .bO=aa (nv t))
  (g5:L .mA=aa (nv (P.az+σ.now.length))) (g6:L .cx=aa (nv P.az)) (g7:L .ip=aa (.bE (dk (P.az+1) σ.now))) (mD:(dk (P.az+1) σ.now).length<=line) (h1:k0≠0->σ.bh[k0-1]? =aa t):
  ∃ v,PE C L H (.b7 ag (.cons (.cB (.aC .dy) .le (.aC .mA)) (.cons (.b7 ao (.cons (.cB (.aC .dy) .eq (.aC .cx)) (.cons (.cB (.idx (.idx (.aC .ip) (.bR .sub (.bR .sub (.aC .dy) (.aC .cx)) (.int 1))) (.int 0)) .eq (.aC .bO)) .nil))) .nil))) v/\truth H v=aa (decide (σ.fits k0)):=by
 by_cases c1:k0<=σ.now.length
 ·by_cases hz:k0=0
  ·exact⟨_,a9 (dJ (kJ (ai g2) (ai g5)) (dC (dX c1 _)) (cP (a9 (ni (fF (ai g2) (ai g6)) (dC (by rw[hz];rfl)))))),(dC (by rw[hz];rfl)).trans (aW aa (c9 (show σ.fits k0 from .inl hz)).symm)⟩
  ·obtain⟨u,hu⟩:∃ u,σ.now[k0-1]? =aa u:=⟨_,lK (ma (F_ (GA hz) Nat.one_pos) c1)⟩
   have Dx:¬ P.az+k0=P.az:=fun e=>hz (GH (e.trans (sA _).symm))
   refine⟨_,a9 (dJ (kJ (ai g2) (ai g5)) (dC (dX c1 _)) (cP (a9 (dJ (fF (ai g2) (ai g6)) (cb Dx) (cP (fF (zu (gG (k:=k0-1) (ai g7) (cX (c6 (j:=1) (c6 (ai g2) (ai g6) (fu ..)) aH (by rw[pX];exact GA hz)) (by rw[pX])) (pC hu) mD)) (ai g3))))))),aW aa (kW.mpr ?_)⟩
   refine⟨fun e=>.inr ⟨c1,by rw[hu,h1 hz,e]⟩,fun e=>?_⟩
   have:=(e.resolve_left hz).2
   rw[hu,h1 hz] at this
   exact eS this
 ·have hnf:¬ σ.fits k0:=fun h=>h.elim (fun e=>c1 (by rw[e];exact bX _)) fun e=>c1 e.1
  exact⟨_,a9 (jl (kJ (ai g2) (ai g5)) (cb fun h=>c1 (DZ h))),(cb fun h=>c1 (DZ h)).trans (aW aa (dW hnf).symm)⟩
theorem Pf {L:b5}{k0:Nat}{ts:ah Nat}{C:CC} (g4:L .pv=aa (.bE (dk (P.az+1+k0) ts)))
  (g5:L .mA=aa (nv (P.az+σ.now.length))) (g6:L .cx=aa (nv P.az)) (g7:L .ip=aa (.bE (dk (P.az+1) σ.now))) (mD:(dk (P.az+1) σ.now).length<=line) (yM:ts.length<=line):
  PE C L H (.comp ag (.idx (.aC .mW) (.int 1)) ao [.mW] (.aC .pv) (.b7 ao (.cons (.cB (.idx (.aC .mW) (.int 1)) .gt (.aC .mA)) (.cons (.cB (.idx (.aC .ip) (.bR .sub (.bR .sub (.idx (.aC .mW) (.int 1)) (.aC .cx)) (.int 1))) .ne (.aC .mW)) .nil))) [.mA,.ip,.cx]) (.bE ((ap σ.now P.az k0 ts).map nv)):=by
 refine iV (Hx En.row (fun e=>if σ.now[e.i-P.az-1]? =aa e.t then au else aa (nv e.i)) (ents (P.az+1+k0) ts) (ai g4) rfl (by rw[fi];exact yM) fun x hx k hk=>?_) (yb ..)
 obtain⟨j,hj⟩:=XW hx
 rw[rF] at hj
 obtain⟨u,hu,rfl⟩:=yu.mp hj
 rw[show(kF u (P.az+1+k0+j)).i-P.az-1=k0+j from(aW (· -P.az-1) (dU ..)).trans (F4 P.az (k0+j))] at hk
 have r1:∀ {L:b5},PE C (L.set .mW (kF u (P.az+1+k0+j)).row) H (.idx (.aC .mW) (.int 1)) (nv (P.az+1+k0+j)):=Vi (ai rfl)
 by_cases Xx:σ.now.length<=k0+j
 ·rw[BF Xx,bb nofun] at hk
  have:P.az+σ.now.length < P.az+1+k0+j:=by exact cw [P.az,σ.now.length,k0,j] bJ 0x30201200444100041 0x30204100 Xx aQ
  exact RV rfl (a9 (ni (fo r1 (ai g5)) (dC this))) (dC this) r1 hk
 ·obtain⟨w,hw⟩:∃ w,σ.now[k0+j]? =aa w:=⟨_,lK (Gw Xx)⟩
  rw[hw] at hk
  have hg:=pC (i:=P.az+1) hw
  rw[<- dU] at hg
  refine RV rfl (a9 (dJ (fo r1 (ai g5)) (cb (cw [P.az,σ.now.length,k0,j] vV 0x302012004441000416 0x302041006 Xx aQ)) (cP (iG (gG (ai g7) (cX (c6 (j:=1) (c6 r1 (ai g6) (lE [P.az,k0,j] hJ 0x20101200444000 aQ)) aH (lT [] 0x201012004440103 [P.az,k0,j] 0x110020011001103002 0x30120 aQ)) (lT [] 0x1230000201012004440203 [P.az,k0,j] 0x1100030011011000050019001900110060120201100030011011001100500110011001100601202001 0x20104502 aQ)) hg mD) (ai rfl) (Qx 4 w u _))))) rfl r1 ?_
  have hk:k (if aa w=aa u then au else aa (nv (P.az+1+k0+j))) H:=hk
  by_cases Xp:w=u
  ·rw[a8 (aW aa Xp)] at hk
   rw[c9 Xp];exact hk
  ·rw[bb fun q=>Xp (eS q)] at hk
   rw[dW Xp];exact hk
theorem Ee {L:b5}{k0 t:Nat}{ts:ah Nat}{X:fk} (T:jh P H wa fs a σ) (g1:L .xw=aa (.ref wa)) (g2:L .dy=aa (nv (P.az+k0))) (g3:L .bO=aa (nv t)) (g4:L .pv=aa (.bE (dk (P.az+1+k0) ts)))
  (g5:L .mA=aa (nv (P.az+σ.now.length))) (g6:L .cx=aa (nv P.az)) (g7:L .ip=aa (.bE (dk (P.az+1) σ.now))) (g8:L .fY=aa (nv (P.az+k0+ts.length)))
  (hk:k0+ts.length<=400) (ht:∀ t∈ts,t < 2 ^ 32) (hb:P.az<=100000) (hf:σ.fits k0->∀ k,fc σ.now k0 ts=aa k->σ.eM<=P.az+k) (h0:k0=0->t=P.bt) (h1:k0≠0->σ.bh[k0-1]? =aa t):
  wSs (aM (n+6)) ag kQ L H (fun o L1 H1=>o=.ret (.bool ag)/\∃ fs',jh P H1 wa fs' a (if σ.fits k0 then σ.wq P k0 ts else σ)) X:=by
 have D:=T.D
 have h:=T.at_
 have mD:=aK T.nl (show 400<=line by decide)
 have htl:ts.length<=400:=aK (j_ ..) hk
 have yM:(dk (P.az+1+k0) ts).length<=400:=by rw[dH];exact htl
 have Zr:=RH (P:=P) (σ:=σ) h0 h1
 obtain⟨v,hv,hvt⟩:=Sy (H:=H) (C:=aM (n+6)) (L:=L.set .zM .none) g2 g3 g5 g6 g7 mD h1
 refine aR iO (Hl hv hvt (fun hF=>?_) (fun hF=>?_))
 case refine_2=>
  have hF:=GC hF
  rw[bb hF]
  refine bG (bC (dG (dj _) _ ?_ (fun _ _ _ h=>h) (yD T g1 g2 g3 g4 rfl hk ht fun q=>hF (Zr.mp q))))
  rintro o L1 H1 ⟨e,T1⟩
  exact⟨e,_,T1⟩
 have hF:=ig hF
 rw[a8 hF]
 have hk0:k0<=σ.now.length:=DZ (Zr.mpr hF).1
 have fin:∀ {L' fs'},L' .xw=L .xw->L' .dy=L .dy->L' .bO=L .bO->L' .pv=L .pv->L' .zM=aa (nv (P.az+k0+ts.length))->jy P fs' a (σ.wq P k0 ts)->
   wSs (aM (n+6)) ag iX L' (H.set wa (.i_ fs')) (fun o L1 H1=>o=.ret (.bool ag)/\∃ fs',jh P H1 wa fs' a (σ.wq P k0 ts)) X:=by
  intro L' fs' e1 e2 e3 e4 e5 D'
  refine dG (dj _) _ ?_ (fun _ _ _ h=>h) (wL aN D' (T.G.Z6 T) (e1.trans g1) (e2.trans g2) (e3.trans g3) (e4.trans g4) e5 hk ht (hf hF) (Zr.mpr hF))
  rintro o L1 H1 ⟨e,T1⟩
  exact⟨e,_,T1⟩
 have E_:=NC σ.now P.az ts k0
 have aew:((ap σ.now P.az k0 ts).map nv).length<=line:=by rw[cF];exact aK (F8 σ.now P.az ts k0) (aK htl (by decide))
 refine aR (ai g8) (aR (Pf g4 g5 g6 g7 mD (aK htl (by decide))) ?_)
 cases Jo:fc σ.now k0 ts with
 |none=>
  rw[Jo] at E_
  have H9:ap σ.now P.az k0 ts=[]:=by
   cases e:ap σ.now P.az k0 ts with
   |nil=>rfl
   |cons x xs=>rw[e] at E_;contradiction
  have e:σ.wq P k0 ts={σ with eM:=max σ.eM (min σ.sure (P.az+k0+ts.length)),b9:=P.az+k0+ts.length}:=by unfold Wd.wq Cp;rw[Jo]
  refine bK (iG (ai rfl) (cG aE (bX _)) (rh 5 _)) (mZ (by rw[H9];rfl)) ?_
  refine iM (vz (bp (ai g1) h D.eM) (ox (bp (ai g1) h D.sure) (ai g8))) (ai g1) h D.lU (f_ (ai g8) (ai g1) D.Hm.lU (bG (bC (fin rfl rfl rfl rfl rfl ?_))))
  rw[e];exact D.Hm.z7
 |some k=>
  rw[Jo] at E_
  obtain⟨f1,f2,_⟩:=tc Jo
  have Dx:¬ (ap σ.now P.az k0 ts).map nv=[]:=fun q=>by
   rw[Uh.mp q] at E_;contradiction
  have hg0:((ap σ.now P.az k0 ts).map nv)[0]? =aa (nv (P.az+1+k)):=by rw[BX,E_];rfl
  have Zo:=XE Jo hk0
  have Rw:(dk (P.az+1) σ.now).take k++(dk (P.az+1+k0) ts).drop (k-k0)=dk (P.az+1) (σ.now.take k++ts.drop (k-k0)):=by
   rw[Dg,DB,z_,eX,dK Zo,dU (P.az+1),gY f1]
  have e:σ.wq P k0 ts={σ with now:=σ.now.take k++ts.drop (k-k0),br:=min σ.br k,eM:=max σ.eM (min σ.sure (P.az+k0+ts.length)),b9:=P.az+k0+ts.length}:=by unfold Wd.wq Cp;rw[Jo]
  have a0:∀ {L H},L .mX=aa (.bE ((ap σ.now P.az k0 ts).map nv))->PE (aM (n+6)) L H (.idx (.aC .mX) (.int 0)) (nv (P.az+1+k)):=fun h=>gG (k:=0) (ai h) aH hg0 aew
  have a1:∀ {L H},L .mX=aa (.bE ((ap σ.now P.az k0 ts).map nv))->L .cx=aa (nv P.az)->PE (aM (n+6)) L H (.bR .sub (.bR .sub (.idx (.aC .mX) (.int 0)) (.aC .cx)) (.int 1)) (nv k):=fun h h2=>cX (c6 (j:=1) (c6 (a0 h) (ai h2) (lE [P.az,k] hJ 0x10120044000 aQ)) aH (lT [] 0x101200440102 [P.az,k] 0x110020011001103002 0x20120 aQ)) (F4 P.az k)
  have a2:∀ {L H},L .mX=aa (.bE ((ap σ.now P.az k0 ts).map nv))->L .dy=aa (nv (P.az+k0))->PE (aM (n+6)) L H (.bR .sub (.bR .sub (.idx (.aC .mX) (.int 0)) (.aC .dy)) (.int 1)) (nv (k-k0)):=fun h h2=>cX (c6 (j:=1) (c6 (a0 h) (ai h2) (cw [P.az,k0,k] bJ 0x20120044100040 0x20100 f1 aQ)) aH (gg [] 0x20004101200440103 [P.az,k,k0] 0x110110030011001101104002 0x30120 lJ f1 aQ)) (lT [] 0x201001230020004101200440303 [P.az,k,k0] 0x11000011006001900110011006012011000011006001101900190011007001100190019001100802212020110000110060011001100050220110000001100800190001101100110080220110000001100800190011001100110080221202001 0x70502 aQ)
  refine c5 (iG (ai rfl) (cG aE (bX _)) (rh 5 _)) (xX Dx) ?_
  refine iM (iV (oB (Ew (ai g7) (a1 rfl g6) (by rw[dH];exact Zo) mD) (zt (ai g4) (a2 rfl g2) (by rw[dH];exact gg [] AX [k,k0,ts.length] 0x1100011040019001101104002 tQ mn f2 aQ) (aK yM (by decide))) ?_) Rw) (ai g1) h D.lU ?_
  ·rw[eX,fJ];exact aK (fS (aK (je ..) T.nl) (aK (jc ..) yM)) (by decide)
  have D1:=D.Xc (ts:=σ.now.take k++ts.drop (k-k0))
  refine f_ (ox (bp (ai g1) aN D1.br) (a1 rfl g6)) (ai g1) D1.lU (bG (bC ?_))
  have D2:=D1.JP (i:=min σ.br k)
  refine f_ (vz (bp (ai g1) aN D2.eM) (ox (bp (ai g1) aN D2.sure) (ai g8))) (ai g1) D2.lU (f_ (ai g8) (ai g1) D2.Hm.lU (bG (bC (fin rfl rfl rfl rfl rfl ?_))))
  rw[e];exact D2.Hm.z7
end
section
variable {C:CC}{L:b5}{H:Hp}{e c d:E}{k j m:Nat}
theorem fh (p:PE C L H e (.int k)) (q:PE C L H c (.int j)) (h1:0 < j) (h2:j < 1073741824):PE C L H (.bR .fdiv e c) (.int (k / j:Nat)):=eW (ML p q (Gq.mpr h1) (sE.mpr h2)) rfl
theorem eA (p:PE C L H e (.int k)) (q:PE C L H c (.int j)) (h1:0 < j):PE C L H (.bR .mod e c) (.int (k % j:Nat)):=eW (rj p q (Gq.mpr h1)) rfl
theorem Q6 (b m c:Nat):max (b:Int) ((m:Int)-c)=((max b (m-c):Nat):Int):=by
 rcases BN c m with h |h
 ·rw[<- LQ h,Yj]
 ·rw[NJ h,xD (bX _)]
  exact TG (Int.le_trans (Int.sub_nonpos_of_le (uT.mpr h)) (gw _))
theorem Vk (p:PE C L H e (.int k)) (q:PE C L H c (.int j)) (r:PE C L H d (.int m)):PE C L H (.bc .max (.cons e (.cons (.bR .sub c d) .nil))) (.int (max k (j-m):Nat)):=eW (Qz p (jb q r)) (Q6 ..)
theorem DP {n d q:Nat} (hq:q<=2 ^ 62) (hn:n<=line):bound n d (.int q)=aa (min q n):=by
 rcases BN q n with h |h
 ·rw[dK h];exact gT rfl h hn
 ·rw[qz h]
  show Bj n q=_
  unfold Bj
  rw[a8 (by exact cw [q] 0x11011003001100030001 R0 0x400000000000000083000 hq aQ),clipAt_nat,qz h]
theorem Io {α:Type} (xs:ah α) (k q:Nat):cut xs k (min q xs.length)=cut xs k q:=by
 rcases BN q xs.length with h |h
 ·rw[dK h]
 ·rw[qz h,Nh _ (bD _),Nh _ h]
theorem Vf {lo hi:E}{xs:ah V} (p:PE C L H e (.bE xs)) (g:PE C L H lo (.int k)) (h:PE C L H hi (.int j)) (hp:k<=xs.length) (hq:j<=2 ^ 62) (hl:xs.length<=line):PE C L H (.slice ag e lo hi) (.bE (cut xs k j)):=fun Q X z=>p _ _ (g _ _ (h _ _
 ⟨k,min j xs.length,hl,gT rfl hp hl,DP hq hl,aK (gj _ _ _) hl,by rw[Io];exact z⟩))
end
section
variable {n:Nat}{H:Hp}{Q:PV}{X:PX}{wa:ax}{fs:ah (Nm×V)}{P:iJ}{a:Ad}{σ:Wd}
theorem wD.same {τ:Wd} (G:wD P H a σ) (e1:τ.F=σ.F) (e2:τ.aX=σ.aX) (e3:τ.bV=σ.bV) (e4:τ.bu=σ.bu) (e5:τ.lg P=σ.lg P):wD P H a τ:=
 ⟨by rw[e1];exact G.J,by rw[e2];exact G.E,by rw[e3];exact G.A,by rw[e4];exact G.S,by rw[e5];exact G.L,G.d1,G.d2,G.d3,G.d4,G.d5,G.d6⟩
noncomputable def Wd.rest (P:iJ) (σ:Wd) (r:Nat):Wd:=if σ.fits (σ.place P r) then σ.wq P (σ.place P r) (σ.Ep (σ.place P r) r) else σ
theorem Inv.ld9 {c:Nat} (I:Inv P σ c):σ.bh.length<=25:=by have:=I.ld;have:=I.cc;exact fw [σ.bh.length,c] 0x21011011030 0x1913000 lI 0xb2100 (by assumption) this aQ
theorem Inv.UM {c:Nat} (hP:P.Ok) (I:Inv P σ c){t:Nat} (h:t<=σ.b8):t < 2 ^ 32:=by have:=I.t2;have:=I.cc;have:=hP.t2;exact Y4 [t,σ.b8,P.bt,c] 0x11021011011011050 og dO 0x300215122044100 0xb2300 0xc35023200 h (by assumption) (by assumption) this aQ
theorem GZ {L:b5}{r c:Nat}{X:fk} (hP:P.Ok) (T:jh P H wa fs a σ) (I:Inv P σ c) (g1:L .xw=aa (.ref wa)) (g2:L .xr=aa (nv r)) (g3:L .cx=aa (nv P.az)) (g4:L .ji=aa (.bE (dk (P.az+1) σ.bh))) (g5:L .xlast=aa (nv (P.az+σ.bh.length))):
  wSs (aM (n+6)) ag qL L H (fun o L1 H1=>o=.ret (.bool ag)/\∃ fs',jh P H1 wa fs' a (σ.rest P r)) X:=by
 have D:=T.D
 have h:=T.at_
 have Px:=I.ld9
 have Pw:=I.place r
 have lP:(dk (P.az+1) σ.bh).length<=25:=by rw[dH];exact Px
 have u3:=aK lP (show 25<=line by decide)
 have MZ:=aK T.nl (show 400<=line by decide)
 have hpd:max P.az (min (P.az+σ.bh.length) (P.az+σ.now.length+r / 35 % 6 / 5)-r / 7 % 4)=P.az+σ.place P r:=(gY (TB ..)).symm
 have hm3:r / 5 % 3 < 3:=dD _ (by decide)
 have ON:cut (dk (P.az+1) σ.bh) (σ.place P r) (σ.place P r+(1+r / 5 % 3))=dk (P.az+1+σ.place P r) (σ.Ep (σ.place P r) r):=Im ..
 have yM:(σ.Ep (σ.place P r) r).length<=25:=aK (gj ..) Px
 have lW:∀ t∈σ.Ep (σ.place P r) r,t < 2 ^ 32:=fun t ht=>I.UM hP (I.lt t (Ng ht))
 have hsb:∀ {k L H},L .cx=aa (nv P.az)->L .dy=aa (nv (P.az+k))->PE (aM (n+6)) L H (.bR .sub (.aC .dy) (.aC .cx)) (nv k):=fun h1 h2=>cX (c6 (ai h2) (ai h1) (fu ..)) (pX ..)
 have key:∀ {L':b5}{t:Nat},L' .xw=aa (.ref wa)->L' .dy=aa (nv (P.az+σ.place P r))->L' .bO=aa (nv t)->L' .pv=aa (.bE (dk (P.az+1+σ.place P r) (σ.Ep (σ.place P r) r)))->L' .mA=aa (nv (P.az+σ.now.length))->L' .cx=aa (nv P.az)->L' .ip=aa (.bE (dk (P.az+1) σ.now))->L' .fY=aa (nv (P.az+σ.place P r+(σ.Ep (σ.place P r) r).length))->(σ.place P r=0->t=P.bt)->(σ.place P r≠0->σ.bh[σ.place P r-1]? =aa t)->
   wSs (aM (n+6)) ag kQ L' H (fun o L1 H1=>o=.ret (.bool ag)/\∃ fs',jh P H1 wa fs' a (σ.rest P r)) X:=fun k1 k2 k3 k4 k5 k6 k7 k8 k9 k10=>
  Ee T k1 k2 k3 k4 k5 k6 k7 k8 (aK (fS (aK Pw Px) yM) (by decide)) lW (aK hP.b2 (by decide)) (fun hf k hk=>((I.fit r hf).1 k hk).1) k9 k10
 refine aR (bp (ai g1) h D.now) (aR (cS (ai g3) (cX (eY (ai rfl) MZ) (dH ..))) ?_)
 refine aR (cX (Vk (ai g3) (ox (ai g5) (cS (ai rfl) (fh (j:=5) (eA (j:=6) (fh (j:=35) (ai g2) aH (by decide) (by decide)) aH (by decide)) aH (by decide) (by decide)))) (eA (j:=4) (fh (j:=7) (ai g2) aH (by decide) (by decide)) aH (by decide))) hpd) ?_
 generalize σ.place P r=pl at*
 refine aR (iV (Vf (ai g4) (hsb g3 rfl) (cX (cS (dM (hsb g3 rfl)) (eA (j:=3) (fh (j:=5) (ai g2) aH (by decide) (by decide)) aH (by decide))) (dU ..)) (by rw[dH];exact Pw) (EU [] 0x31303051103203 [pl,r,σ.bh.length] ye 0x400000000000000083601240040 0x1913200 0x32601 pO Px hm3 Pw aQ) u3) ON) ?_
 refine aR (cS (ai rfl) (cX (eY (ai rfl) (by rw[dH];exact aK yM (by decide))) (dH ..))) (aR (bp (ai g1) h D.bt) ?_)
 by_cases hz:pl=0
 ·exact bK (fo (ai rfl) (ai g3)) (cb (by rw[hz];exact sG _)) (key g1 rfl rfl rfl rfl g3 rfl rfl (fun _=>rfl) (fun q=>(q hz).elim))
 ·have yO:=GA hz
  obtain⟨u,hu⟩:∃ u,σ.bh[pl-1]? =aa u:=⟨_,lK (ma (F_ yO Nat.one_pos) Pw)⟩
  exact c5 (fo (ai rfl) (ai g3)) (dC (NK yO)) (aR (zu (gG (k:=pl-1) (ai g4) (c6 (j:=1) (hsb g3 rfl) aH yO) (pC hu) u3)) (bG (bC (key g1 rfl rfl rfl rfl g3 rfl rfl (fun q=>(hz q).elim) (fun _=>hu)))))
theorem Sa (m:Nat) (h:m < 4):([.int 0,.int 1,.int 0,.int 2]:ah V)[m]? =aa (nv (if m=1 then 1 else if m=3 then 2 else 0)):=by
 match m,h with
 | 0,_=>rfl
 | 1,_=>rfl
 | 2,_=>rfl
 | 3,_=>rfl
theorem xV {L:b5}{r c:Nat}{X:fk}{bh:ah Nat} (hP:P.Ok) (T:jh P H wa fs a σ) (hl:bh.length<=300) (hs:σ.sure<=200000)
  (I:Inv P {σ with bh:=bh,sure:=min (P.az+bh.length) (σ.sure+bump r)} c) (g1:L .xw=aa (.ref wa)) (g2:L .xr=aa (nv r)) (g3:L .cx=aa (nv P.az)) (g4:L .ji=aa (.bE (dk (P.az+1) bh))):
  wSs (aM (n+6)) ag qM L H (fun o L1 H1=>o=.ret (.bool ag)/\∃ fs',jh P H1 wa fs' a (Wd.rest P {σ with bh:=bh,sure:=min (P.az+bh.length) (σ.sure+bump r)} r)) X:=by
 have D:=T.D
 have lP:(dk (P.az+1) bh).length<=line:=by rw[dH];exact aK hl (by decide)
 have D1:=D.Qi (ts:=bh)
 have aca:∀ {L H},L .xr=aa (nv r)->PE (aM (n+6)) L H (.idx (.list ag (.cons (.int 0) (.cons (.int 1) (.cons (.int 0) (.cons (.int 2) .nil))))) (.bR .mod (.bR .fdiv (.aC .xr) (.int 24)) (.int 4))) (nv (bump r)):=fun h=>gG (cG (aq aH (aq aH (aq aH (aq aH aE)))) (aT rfl)) (eA (j:=4) (fh (j:=24) (ai h) aH (by decide) (by decide)) aH (by decide)) (Sa _ (dD _ (by decide))) (aT rfl)
 refine iM (ai g4) (ai g1) T.at_ D.lU (aR (cS (ai g3) (cX (eY (ai g4) lP) (dH ..))) ?_)
 refine f_ (ox (ai rfl) (cS (bp (ai g1) aN D1.sure) (aca g2))) (ai g1) D1.lU ?_
 exact GZ hP ⟨aN,D1.YK,wD.same (σ:=σ) (T.G.Z6 T) rfl rfl rfl rfl rfl⟩ I g1 g2 g3 g4 rfl
theorem Fy {r c:Nat} (hP:P.Ok) (T:jh P H wa fs a σ) (I:Inv P σ c) (hc:c<=10) (q:∀ H' fs',jh P H' wa fs' a (σ.append P r)->Q (.bool ag) H'):aM (n+7) .ny [.ref wa,nv r] H Q X:=by
 have D:=T.D
 have h:=T.at_
 obtain⟨I1,j1,j2,j3,j4,j5⟩:=I.bh hc r
 have Px:=I.ld9
 have AM:=hP.b2
 have s1:=I.s1
 have s2:=I.s2
 have mD:(dk (P.az+1) σ.bh).length<=25:=by rw[dH];exact Px
 have abX:=aK mD (show 25<=line by decide)
 have Rq:σ.sure<=200000:=aK s2 (aK (fS AM Px) (by decide))
 have Dw:∀ {L:b5}{H1:Hp},(∃ fs',jh P H1 wa fs' a (Wd.rest P (σ.mm P r) r))->Q (.bool ag) H1:=fun⟨fs',T'⟩=>q _ fs' T'
 have hlen:(ents (P.az+1) σ.bh).length<=25:=by rw[fi];exact Px
 refine bA rfl (aR (bp (ai rfl) h D.az) (aR (bp (ai rfl) h D.bh) (aR (cS (ai rfl) (cX (eY (ai rfl) abX) (dH ..))) ?_)))
 by_cases h3:r % 3=0
 ·have e0:σ.vG P r={σ with b8:=σ.b8+(1+r / 60 % 2),bh:=σ.bh.take (σ.cutAt P r)++List.replicate (1+r / 12 % 2) (σ.b8+(1+r / 60 % 2))}:=a8 h3
  rw[Wd.mm,e0] at I1 Dw
  have Rt:r / 3 % (P.az+σ.bh.length-σ.sure+1) < P.az+σ.bh.length-σ.sure+1:=dD _ (sC _)
  have Zy:P.az+σ.bh.length-r / 3 % (P.az+σ.bh.length-σ.sure+1)=P.az+σ.cutAt P r:=by
   show _=P.az+(σ.bh.length-r / 3 % (P.az+σ.bh.length-σ.sure+1))
   exact nl4 [] 0x301000402010020100040305 [P.az,σ.bh.length,r / 3 % (P.az+σ.bh.length-σ.sure+1),σ.sure,Wd.cutAt P σ r] 0x1100110000008001101900110000009001100190011000000a012020110000001101100900190001100110110000a02201101900110000009001100190011000000a00212001 0x70004502 0x40004300 0x10400 rK 0x12904201 j4 j5 s1 Rt aQ
  have Xu:r / 12 % 2 < 2:=dD _ (by decide)
  have Zg:σ.b8+(1+r / 60 % 2) < 2 ^ 32:=by have:=I.UM hP (bD _);have:=I.t2;have:=I.cc;have:=hP.t2;exact EU [] 0x214033c1103204 [σ.b8,r,c,P.bt] 0x11001101102101106012 0x10000000053701240041 0xa2200 0x200215123044000 0xc35023300 hc (by assumption) this aQ
  have D1:=D.YJ (i:=σ.b8+(1+r / 60 % 2))
  refine c5 (fF (eA (j:=3) (ai rfl) aH (by decide)) aH) (dC h3) ?_
  refine aR (cX (c6 (ai rfl) (eA (fh (j:=3) (ai rfl) aH (by decide) (by decide)) (dM (c6 (ai rfl) (bp (ai rfl) h D.sure) s2)) (sC _)) (gg [] 0x30201040104 [r / 3 % (P.az+σ.bh.length-σ.sure+1),P.az,σ.bh.length,σ.sure] 0x110011011040019001101104002 oI 0x12404001 Rt aQ)) Zy) ?_
  refine Om (ai rfl) h D.b8 (cS (k:=1) aH (eA (j:=2) (fh (j:=60) (ai rfl) aH (by decide) (by decide)) aH (by decide))) D.lU ?_
  have Rw:(dk (P.az+1) σ.bh).take (σ.cutAt P r)++(ents (P.az+1+σ.cutAt P r) (List.replicate (1+r / 12 % 2) (σ.b8+(1+r / 60 % 2)))).map En.row=dk (P.az+1) (σ.bh.take (σ.cutAt P r)++List.replicate (1+r / 12 % 2) (σ.b8+(1+r / 60 % 2))):=by
   rw[Dg,z_,eX,dK j5];rfl
  have lP:((ents (P.az+1+σ.cutAt P r) (List.replicate (1+r / 12 % 2) (σ.b8+(1+r / 60 % 2)))).map En.row).length<=2:=by rw[cF,fi,nP];exact lT [] 0x211030c1003201 [r] DH 0x22401240 aQ
  have hk:∀ {L:b5},L .xw=aa (.ref wa)->PE (aM (n+6)) L (H.set wa (.i_ (cL fs .bO (nv (σ.b8+(1+r / 60 % 2)))))) (.key (.aC .xw) .bO) (nv (σ.b8+(1+r / 60 % 2))):=fun h=>bp (ai h) aN iq
  refine aR (iV (oB (Ew (k:=σ.cutAt P r) (ai rfl) (cX (c6 (ai rfl) (ai rfl) (fu ..)) (pX ..)) (by rw[dH];exact j5) abX) (eF (aq (hk rfl) (aq (cX (i:=P.az+1+σ.cutAt P r) (dM (ai rfl)) (iD ..)) (aq (cS (k:=1) aH (eA (j:=2) (fh (j:=12) (ai rfl) aH (by decide) (by decide)) aH (by decide))) aE))) fun _ _ q=>uK Zg (GR [P.az,Wd.cutAt P σ r,σ.bh.length] ye 0x10000000053101200441 0x20100 0x1913200 vT j5 Px AM aQ) (lT [] 0x211030c1003201 [r] DH 0x3e823401240 aQ) q) ?_) Rw) (bG (bC ?_))
  ·exact aK (fS (aK (by rw[eX];exact je ..) mD) lP) (by decide)
  refine dG (dj _) _ ?_ (fun _ _ _ h=>h) (xV hP ⟨aN,D1,wD.same (σ:=σ) (T.G.Z6 T) rfl rfl rfl rfl rfl⟩ ?_ Rq I1 rfl rfl rfl rfl)
  ·rintro o L1 H1 ⟨rfl,hT⟩
   exact Dw (L:=L1) hT
  ·rw[bN,eX,nP]
   exact aK (fS (aK (je ..) Px) (dX (fH Xu) 1)) (by decide)
 ·have e0:σ.vG P r={σ with bh:=σ.bh++List.replicate (r / 12 % 2+r % 3-1) σ.b8}:=bb h3
  rw[Wd.mm,e0] at I1 Dw
  have Xu:r / 12 % 2 < 2:=dD _ (by decide)
  have hm3:r % 3 < 3:=dD _ (by decide)
  have hc3:r / 12 % 2+r % 3-1<=2:=by exact lT [] 0x126040400310030211030c1003401 [r] 0x1100000011070019001100110011070322212 0x22700 aQ
  refine mi (fF (eA (j:=3) (ai rfl) aH (by decide)) aH) (cb h3) ?_
  have Rw:dk (P.az+1) σ.bh++(ents (P.az+1+σ.bh.length) (List.replicate (r / 12 % 2+r % 3-1) σ.b8)).map En.row=dk (P.az+1) (σ.bh++List.replicate (r / 12 % 2+r % 3-1) σ.b8):=(z_ ..).symm
  have lP:((ents (P.az+1+σ.bh.length) (List.replicate (r / 12 % 2+r % 3-1) σ.b8)).map En.row).length<=2:=by rw[cF,fi,nP];exact hc3
  refine aR (iV (oB (ai rfl) (eF (aq (bp (ai rfl) h D.b8) (aq (cX (i:=P.az+1+σ.bh.length) (dM (ai rfl)) (iD ..)) (aq (c6 (j:=1) (cS (eA (j:=2) (fh (j:=12) (ai rfl) aH (by decide) (by decide)) aH (by decide)) (eA (j:=3) (ai rfl) aH (by decide))) aH (gg [] 0x310030211030c1003301 [r] 0x1100011040011000040021011 0x60404120 0x26026 h3 aQ)) aE))) fun _ _ q=>uK (I.UM hP (bD _)) (fw [P.az,σ.bh.length] eI 0x10000000053101200441 0x1913100 vT Px AM aQ) (aK hc3 (by decide)) q) (aK (fS mD lP) (by decide))) Rw) (bG (bC ?_))
  refine dG (dj _) _ ?_ (fun _ _ _ h=>h) (xV hP T ?_ Rq I1 rfl rfl rfl rfl)
  ·rintro o L1 H1 ⟨rfl,hT⟩
   exact Dw (L:=L1) hT
  ·rw[bN,nP]
   exact aK (fS Px hc3) (by decide)
end
noncomputable def tF (P:iJ) (now:ah Nat) (l:ah (Nat×Nat)):ah (Nat×Nat):=l.filter fun p=>decide (now[p.1-P.az-1]? =aa p.2)
noncomputable def Wd.saved (P:iJ) (σ:Wd) (F:ah aA) (aX:ah Nat) (hd:Hd):Wd:=
 {σ with F:=F,aX:=aX,bu:=σ.bu++[⟨F.length,σ.now,hd⟩],gJ:=σ.now,br:=σ.now.length,bV:=tF P σ.now σ.bV}
noncomputable def Wd.sync (P:iJ) (σ:Wd):Wd:=
 {σ with synced:=σ.F.length,bV:=(if P.az < σ.b9/\σ.b9<=P.az+σ.now.length then σ.bV++[(σ.b9,σ.now.getD (σ.b9-P.az-1) 0)] else σ.bV)}
section
variable {P:iJ}{σ:Wd}{c:Nat}
theorem Inv.saved (I:Inv P σ c) (hc:c<=10){F:ah aA}{aX:ah Nat}{hd:Hd}{cg:ah Rc} (J:Jn P cg F aX (σ.bu++[⟨F.length,σ.now,hd⟩]) σ.synced σ.now []) (hr:cg.length<=25*(c+2)) (hF:F.length<=75000*(c+2))
  (h1:hd.t=σ.b8) (h2:hd.v < 300) (h3:hd.c=σ.eM):Inv P (σ.saved P F aX hd) (c+1):=by
 have nw:=I.nw
 refine⟨by exact cw [c] bJ 0xb2120040 0xa2000 hc aQ,⟨cg,J,hr⟩,hF,by have:=I.ld;show σ.bh.length<=_;exact cw [σ.bh.length,c] bJ rJ lI this aQ,by show σ.now.length<=_;exact cw [σ.now.length,c] bJ rJ lI nw aQ,I.t1,by have:=I.t2;show σ.b8<=_;exact cw [σ.b8,P.bt,c] bJ 0x122040215121044000 0x200215121044000 this aQ,I.lt,I.s1,I.s2,I.safe,?_,?_,?_,?_,by have:=I.new;show σ.b9<=_;exact cw [σ.b9,P.az,c] bJ 0x122040215321044000 0x200215321044000 this aQ⟩
 ·intro s hs
  rcases iS.mp hs with hs |hs
  ·obtain⟨g1,g2,g3,g4⟩:=I.sv s hs
   exact⟨g1,by exact cw [s.rows.length,c] bJ rJ lI g2 aQ,g3,g4⟩
  ·have hs:=eT.mp hs
   subst hs
   exact⟨by rw[show(⟨F.length,σ.now,hd⟩:Sv).hd.c=σ.eM from h3];exact I.safe,by show σ.now.length<=_;exact cw [σ.now.length,c] bJ rJ lI nw aQ,by show hd.t<=σ.b8;exact cw [hd.t,σ.b8] bJ dO pS h1 aQ,h2⟩
 ·intro p hp
  obtain⟨hp1,hp2⟩:=nT.mp hp
  obtain⟨g1,g2⟩:=I.Jt p hp1
  refine⟨g1,fun s hs he=>?_⟩
  rcases iS.mp hs with hs |hs
  ·exact g2 s hs he
  ·have hs:=eT.mp hs
   subst hs
   simpa using hp2
 ·have:(tF P σ.now σ.bV).length<=σ.bV.length:=t8 _ _
  have:=I.Uq
  show(tF P σ.now σ.bV).length<=_;exact fw [(tF P σ.now σ.bV).length,c,σ.bV.length] eI pR pO lJ (by assumption) this aQ
 ·have:=I.Mu
  show(σ.bu++[_]).length<=_
  simp;exact cw [σ.bu.length,c] bJ pR pR this aQ
theorem Inv.sync (I:Inv P σ c){s0:ah Sv}{hd:Hd} (hs:σ.bu=s0++[⟨σ.F.length,σ.now,hd⟩]) (ha:∀ p∈σ.bV,σ.now[p.1-P.az-1]? =aa p.2) (hl:∀ s∈s0,s.e < σ.F.length) (hk:σ.bV.length+1<=c):Inv P (σ.sync P) c:=by
 obtain⟨cg,J,hr⟩:=I.jn
 refine⟨I.cc,⟨cg,J.sync J.sf (bD _) ⟨⟨σ.F.length,σ.now,hd⟩,by rw[hs];simp,rfl⟩,hr⟩,I.fl,I.ld,I.nw,I.t1,I.t2,I.lt,I.s1,I.s2,I.safe,I.sv,?_,?_,I.Mu,I.new⟩
 ·have key:∀ p:Nat×Nat,P.az < p.1->σ.now[p.1-P.az-1]? =aa p.2->P.az < p.1/\∀ s∈σ.bu,σ.F.length<=s.e->s.rows[p.1-P.az-1]? =aa p.2:=by
   intro p h1 h2
   refine⟨h1,fun s h3 h4=>?_⟩
   rw[hs] at h3
   rcases iS.mp h3 with h3 |h3
   ·have:=hl s h3;exact(fw [σ.F.length,s.e] AY 11 dO 257 h4 this aQ:False).elim
   ·have h3:=eT.mp h3
    subst h3
    exact h2
  intro p hp
  have hp:p∈(if P.az < σ.b9/\σ.b9<=P.az+σ.now.length then σ.bV++[(σ.b9,σ.now.getD (σ.b9-P.az-1) 0)] else σ.bV):=hp
  split at hp
  ·rename_i hc
   rcases iS.mp hp with hp |hp
   ·exact key p (I.Jt p hp).1 (ha p hp)
   ·have hp:=eT.mp hp
    subst hp
    refine key _ hc.1 ?_
    show σ.now[σ.b9-P.az-1]? =aa (σ.now.getD (σ.b9-P.az-1) 0)
    rw[Ph,lK (by exact gg [] 0x1230010000203 [σ.b9,P.az,σ.now.length] 0x11001100050011011000110007001900190011000110801202011 0x20501 0x20104000001017 hc aQ)];rfl
  ·exact key p (I.Jt p hp).1 (ha p hp)
 ·show(if P.az < σ.b9/\σ.b9<=P.az+σ.now.length then σ.bV++[(σ.b9,σ.now.getD (σ.b9-P.az-1) 0)] else σ.bV).length<=c
  split<;>(try simp)<;>lia
end
section
variable {n:Nat}{H:Hp}{Q:PV}{X:PX}{wa:ax}{fs:ah (Nm×V)}{P:iJ}{a:Ad}{σ:Wd}
theorem wD.ne (G:wD P H a σ):(a.wr≠a.f/\a.wr≠a.e/\a.wr≠a.ak/\a.wr≠a.sv/\a.wr≠a.st/\a.wr≠a.lg/\a.wr≠a.un)/\(a.f≠a.st/\a.f≠a.lg/\a.f≠a.un)/\(a.e≠a.st/\a.e≠a.lg/\a.e≠a.un)/\(a.ak≠a.st/\a.ak≠a.lg/\a.ak≠a.un)/\(a.sv≠a.st/\a.sv≠a.lg/\a.sv≠a.un):=by
 obtain⟨ps,w2,_⟩:=G.J.fl
 obtain⟨x,y,z,uB⟩:=G.L.st
 have w1:=G.J.at_
 have k:∀ {c:ax}{xs:ah V},H c=aa (.bE xs)->c≠a.st/\c≠a.lg/\c≠a.un:=fun h=>⟨aZ h uB nofun,aZ h G.L.lg nofun,aZ h G.L.un nofun⟩
 exact⟨⟨aZ w1 w2 nofun,aZ w1 G.E nofun,aZ w1 G.A nofun,aZ w1 G.S nofun,aZ w1 uB nofun,aZ w1 G.L.lg nofun,aZ w1 G.L.un nofun⟩,k w2,k G.E,k G.A,k G.S⟩
theorem jh.jat (T:jh P H wa fs a σ):D9 H wa fs a.f a.e a.wr P.B σ.F σ.aX:=⟨T.at_,T.D.writer,T.D.aX,T.G.J,T.G.E,T.G.d1⟩
theorem jy.same {τ:Wd} (D:jy P fs a σ) (e1:τ.cuts=σ.cuts) (e2:τ.b8=σ.b8) (e3:τ.bh=σ.bh) (e4:τ.sure=σ.sure) (e5:τ.now=σ.now) (e6:τ.eM=σ.eM) (e7:τ.app=σ.app) (e8:τ.br=σ.br) (e9:τ.b9=σ.b9) (e10:τ.synced=σ.synced):jy P fs a τ:=
 ⟨D.len,D.B,D.az,D.bt,D.kO,by rw[e1];exact D.cuts,by rw[e2];exact D.b8,by rw[e3];exact D.bh,by rw[e4];exact D.sure,by rw[e5];exact D.now,by rw[e6];exact D.eM,by rw[e7];exact D.app,by rw[e8];exact D.br,by rw[e9];exact D.b9,D.bV,D.file,D.aX,D.writer,by rw[e10];exact D.synced,D.bu,D.fB,D.log⟩
theorem jh.put {H':Hp}{F:ah aA}{aX:ah Nat} (T:jh P H wa fs a σ) (J:D9 H' wa fs a.f a.e a.wr P.B F aX) (k:gZ [a.wr,a.f,a.e] H H'):jh P H' wa fs a {σ with F:=F,aX:=aX}:=by
 obtain⟨⟨n1,n2,n3,n4,n5,n6,n7⟩,⟨m1,m2,m3⟩,⟨l1,l2,l3⟩,_,_⟩:=T.G.ne
 have G:=T.G
 obtain⟨x,y,z,uB⟩:=G.L.st
 exact⟨J.at_,T.D.same rfl rfl rfl rfl rfl rfl rfl rfl rfl rfl,⟨J.W,J.E,k _ _ (Ax n3.symm G.d2.symm G.d4.symm) G.A,k _ _ (Ax n4.symm G.d3.symm G.d5.symm) G.S,⟨k _ _ (Ax n6.symm m2.symm l2.symm) G.L.lg,⟨x,y,z,k _ _ (Ax n5.symm m1.symm l1.symm) uB⟩,k _ _ (Ax n7.symm m3.symm l3.symm) G.L.un,G.L.ok⟩,G.d1,G.d2,G.d3,G.d4,G.d5,G.d6⟩⟩
theorem Nr {r:ah aA} (hP:P.Ok) (T:jh P H wa fs a σ) (hr:r.length<=100) (hF:σ.F.length<=900000) (he:σ.aX.length<=100000)
  (q:∀ H' bs,Frs P.B σ.F.length ao r bs->jh P H' wa fs a {σ with F:=σ.F++bs,aX:=σ.aX++[(σ.F++bs).length]}->Q .none H'):aM (n+5) .mC [.ref wa,.bytes r] H Q X:=
 DM T.jat ⟨hP.B1,hP.B2⟩ hr hF he fun H' bs h1 h2 h3=>q H' bs h1 (T.put h2 h3)
theorem K5 {p t:Nat} (T:jh P H wa fs a σ) (hp:P.az < p) (hn:σ.now.length<=400) (q:Q (.bool (decide (σ.now[p-P.az-1]? =aa t))) H):aM (n+1) .HV [.ref wa,.int p,.int t] H Q X:=by
 have D:=T.D
 have mD:=aK T.nl (show 400<=line by decide)
 have hlen:∀ {L},L .xw=aa (.ref wa)->PE (aM n) L H (.bc .len (.cons (.key (.aC .xw) .ip) .nil)) (nv σ.now.length):=fun h=>cX (eY (bp (ai h) T.at_ D.now) mD) (dH ..)
 refine bA rfl (aR (c6 (j:=1) (c6 (ai rfl) (bp (ai rfl) T.at_ D.az) (fH hp)) aH (BW hp)) ?_)
 by_cases hc:p-P.az-1 < σ.now.length
 ·obtain⟨u,hu⟩:∃ u,σ.now[p-P.az-1]? =aa u:=⟨_,lK hc⟩
  rw[hu] at q
  exact cy (gF (a9 (dJ (gq (j:=0) (ai rfl) aH) (cb (Gm _)) (cP (a9 (dJ (gq (ai rfl) (hlen rfl)) (dC hc) (cP (fF (zu (gG (bp (ai rfl) T.at_ D.now) (ai rfl) (pC hu) mD)) (ai rfl)))))))) (aW Vx.bool (kW.mpr ⟨aW aa,eS⟩))) q
 ·rw[BF (iC hc),dW nofun] at q
  exact cy (gF (a9 (dJ (gq (j:=0) (ai rfl) aH) (cb (Gm _)) (cP (a9 (jl (gq (ai rfl) (hlen rfl)) (cb hc)))))) (aW Vx.bool (dW hc))) q
end
section
variable {n:Nat}{H:Hp}{Q:PV}{X:PX}{wa:ax}{fs:ah (Nm×V)}{P:iJ}{a:Ad}{σ:Wd}
theorem QE {C:CC}{L:b5}{e c d:E}{k j m:Nat} (p:PE C L H e (.int k)) (q:PE C L H c (.int j)) (r:PE C L H d (.int m)):PE C L H (.KN e .lt c .le d) (.bool (decide (k < j/\j<=m))):=fun Q X z=>p _ _ (q _ _ (i2 (by
 show cond (decide ((k:Int) < j)) _ _
 by_cases h:k < j
 ·rw[c9 (sE.mpr h)]
  refine r _ _ (i2 ?_)
  show Q (.bool (decide ((j:Int)<=m))) H
  rw[kW.mpr (show(j:Int)<=m↔(k < j/\j<=m) from uT.trans ⟨fun x=>⟨h,x⟩,fun x=>x.2⟩)];exact z
 ·rw[dW fun e=>h (sE.mp e)]
  rw[dW fun e=>h e.1] at z;exact z)))
abbrev tH (P:iJ) (wa:ax) (c:Nat):PO:=fun o _ H1=>o=.ret (.bool ag)/\∃ fs' a' τ,Inv P τ c/\jh P H1 wa fs' a' τ
theorem jh.ad4 {b:ax}{xs:ah V} (T:jh P H wa fs a σ) (hb:H b=au):jh P (H.set b (.bE xs)) wa fs a σ:=T.more (iB hb)
theorem wD.abc {l:ah (Nat×Nat)} (G:wD P H a σ):wD P (H.set a.ak (.bE (l.map zf))) a {σ with bV:=l}:=by
 obtain⟨⟨m1,m2,m3,m4,m5,m6,m7⟩,_,_,⟨j1,j2,j3⟩,_⟩:=G.ne
 have kp:gZ [a.ak] H (H.set a.ak (.bE (l.map zf))):=dS (d7 _) (.head _)
 obtain⟨x,y,z,uB⟩:=G.L.st
 exact⟨G.J.keep kp (gp m3) (gp G.d2),kp _ _ (gp G.d4) G.E,aN,kp _ _ (gp G.d6.symm) G.S,⟨kp _ _ (gp j2.symm) G.L.lg,⟨x,y,z,kp _ _ (gp j1.symm) uB⟩,kp _ _ (gp j3.symm) G.L.un,G.L.ok⟩,G.d1,G.d2,G.d3,G.d4,G.d5,G.d6⟩
theorem JA {L:b5}{c r:Nat}{X:fk}{s0:ah Sv}{hd:Hd} (hP:P.Ok) (T:jh P H wa fs a σ) (I:Inv P σ c) (g1:L .xw=aa (.ref wa)) (g2:L .xr=aa (nv r)) (hs:σ.bu=s0++[⟨σ.F.length,σ.now,hd⟩]) (ha:∀ p∈σ.bV,σ.now[p.1-P.az-1]? =aa p.2) (hl:∀ s∈s0,s.e < σ.F.length) (hk:σ.bV.length+1<=c):
  wSs (aM (n+5)) ag rV L H (tH P wa c) X:=by
 have D:=T.D
 have h:=T.at_
 have mD:=aK T.nl (show 400<=line by decide)
 by_cases hr:r % 2=0
 case neg=>exact bK (fF (eA (j:=2) (ai g2) aH (by decide)) aH) (cb hr) (cy fG ⟨rfl,fs,a,σ,I,T⟩)
 have I2:=I.sync hs ha hl hk
 have D2:=D.z6 (i:=σ.F.length)
 have G2:=T.G.Z6 (fs':=cL fs .iF (nv σ.F.length)) T
 refine c5 (fF (eA (j:=2) (ai g2) aH (by decide)) aH) (dC hr) (iM (aP (bp (ai g1) h D.writer) T.G.J.at_ rfl) (ai g1) h D.lU ?_)
 have hlen:PE (aM (n+5)) L (H.set wa (.i_ (cL fs .iF (nv σ.F.length)))) (.bc .len (.cons (.key (.aC .xw) .ip) .nil)) (nv σ.now.length):=cX (eY (bp (ai g1) aN D2.now) mD) (dH ..)
 have hc:=QE (bp (ai g1) aN D2.az) (bp (ai g1) aN D2.b9) (cS (bp (ai g1) aN D2.az) hlen)
 by_cases c1:P.az < σ.b9/\σ.b9<=P.az+σ.now.length
 ·have Zz:=c1.1
  have AM:σ.b9-P.az-1 < σ.now.length:=by exact gg [] 0x1230010000203 [σ.b9,P.az,σ.now.length] 0x11001100050011011000110007001900190011000110801202011 0x20501 0x20104000001017 c1 aQ
  obtain⟨u,hu⟩:∃ u,σ.now[σ.b9-P.az-1]? =aa u:=⟨_,lK AM⟩
  have hud:σ.now.getD (σ.b9-P.az-1) 0=u:=by rw[Ph,hu];rfl
  have es:(σ.sync P)={σ with synced:=σ.F.length,bV:=σ.bV++[(σ.b9,u)]}:=by unfold Wd.sync;rw[a8 c1,hud]
  rw[es] at I2
  have Jq:(σ.bV.map zf).length < line:=by rw[cF];exact ma hk (aK I.cc (by decide))
  refine c5 hc (dC c1) (bo (oW (bp (ai g1) aN D2.bV) G2.A (dw (aq (bp (ai g1) aN D2.b9) (aq (zu (gG (bp (ai g1) aN D2.now) (c6 (j:=1) (c6 (bp (ai g1) aN D2.b9) (bp (ai g1) aN D2.az) (fH Zz)) aH (BW Zz)) (pC hu) mD)) aE)) (aT rfl)) Jq ⟨rfl,bG (bC (bG (bC (cy fG ⟨rfl,_,a,_,I2,?_,D2.same rfl rfl rfl rfl rfl rfl rfl rfl rfl rfl,?_⟩))))⟩))
  ·obtain⟨n1,n2,n3,n4,n5,n6,n7,n8⟩:=T.ne
   exact bZ n4 aN
  ·have:=G2.abc (l:=σ.bV++[(σ.b9,u)])
   rw[f6] at this
   exact this.same rfl rfl rfl rfl rfl
 ·have es:(σ.sync P)={σ with synced:=σ.F.length,bV:=σ.bV}:=by unfold Wd.sync;rw[bb c1]
  rw[es] at I2
  exact bK hc (cb c1) (bG (bC (cy fG ⟨rfl,_,a,_,I2,aN,D2,G2.same rfl rfl rfl rfl rfl⟩)))
end
section
variable {n:Nat}{H:Hp}{Q:PV}{X:PX}{wa:ax}{fs:ah (Nm×V)}{P:iJ}{a:Ad}{σ:Wd}
theorem Us (P:iJ) (now:ah Nat) (l:ah (Nat×Nat)):l.filterMap (fun p=>if now[p.1-P.az-1]? =aa p.2 then aa (zf p) else au)=(tF P now l).map zf:=by
 induction l with
 |nil=>rfl
 |cons p l ih=>
  by_cases h:now[p.1-P.az-1]? =aa p.2
  ·have e:tF P now (p::l)=p::tF P now l:=Ye (c9 h)
   rw[e]
   exact(NL (f:=fun p:Nat×Nat=>if now[p.1-P.az-1]? =aa p.2 then aa (zf p) else au) (a8 h)).trans (aW (_:: ·) ih)
  ·have e:tF P now (p::l)=tF P now l:=Yd (by rw[dW h];nofun)
   rw[e]
   exact(Tp (f:=fun p:Nat×Nat=>if now[p.1-P.az-1]? =aa p.2 then aa (zf p) else au) (bb h)).trans ih
theorem wD.nea (G:wD P H a σ) (h:H wa=aa (.i_ fs)):∀ c∈[wa],c≠a.f/\c≠a.e/\c≠a.wr/\c≠a.ak/\c≠a.sv/\c≠a.st/\c≠a.lg/\c≠a.un:=by
 obtain⟨ps,w2,_⟩:=G.J.fl
 obtain⟨x,y,z,uB⟩:=G.L.st
 intro c hc
 rw[eT.mp hc]
 exact⟨aZ h w2 nofun,aZ h G.E nofun,aZ h G.J.at_ nofun,aZ h G.A nofun,aZ h G.S nofun,aZ h uB nofun,aZ h G.L.lg nofun,aZ h G.L.un nofun⟩
theorem JB {L:b5}{c r:Nat}{X:fk}{s0:ah Sv}{hd:Hd} (hP:P.Ok) (T:jh P H wa fs a σ) (I:Inv P {σ with bV:=tF P σ.now σ.bV} c) (g1:L .xw=aa (.ref wa)) (g2:L .xr=aa (nv r)) (hs:σ.bu=s0++[⟨σ.F.length,σ.now,hd⟩]) (hb:∀ p∈σ.bV,P.az < p.1) (hl:∀ s∈s0,s.e < σ.F.length) (hk:σ.bV.length+1<=c):
  wSs (aM (n+5)) ag rW L H (tH P wa c) X:=by
 have D:=T.D
 have h:=T.at_
 have Jq:σ.bV.length<=11:=aK (L9 hk) I.cc
 have hf:(tF P σ.now σ.bV).length<=σ.bV.length:=t8 _ _
 refine mM (w5 zf (fun p=>if σ.now[p.1-P.az-1]? =aa p.2 then aa (zf p) else au) σ.bV (bp (ai g1) h D.bV) (fU T.G.A) (aK Jq (by decide)) (fun p hp k hk=>?_) ?_)
 ·refine acv (t:=decide (σ.now[p.1-P.az-1]? =aa p.2)) rfl rfl (eF (aq (ai (show((L.only [.xw]).sets [.dy,.bO] [nv p.1,nv p.2]) .xw=aa (.ref wa) from g1)) (aq (ai rfl) (aq (ai rfl) aE))) fun _ _ q=>K5 T (hb p hp) T.G.L.ok.n1 q) rfl (dw (aq (ai rfl) (aq (ai rfl) aE)) (aT rfl)) ?_
  by_cases hh:σ.now[p.1-P.az-1]? =aa p.2
  ·rw[a8 hh] at hk
   rw[c9 hh];exact hk
  ·rw[bb hh] at hk
   rw[dW hh];exact hk
 ·rw[Us]
  refine⟨by rw[cF];exact aK hf (aK Jq (by decide)),fun ak M1=>?_⟩
  have hwk:=a_ h M1
  have T1:=T.ad4 (xs:=(tF P σ.now σ.bV).map zf) M1
  have G2:=T1.G.Z6 (fs':=cL fs .mY (.ref ak)) T1
  obtain⟨ps,w2,_⟩:=T.G.J.fl
  refine Dv (ai g1) T1.at_ D.lU (JA (σ:={σ with bV:=tF P σ.now σ.bV}) (fs:=cL fs .mY (.ref ak)) (a:={a with ak:=ak}) (s0:=s0) (hd:=hd) hP ⟨aN,D.U7.same rfl rfl rfl rfl rfl rfl rfl rfl rfl rfl,⟨G2.J,G2.E,bZ hwk.symm aN,G2.S,G2.L,G2.d1,a_ w2 M1,G2.d3,a_ T.G.E M1,G2.d5,(a_ T.G.S M1).symm⟩⟩ I g1 g2 hs (fun p hp=>ig (nT.mp hp).2) hl (aK (eH hf) hk))
theorem C_ {L:b5}{c r k0:Nat}{X:fk}{s0:ah Sv}{hd:Hd} (hP:P.Ok) (h:H wa=aa (.i_ fs)) (D:jy P fs a {σ with br:=k0}) (G:wD P H a σ) (Zn:σ.br=σ.now.length) (I:Inv P {σ with bV:=tF P σ.now σ.bV} c) (g1:L .xw=aa (.ref wa)) (g2:L .xr=aa (nv r)) (hs:σ.bu=s0++[⟨σ.F.length,σ.now,hd⟩]) (hb:∀ p∈σ.bV,P.az < p.1) (hl:∀ s∈s0,s.e < σ.F.length) (hk:σ.bV.length+1<=c):
  wSs (aM (n+5)) ag tT L H (tH P wa c) X:=by
 have mD:(dk (P.az+1) σ.now).length<=line:=by rw[dH];exact aK (show σ.now.length<=400 from G.L.ok.n1) (by decide)
 refine iM (cX (eY (bp (ai g1) h D.now) mD) (dH ..)) (ai g1) h D.lU ?_
 have D2:=D.JP (i:=σ.now.length)
 rw[<- Zn] at D2
 have:=JB (n:=n) (L:=L) (X:=X) (r:=r) (c:=c) (σ:=σ) (fs:=cL fs .lA (nv σ.br)) (a:=a) (s0:=s0) (hd:=hd) hP ⟨aN,D2,G.keep (S:=[wa]) (dS (d7 _) (.head _)) (G.nea h)⟩ I g1 g2 hs hb hl hk
 rw[Zn] at this
 exact this
theorem NW {L:b5}{c r:Nat}{X:fk}{s0:ah Sv}{hd:Hd} (hP:P.Ok) (T:jh P H wa fs a σ) (uB:σ.gJ=σ.now) (I:Inv P {σ with br:=σ.now.length,bV:=tF P σ.now σ.bV} c) (g1:L .xw=aa (.ref wa)) (g2:L .xr=aa (nv r)) (g3:L .mT=aa (.bE (dZ (P.az+1+σ.br) (σ.now.drop σ.br)))) (hs:σ.bu=s0++[⟨σ.F.length,σ.now,hd⟩]) (hb:∀ p∈σ.bV,P.az < p.1) (hl:∀ s∈s0,s.e < σ.F.length) (hk:σ.bV.length+1<=c):
  wSs (aM (n+5)) ag tU L H (tH P wa c) X:=by
 have D:=T.D
 have h:=T.at_
 have L1:=T.G.L
 have k2:σ.br<=σ.now.length:=L1.ok.k2
 have Xy:(dZ (P.az+1+σ.br) (σ.now.drop σ.br)).length=σ.now.length-σ.br:=(cQ ..).trans (fJ ..)
 by_cases hc:σ.br=σ.now.length
 ·have H9:dZ (P.az+1+σ.br) (σ.now.drop σ.br)=[]:=qO.mp (by rw[Xy,hc,BK])
  have G2:wD P H a {σ with br:=σ.now.length}:=T.G.same rfl rfl rfl rfl (by unfold Wd.lg;rw[hc])
  exact bK (iG (ai g3) (cG aE (bX _)) (rh 5 _)) (mZ H9) (C_ (σ:={σ with br:=σ.now.length}) (k0:=σ.br) hP h D G2 rfl I g1 g2 hs hb hl hk)
 ·have lW:σ.br < σ.now.length:=xI k2 hc
  have yO:σ.now.length-σ.br-1 < σ.now.length-σ.br:=F_ (BW lW) Nat.one_pos
  have Dx:¬ dZ (P.az+1+σ.br) (σ.now.drop σ.br)=[]:=fun q=>by rw[q] at Xy;exact absurd Xy (sD (BW lW))
  obtain⟨t,ht⟩:∃ t,(σ.now.drop σ.br)[σ.now.length-σ.br-1]? =aa t:=⟨_,lK (by rw[fJ];exact yO)⟩
  have ei:P.az+1+σ.br+(σ.now.length-σ.br-1)=P.az+σ.now.length:=by exact nt [] 0x1230010200203 [P.az,σ.br,σ.now.length] 0x110000001100800110110011000008003101100000011008001900190011000009002120110110000060011011001100000800110011001100000901202001021 0x20004501012004442 0x20100 0x201026 k2 hc aQ
  have Xw:(dZ (P.az+1+σ.br) (σ.now.drop σ.br)).getLast?=aa (kF t (P.az+σ.now.length)).v:=by
   rw[D0,Xy,<- ei];exact pL ht
  have htm:t=(σ.lg P).tm (P.az+σ.now.length):=by
   rw[Du,D0]
   rw[B0,Nat.sub_right_comm,gY (Nat.le_sub_one_of_lt lW)] at ht
   rw[ht]
  obtain⟨n1,n2,n3,n4,n5,n6,n7,n8⟩:=T.ne
  refine c5 (iG (ai g3) (cG aE (bX _)) (rh 5 _)) (xX Dx) (bo (bH (bp (ai g1) h D.log) L1.lg rfl (aq (bI (Ah (ai g3) Xw) rfl) (aq (bI (Ah (ai g3) Xw) rfl) aE)) (O2 (σ:=σ.lg P) (t:=t) L1 lW uB htm fun H2 L2 k=>⟨rfl,bG (bC ?_)⟩)))
  have e:(σ.lg P).Ci=Wd.lg P {σ with br:=σ.now.length}:=by unfold Lg.Ci Wd.lg;dsimp only;rw[uB]
  rw[e] at L2
  exact C_ (σ:={σ with br:=σ.now.length}) (k0:=σ.br) hP (k wa _ (Ax n7 n6 n8) h) D (T.G.log L2 k rfl rfl rfl rfl) rfl I g1 g2 hs hb hl hk
theorem NX {L:b5}{c r:Nat}{X:fk}{s0:ah Sv}{hd:Hd} (hP:P.Ok) (T:jh P H wa fs a σ) (I:Inv P {σ with gJ:=σ.now,br:=σ.now.length,bV:=tF P σ.now σ.bV} c) (g1:L .xw=aa (.ref wa)) (g2:L .xr=aa (nv r)) (g3:L .mT=aa (.bE (dZ (P.az+1+σ.br) (σ.now.drop σ.br)))) (g4:L .cO=aa hd.o) (hs:σ.bu=s0++[⟨σ.F.length,σ.now,hd⟩]) (hb:∀ p∈σ.bV,P.az < p.1) (hl:∀ s∈s0,s.e < σ.F.length) (hk:σ.bV.length+1<=c):
  wSs (aM (n+5)) ag tV L H (tH P wa c) X:=by
 have D:=T.D
 have h:=T.at_
 have L1:=T.G.L
 have ok:=L1.ok
 obtain⟨x,y,z,uB⟩:=L1.st
 have k2:σ.br<=σ.now.length:=ok.k2
 have k3:σ.gJ.take σ.br=σ.now.take σ.br:=ok.k3
 have n1:σ.now.length<=400:=ok.n1
 have n2:σ.gJ.length<=400:=ok.n2
 obtain⟨n1',n2',n3',n4',n5',n6',n7',n8'⟩:=T.ne
 refine bo (bH (bp (ai g1) h D.fB) uB rfl (aq (ai g3) aE) (DJ (σ:=σ.lg P) (k:=σ.br) (us:=σ.now.drop σ.br) uB rfl ok.k1 (fun q=>?_) (aK n2 (by decide)) (by rw[fJ];exact aK (jc ..) (aK n1 (by decide))) fun H2 s2 kk=>⟨rfl,?_⟩))
 ·have:=aW List.length q
  rw[fJ] at this
  exact(ok.k4 (BR k2 (X0 this))).symm
 have aeA:σ.gJ.take σ.br++σ.now.drop σ.br=σ.now:=by rw[k3];exact Jb _ _
 have s2:H2 a.st=aa (m8 (Wd.lg P {σ with gJ:=σ.now}) x y z):=by
  rw[s2]
  unfold m8 Wd.lg
  dsimp only
  rw[aeA]
 have h2:H2 wa=aa (.i_ fs):=kk wa _ (gp n6') h
 refine bo (bH (bp (ai g1) h2 D.fB) s2 rfl (aq (ai g4) aE) (A8 (σ:=Wd.lg P {σ with gJ:=σ.now}) s2 ⟨rfl,?_⟩))
 obtain⟨⟨m1,m2,m3,m4,m5,m6,m7⟩,⟨a1,a2,a3⟩,⟨b1,b2,b3⟩,⟨c1,c2,c3⟩,⟨d1,d2,d3⟩⟩:=T.G.ne
 have ks:gZ [a.st] H (H2.set a.st (m8 (Wd.lg P {σ with gJ:=σ.now}) hd.o y z)):=dS kk (.head _)
 have ok2:(Wd.lg P {σ with gJ:=σ.now}).Ok:=⟨k2,k2,rfl,fun q=>q.symm,ok.b,n1,n1,ok.t1,ok.t1,ok.bt,ok.c,ok.a1,ok.a2⟩
 have G:=T.G
 exact NW (σ:={σ with gJ:=σ.now}) (fs:=fs) (a:=a) (s0:=s0) (hd:=hd) hP ⟨ks _ _ (gp n6') h,D.same rfl rfl rfl rfl rfl rfl rfl rfl rfl rfl,⟨G.J.keep ks (gp m5) (gp a1),ks _ _ (gp b1) G.E,ks _ _ (gp c1) G.A,ks _ _ (gp d1) G.S,⟨ks _ _ (gp L1.ls) L1.lg,⟨_,_,_,aN⟩,ks _ _ (gp L1.su.symm) L1.un,ok2⟩,G.d1,G.d2,G.d3,G.d4,G.d5,G.d6⟩⟩ rfl I g1 g2 g3 hs hb hl hk
end
section
variable {n:Nat}{H:Hp}{Q:PV}{X:PX}{wa:ax}{fs:ah (Nm×V)}{P:iJ}{a:Ad}{σ:Wd}
theorem jh.abb {l:ah Sv} (T:jh P H wa fs a σ):jh P (H.set a.sv (.bE (l.map (Jk P)))) wa fs a {σ with bu:=l}:=by
 obtain⟨⟨m1,m2,m3,m4,m5,m6,m7⟩,_,_,_,⟨d1,d2,d3⟩⟩:=T.G.ne
 obtain⟨n1,n2,n3,n4,n5,n6,n7,n8⟩:=T.ne
 have G:=T.G
 obtain⟨x,y,z,uB⟩:=G.L.st
 have ks:gZ [a.sv] H (H.set a.sv (.bE (l.map (Jk P)))):=dS (d7 _) (.head _)
 exact⟨ks _ _ (gp n5) T.at_,T.D.same rfl rfl rfl rfl rfl rfl rfl rfl rfl rfl,⟨G.J.keep ks (gp m4) (gp G.d3),ks _ _ (gp G.d5) G.E,ks _ _ (gp G.d6) G.A,aN,⟨ks _ _ (gp d2.symm) G.L.lg,⟨x,y,z,ks _ _ (gp d1.symm) uB⟩,ks _ _ (gp d3.symm) G.L.un,G.L.ok⟩,G.d1,G.d2,G.d3,G.d4,G.d5,G.d6⟩⟩
theorem NY {L:b5}{c r:Nat}{X:fk}{hd:Hd}{F:ah aA}{aX:ah Nat}{cg:ah Rc} (hP:P.Ok) (T:jh P H wa fs a {σ with F:=F,aX:=aX}) (I:Inv P σ c) (hc:c<=10)
  (J:Jn P cg F aX σ.bu σ.synced σ.gJ (ents (P.az+1+σ.br) (σ.now.drop σ.br))) (hr:cg.length+1<=25*(c+2)) (hF:F.length+3000<=75000*(c+2)) (he:aX.length<=90000)
  (g1:L .xw=aa (.ref wa)) (g2:L .xr=aa (nv r)) (g3:L .mT=aa (.bE (dZ (P.az+1+σ.br) (σ.now.drop σ.br)))) (g4:L .cO=aa hd.o) (hh:hd.Ok) (h1:hd.t=σ.b8) (h2:hd.v < 300) (h3:hd.c=σ.eM):
  wSs (aM (n+5)) ag tW L H (tH P wa (c+1)) X:=by
 have ok:=T.G.L.ok
 have XA:=aK (zE hh) (show 16<=100 by decide)
 have k1:σ.br<=σ.gJ.length:=ok.k1
 have k3:σ.gJ.take σ.br=σ.now.take σ.br:=ok.k3
 have k4:σ.br=σ.now.length->σ.gJ.length=σ.br:=ok.k4
 have k2:σ.br<=σ.now.length:=ok.k2
 have sal:=oR P.az (σ.now.drop σ.br) σ.gJ σ.br k1
 have aeD:(if σ.now.drop σ.br=[] then σ.gJ else σ.gJ.take σ.br++σ.now.drop σ.br)=σ.now:=by
  by_cases q:σ.now.drop σ.br=[]
  ·rw[a8 q]
   have hl:σ.br=σ.now.length:=by
    have:=aW List.length q
    rw[fJ] at this
    exact BR k2 (X0 this)
   have e1:=k4 hl
   rw[<- sH (l:=σ.gJ),e1,k3,hl,sH]
  ·rw[bb q,k3];exact Jb _ _
 rw[aeD] at sal
 have hF9:F.length<=900000:=by exact fw [F.length,c] 0x110124f83011030 0xdbba033000 nC 0x221040124f8350bb8230040 hc hF aQ
 refine bo (rB (q7 (ai g1) (Ed (bQ (aq (ai g4) aE) (o6 hh fun H1 l1=>?_)))))
 refine Nr hP (T.more l1) XA hF9 (aK he (by decide)) fun H2 b f2 T2=>⟨rfl,?_⟩
 have nb:=f2.le hP.B1 XA
 have J2:=J.KD hP.B1 hh f2 sal
 have yP:(F++b).length<=75000*(c+2):=by rw[bN];exact aK (dX nb _) hF
 have IS:=I.saved hc J2 (by rw[bN];exact hr) yP h1 h2 h3
 have yM:(σ.bu.map (Jk P)).length < line:=by rw[cF];exact cE I.Mu (cE (eH hc) (by decide))
 refine bo (oW (bp (ai g1) T2.at_ T2.D.bu) T2.G.S (dw (aq (aP (bp (ai g1) T2.at_ T2.D.writer) T2.G.J.at_ rfl) (aq (bp (ai g1) T2.at_ T2.D.now) (aq (jX (ai g4) rfl aE fun _ _ q=>K7 (h:=hd) q) aE))) (aT rfl)) yM ⟨rfl,?_⟩)
 have T3:=T2.abb (l:=σ.bu++[⟨(F++b).length,σ.now,hd⟩])
 rw[f6] at T3
 refine NX (σ:={σ with F:=F++b,aX:=aX++[(F++b).length],bu:=σ.bu++[⟨(F++b).length,σ.now,hd⟩]}) (fs:=fs) (a:=a) (s0:=σ.bu) (hd:=hd) (c:=c+1) hP T3 IS g1 g2 g3 g4 rfl (fun p hp=>(I.Jt p hp).1) (fun s hs=>?_) (eH I.Uq)
 show s.e < (F++b).length
 rw[bN]
 exact cE (J.sl s hs) (NK (ma (by decide) (f2.len hP.B1).2.1))
structure SvJ (P:iJ) (σ:Wd) (wa:ax) (fs:ah (Nm×V)) (a:Ad) (r c:Nat) (done:ah En) (L:b5) (H1:Hp) (F:ah aA) (aX:ah Nat) (cg:ah Rc):Prop where
 g1:L .xw=aa (.ref wa)
 g2:L .xr=aa (nv r)
 g3:L .mT=aa (.bE (dZ (P.az+1+σ.br) (σ.now.drop σ.br)))
 g4:L .cO=aa (⟨σ.b8,r / 2 % 300,σ.eM⟩:Hd).o
 T:jh P H1 wa fs a {σ with F:=F,aX:=aX}
 J:Jn P cg F aX σ.bu σ.synced σ.gJ done
 R:cg.length<=25*(c+1)+done.length
 N:F.length<=75000*(c+1)+3000*done.length
theorem KZ {c r:Nat} (hP:P.Ok) (T:jh P H wa fs a σ) (I:Inv P σ c) (hc:c<=10) (q:∀ H',(∃ fs' a' τ,Inv P τ (c+1)/\jh P H' wa fs' a' τ)->Q (.bool ag) H'):aM (n+6) .rx [.ref wa,nv r] H Q X:=by
 have D:=T.D
 have h:=T.at_
 have L1:=T.G.L
 have ok:=L1.ok
 have k2:σ.br<=σ.now.length:=ok.k2
 have nw:σ.now.length<=23:=aK I.nw (cw [c] 0x21011020 0x17130002153240 0xa2000 hc aQ)
 have AM:=hP.b2
 have mD:=aK T.nl (show 400<=line by decide)
 have ad_:=I.UM hP (bD _)
 have lW:∀ t∈σ.now.drop σ.br,t < 2 ^ 32:=fun t ht=>I.UM hP (I.safe.a.b t (Ja ht))
 have ya:(ents (P.az+1+σ.br) (σ.now.drop σ.br)).length<=23:=by rw[fi,fJ];exact aK (jc ..) nw
 have er:∀ (i:Nat) (ts:ah Nat),tM 6 (.bE ((ents i ts).map En.row)) (.bE (dk i ts))=aa ag:=fun i ts=>Ex 3 i ts
 have hcm:σ.eM < 2 ^ 32:=cE (show σ.eM<=P.az+σ.now.length from ok.c) (cE (fS AM nw) (by decide))
 have hh:(⟨σ.b8,r / 2 % 300,σ.eM⟩:Hd).Ok:=⟨ad_,ft (dD _ (by decide)) (by decide),hcm⟩
 have Ce:=zF (i:=P.az+1+σ.br) lW (cE (fS (fS (eH AM) (aK k2 nw)) (by rw[fi] at ya;exact ya)) (by decide))
 obtain⟨cg,J0,OL⟩:=I.jn
 refine bA rfl (aR (d' (bp (ai rfl) h D.log) L1.lg rfl aE fun _ _ q=>KS L1 q) ?_)
 refine bK (iG (eF (aq (ai rfl) aE) fun _ _ q=>kP (es:=ents (P.az+1+σ.br) (σ.now.drop σ.br)) rfl (aK ya (by decide)) q) (iV (zt (bp (ai rfl) h D.now) (bp (ai rfl) h D.br) (by rw[dH];exact k2) mD) (DB ..)) (er _ _)) rfl ?_
 refine aR (oz (aq (bp (ai rfl) h D.b8) (aq (eA (j:=300) (fh (j:=2) (ai rfl) aH (by decide) (by decide)) aH (by decide)) (aq (bp (ai rfl) h D.eM) aE)))) ?_
 refine tK (ai rfl) rfl (qo En.v (ents (P.az+1+σ.br) (σ.now.drop σ.br)) (fun done L H1=>∃ F aX cg,SvJ P σ wa fs a r c done L H1 F aX cg) ⟨σ.F,σ.aX,cg,rfl,rfl,rfl,rfl,T,J0,OL,I.fl⟩ (fun _ _ _ _=>rfl) ?_ ?_)
 ·rintro done x rest L H1 e1 ⟨F,aX,cg,S⟩
  have hx:=Ce x (by rw[e1];exact t9 _ (.head _))
  have MZ:done.length<=23:=aK (by rw[e1,bN];exact fu ..) ya
  have tP:=S.J.AB
  have hR:=S.R
  have hN:=S.N
  have hxl:=aK (zG hx) (show 43<=100 by decide)
  refine bo (rB (q7 (ai S.g1) (Ed (bQ (aq (ai rfl) aE) (j8 hx fun H2 l2=>?_)))))
  refine Nr hP (S.T.more l2) hxl (show F.length<=900000 by exact GR [F.length,c,done.length] 0x110bb820124f83011040 0xdbba033000 nC 0x1713200 0x200bb825121040124f8354000 hc MZ hN aQ) (show aX.length<=100000 by exact Y4 [aX.length,c,done.length,cg.length] 0x11019011191011050 0x186a033000 nC 0x1713200 770 0x201210419154300 hc MZ tP hR aQ) fun H3 b3 f3 T3=>⟨rfl,bG ⟨F++b3,aX++[(F++b3).length],cg++[.e x],S.g1,S.g2,S.g3,S.g4,T3,S.J.entry hP.B1 hx f3,?_,?_⟩⟩
  ·rw[bN,bN];exact eH hR
  ·rw[bN,bN,BG,uS 3000,<- dU];exact fS hN (f3.le hP.B1 hxl)
 ·rintro L H1 ⟨F,aX,cg,S⟩
  have tP:=S.J.AB
  have hR:=aK S.R (dX ya _)
  have hN:=aK S.N (dX (me 3000 ya) _)
  refine bC (dG (dj _) _ ?_ (fun _ _ _ h=>h) (NY (σ:=σ) (F:=F) (aX:=aX) (cg:=cg) hP S.T I hc S.J (cw [cg.length,c] bJ 0x221041915120040 0x17131210419154000 hR aQ) (cw [F.length,c] bJ 0x221040124f8350bb8230040 0x10d8833121040124f8354000 hN aQ) (GR [aX.length,c,cg.length] 0x11019191011040 0x15f9033000 nC 514 0x17131210419154200 hc tP hR aQ) S.g1 S.g2 S.g3 S.g4 hh rfl (dD _ (by decide)) rfl))
  rintro o L2 H2 ⟨rfl,hT⟩
  exact q H2 hT
end
theorem JL {b:Nat}{es ik:ah En}{x:En} (h:gQ b es x=aa ik):ik.length<=es.length+1:=Dh h
theorem vn {b:Nat}:∀ {xs es ik:ah En},fg b es xs=aa ik->ik.length<=es.length+xs.length
 |[],es,ik,h=>by cases h;simp
 |x::xs,es,ik,h=>by
  simp only[fg,SN] at h
  obtain⟨RL,h1,h2⟩:=h
  have:=JL h1
  have:=vn h2
  simp;exact fw [ik.length,es.length,xs.length,RL.length] eI 0x12204104000 0x12104300 0x20304000 (by assumption) this aQ
theorem Hn {b:Nat}:∀ {rs:ah Rc}{es:ah En}{hd:Hd}{pe:ah En}{s:Rs},runs b (es,hd,pe) rs=aa s->s.1.length+s.2.2.length<=es.length+pe.length+rs.length
 |[],es,hd,pe,s,h=>by cases h;simp
 |r::rs,es,hd,pe,s,h=>by
  simp only[runs,SN] at h
  obtain⟨⟨e1,h1,p1⟩,g1,g2⟩:=h
  have i:=Hn g2
  cases r with
  |f=>contradiction
  |e x=>cases g1;simp at i ⊢;exact cw [s.fst.length,s.snd.snd.length,es.length,pe.length,rs.length] bJ 0x12404302044100040 0x40123042044100040 i aQ
  |h d=>
   simp only[yG,yu] at g1
   obtain⟨ik,k1,k2⟩:=g1
   cases k2
   have:=vn k1
   simp at i ⊢;exact fw [s.fst.length,s.snd.snd.length,es.length,pe.length,rs.length,e1.length] eI 0x12404302044100040 0x40504100040 0x30204500 i this aQ
theorem m_ {f:V->V->aB aj}{x y:V}{xs ys:ah V} (h:f x y=aa ag) (k:oS f xs ys=aa ag):oS f (x::xs) (y::ys)=aa ag:=ib h k
theorem MI (n:Nat):∀ vs:ah Nat,oS (tM (n+1)) (vs.map nv) (vs.map nv)=aa ag
 |[]=>rfl
 |v::vs=>ib ia (MI n vs)
theorem QF (n:Nat) (vs:ah Nat):tM (n+3) (cfr vs) (cfr vs)=aa ag:=
 kH rfl (m_ (kH rfl (MI n vs)) (m_ (kH (xs:=[]) rfl rfl) (m_ (kH (xs:=[]) rfl rfl) (m_ (kH (xs:=[]) rfl rfl) (m_ rfl rfl)))))
theorem MK (n:Nat) (hd:Hd):tM (n+2) hd.row hd.row=aa ag:=kH rfl (ib ia (ib ia (ib ia rfl)))
theorem Rf {l:ah Sv} (hp:l.Pairwise (·.e < ·.e)){s x:Sv} (hl:l.getLast?=aa s) (hx:x∈l):x.e<=s.e:=by
 rw[List.getLast?_eq_some_iff] at hl
 obtain⟨l0,rfl⟩:=hl
 rcases iS.mp hx with h |h
 ·have:=(NG.mp hp).2.2 x h s (by simp);exact cw [x.e,s.e] bJ dO rI this aQ
 ·have:=eT.mp h;subst this;exact bD _
section
variable {P:iJ}{σ:Wd}{c:Nat}
noncomputable def Wd.vS (P:iJ) (σ:Wd) (F:ah aA) (aX:ah Nat) (bu:ah Sv) (synced:Nat) (sv:Sv):Wd:=
 {σ with F:=F,aX:=aX,bu:=bu,synced:=synced,now:=sv.rows,eM:=sv.hd.c,app:=P.az,br:=sv.rows.length,b9:=P.az,gJ:=sv.rows}
theorem Inv.mem (I:Inv P σ c){n:Nat}{sv:Sv} (hn:σ.synced<=n) (u2:(fb σ.bu n).getLast?=aa sv):sv∈σ.bu/\σ.synced<=sv.e:=by
 obtain⟨cg,J,_⟩:=I.jn
 have hm:sv∈fb σ.bu n:=BD u2
 refine⟨(nT.mp hm).1,?_⟩
 obtain⟨s0,h1,h2⟩:=J.se
 rw[<- h2]
 refine Rf (J.so.sublist Ui) u2 (nT.mpr ⟨h1,by simpa [h2] using hn⟩)
theorem Inv.vS (I:Inv P σ c) (hc:c<=10){sv:Sv}{F:ah aA}{aX:ah Nat}{bu:ah Sv}{synced:Nat} (hm:sv∈σ.bu) (hs:σ.synced<=sv.e) (J:∃ cg,Jn P cg F aX bu synced sv.rows []/\cg.length<=25*(c+2)) (hF:F.length<=75000*(c+2))
  (h1:∀ s∈bu,∃ s'∈σ.bu,s.rows=s'.rows/\s.hd=s'.hd/\(synced<=s.e->σ.synced<=s'.e)) (h2:bu.length<=c+2):Inv P (σ.vS P F aX bu synced sv) (c+1):=by
 obtain⟨g1,g2,g3,g4⟩:=I.sv sv hm
 refine⟨by exact cw [c] bJ 0xb2120040 0xa2000 hc aQ,J,hF,by have:=I.ld;show σ.bh.length<=_;exact cw [σ.bh.length,c] bJ rJ lI this aQ,by show sv.rows.length<=_;exact cw [sv.rows.length,c] bJ rJ lI g2 aQ,I.t1,by have:=I.t2;show σ.b8<=_;exact cw [σ.b8,P.bt,c] bJ 0x122040215121044000 0x200215121044000 this aQ,I.lt,I.s1,I.s2,g1,?_,?_,by have:=I.Uq;show σ.bV.length<=_;exact cw [σ.bV.length,c] bJ pR dO this aQ,h2,by show P.az<=_;exact lE [P.az,c] hJ 0x121040215320044000 aQ⟩
 ·intro s hs
  obtain⟨s',k1,k2,k3,k4⟩:=h1 s hs
  obtain⟨j1,j2,j3,j4⟩:=I.sv s' k1
  rw[k2,k3]
  exact⟨j1,by exact cw [s'.rows.length,c] bJ rJ lI j2 aQ,j3,j4⟩
 ·intro p hp
  obtain⟨k1,k2⟩:=I.Jt p hp
  refine⟨k1,fun s hs he=>?_⟩
  obtain⟨s',j1,j2,j3,j4⟩:=h1 s hs
  rw[j2]
  exact k2 s' j1 (j4 he)
theorem Inv.aeG (I:Inv P σ c) (hc:c<=10) (hP:P.Ok){sv:Sv}{F:ah aA}{aX:ah Nat} (hm:sv∈σ.bu) (hs:σ.synced<=sv.e) (hj:Jr P.B 0 ((lY P sv.rows sv.hd).map P.bs) F aX) (hF:F.length<=3000*(lY P sv.rows sv.hd).length) (hh:sv.hd.Ok):
  Inv P (σ.vS P F aX [⟨F.length,sv.rows,sv.hd⟩] F.length sv) (c+1):=by
 obtain⟨g1,g2,g3,g4⟩:=I.sv sv hm
 have XA:(lY P sv.rows sv.hd).length<=26:=by
  unfold lY
  have cc:=I.cc
  split<;>simp [fi]<;>exact fw [sv.rows.length,c] AW 0x1713000 nC lI hc g2 aQ
 have AM:=hP.b2
 have Zg:=hP.t2
 have tt:=I.t2
 have cc:=I.cc
 have Ce:=zF (i:=P.az+1) (ts:=sv.rows) (fun t ht=>by have:=g1.a.b t ht;exact Y4 [t,c,P.bt,σ.b8] 0x11011011021011050 og nC 0xc35023200 0x100215122044300 rK hc Zg tt this aQ) (GR [P.az,sv.rows.length,c] 0x11011021011040 0x10000000053101200441 0xa2200 0x200215324100 vT hc g2 AM aQ)
 refine I.vS hc hm hs ⟨_,Jn.start hP.B1 hj hh Ce,by exact cw [(lY P sv.rows sv.hd).length,c] bJ 0x221041915000 0x1a13000 XA aQ⟩ (fw [F.length,c,(lY P sv.rows sv.hd).length] 0xbb82011011030 0x221040124f835000 0x200bb825000 0x1a13200 hF XA aQ) ?_ (by simp)
 intro s h
 have h:=eT.mp h
 subst h
 exact⟨sv,hm,rfl,rfl,fun _=>hs⟩
theorem Inv.aeF (I:Inv P σ c) (hc:c<=10) (hP:P.Ok){sv:Sv}{n:Nat} (hn:σ.synced<=n) (Jm:n<=σ.F.length) (u2:(fb σ.bu n).getLast?=aa sv) (hg:(c8 σ.aX n).getLast?.getD 0=n) (hp:((c8 σ.aX n).filter (sv.e < ·))=[]):
  Inv P (σ.vS P (σ.F.take n) (c8 σ.aX n) (fb σ.bu n) n sv) (c+1):=by
 obtain⟨hm,hs⟩:=I.mem hn u2
 obtain⟨cg,J,hr⟩:=I.jn
 obtain⟨J2,e2⟩:=J.cut hP.B1 hn Jm u2 hg hp
 refine I.vS hc hm hs ⟨_,J2,?_⟩ ?_ ?_ ?_
 ·simp;exact gg [] 0x10001103 [(c8 σ.aX n).length,cg.length,c] 0x11001101104001101101101104002 0x222041915300 0x122041915100 hr aQ
 ·have:=I.fl;simp;exact nt [] 0x10001103 [n,σ.F.length,c] 0x1100110011050011001101101105002 0x222040124f835300 dO 0x122040124f835100 Jm this aQ
 ·intro s h
  exact⟨s,(nT.mp h).1,rfl,rfl,fun h=>by exact fw [σ.synced,s.e,n] eI dO pO lJ hn h aQ⟩
 ·have:(fb σ.bu n).length<=σ.bu.length:=t8 _ _
  have:=I.Mu
  exact fw [(fb σ.bu n).length,c,σ.bu.length] eI 0x22104000 pO 0x12104200 (by assumption) this aQ
end
theorem DQ:∀ (l:ah (Nat×Nat)),boolsOf (l.map fun _=>(.bool ag:V))=aa (l.map fun _=>ag)
 |[]=>rfl
 |p::l=>by simp only[gu,boolsOf,DQ l];rfl
structure HJ (P:iJ) (H:Hp) (a:Ad) (σ:Wd):Prop where
 J:pq H a.wr a.f P.B σ.F
 E:H a.e=aa (.bE (σ.aX.map nv))
 A:H a.ak=aa (.bE (σ.bV.map zf))
 S:H a.sv=aa (.bE (σ.bu.map (Jk P)))
 d1:a.f≠a.e
 d2:a.f≠a.ak
 d3:a.f≠a.sv
 d4:a.e≠a.ak
 d5:a.e≠a.sv
 d6:a.ak≠a.sv
section
variable {n:Nat}{H:Hp}{Q:PV}{X:PX}{wa:ax}{fs:ah (Nm×V)}{P:iJ}{a:Ad}{σ:Wd}
theorem HJ.ne (G:HJ P H a σ) (h:H wa=aa (.i_ fs)):wa≠a.f/\wa≠a.e/\wa≠a.wr/\wa≠a.ak/\wa≠a.sv:=by
 obtain⟨ps,w2,_⟩:=G.J.fl
 exact⟨aZ h w2 nofun,aZ h G.E nofun,aZ h G.J.at_ nofun,aZ h G.A nofun,aZ h G.S nofun⟩
theorem HJ.keep {H':Hp} (G:HJ P H a σ) (h:H wa=aa (.i_ fs)) (k:gZ [wa] H H'):HJ P H' a σ:=by
 obtain⟨n1,n2,n3,n4,n5⟩:=G.ne h
 exact⟨G.J.keep k (gp n3.symm) (gp n1.symm),k _ _ (gp n2.symm) G.E,k _ _ (gp n4.symm) G.A,k _ _ (gp n5.symm) G.S,G.d1,G.d2,G.d3,G.d4,G.d5,G.d6⟩
theorem HJ.turn {o:Mo} (G:HJ P H a σ) (h:H wa=aa (.i_ fs)):HJ P (H.set wa o) a σ:=G.keep h (dS (d7 _) (.head _))
theorem Y1 {C:CC}{L:b5}{e:E}{xs:ah V}{bs:ah aj} (p:PE C L H e (.bE xs)) (h:boolsOf xs=aa bs):PE C L H (.bc .all (.cons e .nil)) (.bool (bs.all id)):=fun Q X q=>p _ _ ⟨xs,rfl,bs,h,q⟩
theorem N6 {L:b5}{X:fk}{τ:Wd}{s e p:ax}{σs:Sg}{c:Nat} (hP:P.Ok) (h:H wa=aa (.i_ fs)) (D:jy P fs a τ) (G:HJ P H a τ)
  (yN:H s=aa (σs.o e p)) (Kw:H e=aa (.bE (σs.es.map En.v))) (Ia:σs.es=ents (P.az+1) τ.now) (Zw:τ.eM=σs.hd.c) (ad':τ.gJ=τ.now) (ab6:τ.br=τ.now.length) (hc1:P.az<=τ.eM) (hc2:τ.eM<=P.az+τ.now.length) (aev:τ.app=P.az) (lW:∀ t∈τ.now,t < 2 ^ 32) (hl:τ.now.length<=100)
  (ZA:∀ p∈τ.bV,P.az < p.1/\τ.now[p.1-P.az-1]? =aa p.2) (M1:τ.bV.length<=100) (I:Inv P τ c) (g1:L .xw=aa (.ref wa)) (g2:L .cq=aa (.ref s)):
  wSs (aM (n+8)) ag t4 L H (tH P wa c) X:=by
 have l0:=D.len
 have hx:listOf H (.ref e)=aa (dZ (P.az+1) τ.now):=by rw[fU Kw,Ia];rfl
 have AM:=hP.b2
 refine bo (bQ (aq (ai g1) (aq (aP (ai g2) yN rfl) (aq (aP (ai g2) yN rfl) aE))) (DN (rows:=τ.now) (hd:=σs.hd) hP h (aK l0 (by decide)) ⟨D.B,D.az,D.bt,D.kO⟩ hx lW (aK hl (by decide)) (by rw[<- Zw];exact hc2) fun H3 lg st un L3 h3 n1 n2 n3 K3=>⟨rfl,?_⟩))
 have elg:Lg.Jl P τ.now (max P.az σs.hd.c)=τ.lg P:=by
  unfold Lg.Jl Wd.lg
  rw[ad',ab6,aev,Zw,BV (by rw[<- Zw];exact hc1)]
 rw[elg] at L3
 have G3:=G.keep h K3
 have T3:jh P H3 wa (cL (cL fs .cV (.ref st)) .xlog (.ref lg)) {a with st:=st,lg:=lg,un:=un} τ:=
  ⟨h3,(D.Oj (x:=st)).abm (x:=lg) |> fun D=>⟨D.len,D.B,D.az,D.bt,D.kO,D.cuts,D.b8,D.bh,D.sure,D.now,D.eM,D.app,D.br,D.b9,D.bV,D.file,D.aX,D.writer,D.synced,D.bu,D.fB,D.log⟩,⟨G3.J,G3.E,G3.A,G3.S,L3,G3.d1,G3.d2,G3.d3,G3.d4,G3.d5,G3.d6⟩⟩
 have D3:=T3.D
 refine cy (a9 (dJ (eF (aq (ai g1) aE) fun _ _ q=>v5 T3 q) rfl (cP (Y1 (Hw (fun q:Nat×Nat=>[nv q.1,nv q.2]) (fun _=>.bool ag) τ.bV (bp (ai g1) T3.at_ D3.bV) (fU T3.G.A) (aK M1 (by decide)) (fun _ _=>rfl) fun q hq=>?_) (DQ τ.bV))))) ?_
 ·obtain⟨hq1,hq2⟩:=ZA q hq
  have hqk:=lX hq2
  have:=(Ei (τ.lg P) (q.1-P.az-1) q.2).mpr hq2
  have e1:(τ.lg P).az+1+(q.1-P.az-1)=q.1:=by show P.az+1+_=_;exact gg [] 0x1220000100202 [P.az,q.fst] 0x1100110040011011000110060019001900110007012020110110004001101100110006001100110011000701202001 0x10401200442 rI hq1 aQ
  rw[e1] at this
  have g1':((L.only [.xw]).sets [.dy,.bO] [nv q.1,nv q.2]) .xw=aa (.ref wa):=g1
  exact d' (bp (ai g1') T3.at_ D3.log) T3.G.L.lg rfl (aq (ai rfl) (aq (ai rfl) aE)) fun _ _ k=>vZ (σ:=τ.lg P) (i:=q.1) (t:=q.2) T3.G.L (EU [] 0x1230020000203 [q.fst,τ.now.length,P.az] 0x1100110011050011011000110011070011001100110110110110801202 0x1000000000063001 0x6413100 0xc35023200 0x10501 hl AM hqk aQ) (fH hq1) (by rw[c9 this];exact k)
 ·have:((τ.bV.map fun _=>ag).all id)=ag:=by rw[LO];exact l_.mpr fun _ _=>rfl
  rw[this]
  exact⟨rfl,_,_,τ,I,T3⟩
end
section
variable {n:Nat}{H:Hp}{Q:PV}{X:PX}{wa:ax}{fs:ah (Nm×V)}{P:iJ}{a:Ad}{σ:Wd}
theorem Dd {L:b5}{X:fk}{sv:Sv}{F:ah aA}{aX:ah Nat}{bu:ah Sv}{synced:Nat}{s e p:ax}{σs:Sg}{c:Nat} (hP:P.Ok) (h:H wa=aa (.i_ fs)) (D:jy P fs a {σ with synced:=synced}) (G:HJ P H a (σ.vS P F aX bu synced sv))
  (yN:H s=aa (σs.o e p)) (Kw:H e=aa (.bE (σs.es.map En.v))) (Ia:σs.es=ents (P.az+1) sv.rows) (E_:σs.hd=sv.hd) (I:Inv P (σ.vS P F aX bu synced sv) c)
  (ZA:∀ p∈σ.bV,P.az < p.1/\sv.rows[p.1-P.az-1]? =aa p.2) (g1:L .xw=aa (.ref wa)) (g2:L .cq=aa (.ref s)) (g3:L .f7=aa (.bE (dk (P.az+1) sv.rows))) (g4:L .cO=aa sv.hd.row):
  wSs (aM (n+8)) ag lx L H (tH P wa c) X:=by
 have AM:=hP.b2
 have nw:sv.rows.length<=25:=aK I.nw (by have:=I.cc;exact cw [c] 0x21011020 0x19130002153240 0xb2000 this aQ)
 have sf:=I.safe
 have MZ:(dk (P.az+1) sv.rows).length<=line:=by rw[dH];exact aK nw (by decide)
 have D1:=D.Xc (ts:=sv.rows)
 have D2:=D1.Hm (i:=sv.hd.c)
 have D3:=D2.Xe (i:=P.az)
 have D4:=D3.JP (i:=sv.rows.length)
 have nsw:s≠wa:=aZ yN h nofun
 have new:e≠wa:=aZ Kw h nofun
 refine iM (ai g3) (ai g1) h D.lU (f_ (sY (k:=2) (u:=nv sv.hd.c) (ai g4) aH rfl (aT rfl)) (ai g1) D1.lU (f_ (bp (ai g1) aN D2.az) (ai g1) D2.lU (f_ (cX (eY (ai g3) MZ) (dH ..)) (ai g1) D3.lU (f_ (bp (ai g1) aN D4.az) (ai g1) D4.lU ?_))))
 exact N6 (τ:=σ.vS P F aX bu synced sv) hP aN (D4.z7.same rfl rfl rfl rfl rfl rfl rfl rfl rfl rfl) (G.turn h) (bZ nsw yN) (bZ new Kw) Ia (show sv.hd.c=σs.hd.c by rw[E_]) rfl rfl sf.c1 sf.c3 rfl (fun t ht=>I.UM hP (sf.a.b t ht)) (aK nw (by decide)) ZA (aK I.Uq (aK I.cc (by decide))) I g1 g2
end
section
variable {n:Nat}{H:Hp}{Q:PV}{X:PX}{wa:ax}{fs:ah (Nm×V)}{P:iJ}{a:Ad}{σ:Wd}
theorem jy.ZC {f e wr sv:ax}{s:Nat} (D:jy P fs a σ):jy P (ZC fs f e wr sv s) {a with f:=f,e:=e,wr:=wr,sv:=sv} {σ with synced:=s}:=
 (((((D.Qk (x:=f)).Er (x:=e)).Hi (x:=wr)).z6 (i:=s)).Mz (x:=sv))
theorem UW {L:b5}{X:fk}{sv:Sv}{s e p:ax}{σs:Sg}{c:Nat} (hP:P.Ok) (T:jh P H wa fs a σ) (I:Inv P σ c) (hc:c<=10) (hm:sv∈σ.bu) (Zi:σ.synced<=sv.e)
  (yN:H s=aa (σs.o e p)) (Kw:H e=aa (.bE (σs.es.map En.v))) (Ia:σs.es=ents (P.az+1) sv.rows) (E_:σs.hd=sv.hd)
  (g1:L .xw=aa (.ref wa)) (g2:L .cq=aa (.ref s)) (g3:L .f7=aa (.bE (dk (P.az+1) sv.rows))) (g4:L .cO=aa sv.hd.row):
  wSs (aM (n+8)) ag (.cons (.expr (.bL .s_ (.cons (.aC .xw) (.cons (.aC .f7) (.cons (.aC .cO) .nil))))) .nil) L H (i9 (aM (n+8)) ag lx (tH P wa (c+1)) X) X:=by
 have D:=T.D
 have h:=T.at_
 obtain⟨j1,j2,j3,j4⟩:=I.sv sv hm
 have AM:=hP.b2
 have cc:=I.cc
 have hc3:=j1.c3
 have hh:sv.hd.Ok:=⟨I.UM hP j3,ft j4 (by decide),by exact Y4 [sv.hd.c,c,sv.rows.length,P.az] 0x11011011021011050 og nC 0x100215324200 0xc35023300 0x20304000 hc j2 AM hc3 aQ⟩
 refine bo (bQ (aq (ai g1) (aq (ai g3) (aq (ai g4) aE))) (ym (rows:=sv.rows) (hd:=sv.hd) hP h D.len ⟨D.B,D.az,D.bt,D.kO⟩ hh (fun t ht=>I.UM hP (j1.a.b t ht)) (fw [sv.rows.length,c] AW 0x6413000 nC lI hc j2 aQ) fun H' f e' wr sva F aX J8 hs8 q1 q2 K nf ne_ nwr nsv hj hF=>⟨rfl,?_⟩))
 have hA:=T.G.A
 obtain⟨n1,n2,n3,n4,n5,n6,n7,n8⟩:=T.ne
 exact bG (bC (Dd (σ:=σ) (sv:=sv) (F:=F) (aX:=aX) (bu:=[⟨F.length,sv.rows,sv.hd⟩]) (synced:=F.length) (σs:=σs) hP J8.at_ D.ZC ⟨J8.W,J8.E,K _ _ (gp n4.symm) hA,hs8,J8.fe,(a_ hA nf).symm,q2,(a_ hA ne_).symm,q1,a_ hA nsv⟩
  (K _ _ (gp (aZ yN h nofun)) yN) (K _ _ (gp (aZ Kw h nofun)) Kw) Ia E_ (I.aeG hc hP hm Zi hj hF hh) (fun p hp=>⟨(I.Jt p hp).1,(I.Jt p hp).2 sv hm Zi⟩) g1 g2 g3 g4))
theorem UU {L:b5}{X:fk}{sv:Sv}{nn:Nat}{s e p we ws:ax}{σs:Sg}{c:Nat} (hP:P.Ok) (T:jh P H wa fs a σ) (I:Inv P σ c) (hc:c<=10)
  (hn:σ.synced<=nn) (Jm:nn<=σ.F.length) (u2:(fb σ.bu nn).getLast?=aa sv) (hg:(c8 σ.aX nn).getLast?.getD 0=nn) (hp:((c8 σ.aX nn).filter (sv.e < ·))=[])
  (yN:H s=aa (σs.o e p)) (Kw:H e=aa (.bE (σs.es.map En.v))) (Ia:σs.es=ents (P.az+1) sv.rows) (E_:σs.hd=sv.hd)
  (OK:H we=aa (.bE ((c8 σ.aX nn).map nv))) (Rp:H ws=aa (.bE ((fb σ.bu nn).map (Jk P)))) (VC:we≠a.ak) (VB:ws≠a.ak) (VA:we≠ws)
  (g1:L .xw=aa (.ref wa)) (g2:L .cq=aa (.ref s)) (g3:L .f7=aa (.bE (dk (P.az+1) sv.rows))) (g4:L .cO=aa sv.hd.row) (g5:L .dY=aa (nv nn)) (g6:L .bq=aa (.bytes (σ.F.take nn))) (g7:L .kA=aa (.ref we)) (g8:L .iz=aa (.ref ws)):
  wSs (aM (n+8)) ag (.cons (.c4 (.aC .xw) .gC (.list ao (.cons (.aC .bq) .nil)))
(.cons (.c4 (.aC .xw) .fy (.new ao .jP (.cons (.key (.aC .xw) .gC) (.cons (.key (.aC .xw) .dB) (.cons (.glob .iL) (.cons (.aC .dY) .nil))))))
(.cons (.c4 (.aC .xw) .km (.aC .kA))
(.cons (.c4 (.aC .xw) .iz (.aC .iz))
(.cons (.c4 (.aC .xw) .iF (.aC .dY))
.nil))))) L H (i9 (aM (n+8)) ag lx (tH P wa (c+1)) X) X:=by
 have D:=T.D
 have h:=T.at_
 obtain⟨hm,Zi⟩:=I.mem hn u2
 have hA:=T.G.A
 obtain⟨n1,n2,n3,n4,n5,n6,n7,n8⟩:=T.ne
 obtain⟨cg,J,hr⟩:=I.jn
 have yO:0 < nn:=by
  have h2:=J.two nn hn
  obtain⟨z,hz⟩:∃ z,(c8 σ.aX nn).getLast?=aa z:=⟨_,Wv (fun q=>by rw[q] at h2;exact absurd h2 (by decide))⟩
  rw[hz] at hg
  have hg:z=nn:=hg
  subst hg
  exact J.jr.gt hP.B1 _ (nT.mp (BD hz)).1
 have hFl:(σ.F.take nn).length=nn:=by rw[eX];exact dK Jm
 have D1:=fun b:ax=>D.Qk (x:=b)
 refine mM (iH (aq (ai g6) aE) (aT rfl) fun b hb=>Dv (ai g1) (bZ (a_ h hb) h) D.lU ?_)
 have nb:=a_ h hb
 refine mM (lV (aq (bp (ai g1) aN iq) (aq (bp (ai g1) aN (D1 b).B) (aq (bw rfl) (aq (cX (i:=(σ.F.take nn).length) (ai g5) hFl.symm) aE)))) rfl fun w hw=>?_)
 have nww:=eZ hw aN
 have OJ:=lh (.set (.refl _)) nww.symm hw
 have nwb:=eZ OJ aN
 have hw0:=lh (.set (.refl _)) nwb.symm OJ
 refine IB (w:=w) (f:=b) (B:=P.B) (F:=σ.F.take nn) aN ⟨[σ.F.take nn],bZ nwb (bZ nb.symm aN),fT _,by rw[hFl];exact yO⟩ ⟨hP.B1,hP.B2⟩ fun Wd=>⟨rfl,?_⟩
 rw[Hp.set_set] at Wd ⊢
 have D2:=(D1 b).Hi (x:=w)
 have D3:=D2.Er (x:=we)
 have D4:=D3.Mz (x:=ws)
 refine Dv (ai g1) (bZ nww aN) (D1 b).lU (f_ (ai g7) (ai g1) D2.lU (f_ (ai g8) (ai g1) D3.lU (f_ (ai g5) (ai g1) D4.lU (bG (bC ?_)))))
 have lk:∀ {o1 o2 o3 o4:Mo} {c o},H c=aa o->c≠wa->((((H.set b o1).set wa o2).set w o3).set wa o4) c=aa o:=fun hc h1=>bZ h1 (bZ (a_ hc hw0) (bZ h1 (bZ (a_ hc hb) hc)))
 exact Dd (a:={a with f:=b,e:=we,wr:=w,sv:=ws}) (σ:=σ) (sv:=sv) (F:=σ.F.take nn) (aX:=c8 σ.aX nn) (bu:=fb σ.bu nn) (synced:=nn) (σs:=σs) hP aN (D4.z6 (i:=nn))
  ⟨Wd.keep (S:=[wa]) (dS (d7 _) (.head _)) (gp nww.symm) (gp nb.symm),lk OK (aZ OK h nofun),lk hA n4.symm,lk Rp (aZ Rp h nofun),(a_ OK hb).symm,(a_ hA hb).symm,(a_ Rp hb).symm,VC,VA,VB.symm⟩
  (lk yN (aZ yN h nofun)) (lk Kw (aZ Kw h nofun)) Ia E_ (I.aeF hc hP hn Jm u2 hg hp) (fun p hp=>⟨(I.Jt p hp).1,(I.Jt p hp).2 sv hm Zi⟩) g1 g2 g3 g4
end
section
variable {n:Nat}{H:Hp}{Q:PV}{X:PX}{wa:ax}{fs:ah (Nm×V)}{P:iJ}{a:Ad}{σ:Wd}
theorem N7 {L:b5}{X:fk}{sv:Sv}{nn g:Nat}{s e p we ws:ax}{σs:Sg}{c:Nat} (hP:P.Ok) (T:jh P H wa fs a σ) (I:Inv P σ c) (hc:c<=10)
  (hn:σ.synced<=nn) (Jm:nn<=σ.F.length) (u2:(fb σ.bu nn).getLast?=aa sv) (hg:(c8 σ.aX nn).getLast?.getD 0=g) (Zq:g<=nn) (hpe:σs.pend.length=((c8 σ.aX nn).filter (sv.e < ·)).length)
  (yN:H s=aa (σs.o e p)) (Kw:H e=aa (.bE (σs.es.map En.v))) (hs3:H p=aa (.bE (σs.pend.map En.v))) (Ia:σs.es=ents (P.az+1) sv.rows) (E_:σs.hd=sv.hd)
  (OK:H we=aa (.bE ((c8 σ.aX nn).map nv))) (Rp:H ws=aa (.bE ((fb σ.bu nn).map (Jk P)))) (VC:we≠a.ak) (VB:ws≠a.ak) (VA:we≠ws)
  (g1:L .xw=aa (.ref wa)) (g2:L .cq=aa (.ref s)) (g3:L .f7=aa (.bE (dk (P.az+1) sv.rows))) (g4:L .cO=aa sv.hd.row) (g5:L .dY=aa (nv nn)) (g6:L .bq=aa (.bytes (σ.F.take nn))) (g7:L .kA=aa (.ref we)) (g8:L .iz=aa (.ref ws)) (g9:L .lB=aa (nv g)):
  wSs (aM (n+8)) ag t6 L H (tH P wa (c+1)) X:=by
 obtain⟨hm,Zi⟩:=I.mem hn u2
 have ab9:∃ v,PE (aM (n+8)) L H (.b7 ao (.cons (.cB (.aC .lB) .lt (.aC .dY)) (.cons (.cB (.aV (.aC .cq) .il) .ne (.list ag .nil)) .nil))) v/\truth H v=aa (decide (g < nn∨σs.pend≠[])):=by
  by_cases h:g < nn
  ·exact⟨_,a9 (ni (gq (ai g9) (ai g5)) (dC h)),(dC h).trans (aW aa (c9 (.inl h)).symm)⟩
  ·refine⟨_,a9 (dJ (gq (ai g9) (ai g5)) (cb h) (cP (iG (aP (ai g2) yN rfl) (cG aE (bX _)) (t:=decide (σs.pend.map En.v=[])) (by rw[QX hs3];exact rh 5 _)))),aW aa ?_⟩
   rcases Z8 (σs.pend=[]) with q |q
   ·rw[c9 (by rw[q];rfl),dW (fun x=>x.elim h fun y=>y q)];rfl
   ·rw[dW (fun x=>q (Uh.mp x)),c9 (.inr q)];rfl
 obtain⟨v,hv,ht⟩:=ab9
 refine Hl hv ht (fun _=>UW hP T I hc hm Zi yN Kw Ia E_ g1 g2 g3 g4) (fun hF=>?_)
 have h:=GC hF
 have h1:g=nn:=BR Zq (iC fun q=>h (.inl q))
 have h2:σs.pend=[]:=Ys fun q=>h (.inr q)
 rw[h2] at hpe
 exact UU hP T I hc hn Jm u2 (by rw[hg,h1]) (qO.mp hpe.symm) yN Kw Ia E_ OK Rp VC VB VA g1 g2 g3 g4 g5 g6 g7 g8
end
theorem AR {α:Type} (f:α->V) (p:α->Prop) [DecidablePred p] (l:ah α):l.filterMap (fun e=>if p e then aa (f e) else au)=(l.filter fun e=>decide (p e)).map f:=by
 induction l with
 |nil=>rfl
 |cons x l ih=>
  by_cases h:p x
  ·rw[Ye (p:=fun e=>decide (p e)) (c9 h)]
   exact(NL (f:=fun e=>if p e then aa (f e) else au) (a8 h)).trans (aW (_:: ·) ih)
  ·rw[Yd (p:=fun e=>decide (p e)) (show ¬ decide (p x)=ag by rw[dW h];nofun)]
   exact(Tp (f:=fun e=>if p e then aa (f e) else au) (bb h)).trans ih
section
variable {n:Nat}{H:Hp}{Q:PV}{X:PX}{wa:ax}{fs:ah (Nm×V)}{P:iJ}{a:Ad}{σ:Wd}
theorem N8 {L:b5}{X:fk}{H0:Hp}{sv:Sv}{nn g:Nat}{s we ws:ax}{σs:Sg}{c:Nat} (hP:P.Ok) (T:jh P H wa fs a σ) (I:Inv P σ c) (hc:c<=10)
  (hn:σ.synced<=nn) (Jm:nn<=σ.F.length) (u2:(fb σ.bu nn).getLast?=aa sv) (hg:(c8 σ.aX nn).getLast?.getD 0=g) (Zq:g<=nn) (hpe:σs.pend.length=((c8 σ.aX nn).filter (sv.e < ·)).length)
  (hS:gm H0 H s σs) (Ia:σs.es=ents (P.az+1) sv.rows) (E_:σs.hd=sv.hd) (hbi:σs.bi=P.az) (hbt:σs.bt=P.bt) (Zx:σs.cf=aa P.vs) (aet:σs.cnt=(c8 σ.aX nn).length) (h2:2<=σs.cnt) (Pw:σs.pend.length<=1000) (Ku:(c8 σ.aX nn).length<=1000)
  (OK:H we=aa (.bE ((c8 σ.aX nn).map nv))) (Rp:H ws=aa (.bE ((fb σ.bu nn).map (Jk P)))) (VC:we≠a.ak) (VB:ws≠a.ak) (VA:we≠ws)
  (g1:L .xw=aa (.ref wa)) (g2:L .cq=aa (.ref s)) (g3:L .f7=aa (.bE (dk (P.az+1) sv.rows))) (g4:L .cO=aa sv.hd.row) (g5:L .dY=aa (nv nn)) (g6:L .bq=aa (.bytes (σ.F.take nn))) (g7:L .kA=aa (.ref we)) (g8:L .iz=aa (.ref ws)) (g9:L .lB=aa (nv g)) (g10:L .ot=aa (nv sv.e)):
  wSs (aM (n+8)) ag t7 L H (tH P wa (c+1)) X:=by
 have hS':=hS
 obtain⟨e,p,hSS⟩:=hS'
 have h:=T.at_
 have D:=T.D
 have yN:=hSS.at_
 obtain⟨hm,Zi⟩:=I.mem hn u2
 obtain⟨j1,j2,j3,j4⟩:=I.sv sv hm
 have j2:sv.rows.length<=25:=aK j2 (by have:=I.cc;exact cw [c] 0x21011020 0x19130002153240 0xa2000 hc aQ)
 refine bo (bH (ai g2) yN rfl aE (Cz hS h2 ⟨rfl,?_⟩))
 refine aR (v:=.tup [nv (c8 σ.aX nn).length,nv P.az,nv P.bt,cfr P.vs,sv.hd.row]) (gF (dw (aq (aP (ai g2) yN rfl) (aq (aP (ai g2) yN rfl) (aq (aP (ai g2) yN rfl) (aq (jX (D:=.g_) (fs:=cfo P.vs) (gF (v:=cfO σs.cf) (aP (ai g2) yN rfl) (by rw[Zx];rfl)) rfl aE fun _ _ q=>K9 hP.v q) (aq (jX (aP (ai g2) yN rfl) rfl aE fun _ _ q=>K7 (h:=σs.hd) q) aE))))) (aT rfl)) (by rw[aet,hbi,hbt,E_])) ?_
 have hwl:((c8 σ.aX nn).map nv).length<=line:=by rw[cF];exact aK Ku (by decide)
 have er:∀ (i:Nat) (ts:ah Nat),tM 6 (.bE ((ents i ts).map En.row)) (.bE (dk i ts))=aa ag:=fun i ts=>Ex 3 i ts
 refine bK (a9 (dJ (iG (ai rfl) (dw (aq (cX (oy (ai g7) OK hwl) (cF ..)) (aq (bp (ai g1) h D.az) (aq (bp (ai g1) h D.bt) (aq (jX (D:=.g_) (fs:=cfo P.vs) (bp (ai g1) h D.kO) rfl aE fun _ _ q=>K9 hP.v q) (aq (ai g4) aE))))) (aT rfl)) (t:=true) (kH rfl (m_ ia (m_ ia (m_ ia (m_ (QF 2 P.vs) (m_ (MK 3 sv.hd) rfl))))))) rfl (cP (iG (eF (aq (aP (ai g2) yN rfl) aE) fun _ _ q=>kP (es:=ents (P.az+1) sv.rows) ((fU hSS.es).trans (by rw[Ia])) (by rw[fi];exact aK j2 (by decide)) q) (ai g3) (t:=true) (er _ _))))) rfl ?_
 have ha:PE (aM (n+8)) (L.set .PG (.tup [nv (c8 σ.aX nn).length,nv P.az,nv P.bt,cfr P.vs,sv.hd.row])) H (.comp ag (.aC .mA) ao [.mA] (.aC .kA) (.cB (.aC .mA) .gt (.aC .ot)) [.ot]) (.bE (((c8 σ.aX nn).filter (sv.e < ·)).map nv)):=by
  refine iV (Hx nv (fun e=>if sv.e < e then aa (nv e) else au) (c8 σ.aX nn) (ai g7) (fU OK) (aK Ku (by decide)) fun x hx k hk=>RV rfl (fo (ai rfl) (ai g10)) rfl (ai rfl) ?_) (AR nv (fun e=>sv.e < e) _)
  by_cases q:sv.e < x
  ·rw[a8 q] at hk;rw[c9 q];exact hk
  ·rw[bb q] at hk;rw[dW q];exact hk
 have Jp:(((c8 σ.aX nn).filter (sv.e < ·)).map nv).length=σs.pend.length:=by rw[cF,<- hpe]
 refine bK (ri (cX (oy (aP (ai g2) yN rfl) hSS.pd (by rw[cF];exact aK Pw (by decide))) (cF ..)) (cX (eY ha (by rw[Jp];exact aK Pw (by decide))) Jp)) (mZ rfl) ?_
 exact N7 hP T I hc hn Jm u2 hg Zq hpe yN hSS.es hSS.pd Ia E_ OK Rp VC VB VA g1 g2 g3 g4 g5 g6 g7 g8 g9
end
def aah (P:iJ) (done:ah Rc) (σs:Sg):Prop:=
 σs.cnt=done.length/\(done=[]->σs=⟨0,0,0,au,⟨0,0,0⟩,[],[]⟩)/\(done≠[]->σs.bi=P.az/\σs.bt=P.bt/\σs.cf=aa P.vs/\runs P.az U8 (done.drop 1)=aa (σs.es,σs.hd,σs.pend))
section
variable {n:Nat}{H H0:Hp}{Q:PV}{X:PX}{wa s:ax}{fs:ah (Nm×V)}{P:iJ}{a:Ad}{σ:Wd}{σs:Sg}
theorem OZ {done rest:ah Rc}{r:Rc} (hP:P.Ok) (S:gm H0 H s σs) (G:aah P done σs) (shape:∃ Cf tl,done++r::rest=.f::.h Cf::tl) (Ky:(runs P.az U8 ((done++r::rest).drop 1)).isSome) (Ce:r.Ok) (hl:done.length<=1000)
  (q:∀ H' σ',gm H0 H' s σ'->aah P (done++[r]) σ'->Q .none H'):aM (n+9) .eU [.ref s,.bytes (P.bs r)] H Q X:=by
 obtain⟨Cf,tl,sh⟩:=shape
 obtain⟨G1,G2,G3⟩:=G
 have hb:=hP.b2
 have ht:=hP.t2
 cases done with
 |nil=>
  have e0:=G2 rfl
  have hr:r=.f:=(Te sh).1
  subst hr e0
  refine IF (n:=n+1) S rfl (cw [P.az] bJ og vT hb aQ) (cw [P.bt] bJ og vT ht aQ) hP.v fun H' S'=>q H' _ S' ?_
  exact⟨rfl,fun h=>by simp at h,fun _=>⟨rfl,rfl,rfl,rfl⟩⟩
 |cons d0 Pz=>
  obtain⟨k1,k2,k3,k4⟩:=G3 (by simp)
  have e1:(d0::Pz++r::rest).drop 1=Pz++r::rest:=rfl
  have k4:runs P.az U8 Pz=aa (σs.es,σs.hd,σs.pend):=k4
  rw[e1,lC,k4] at Ky
  simp only[pk,runs] at Ky
  have hlen:=Hn (rs:=Pz) (es:=[]) (hd:=⟨0,0,0⟩) (pe:=[]) k4
  simp only[jf,xC] at hlen hl G1
  have hdr:∀ r:Rc,(d0::Pz++[r]).drop 1=Pz++[r]:=fun r=>rfl
  cases r with
  |f=>simp [yG] at Ky
  |e x=>
   have hc:2<=σs.cnt:=by
    cases Pz with
    |nil=>simp at sh
    |cons d1 Pz=>simp at G1;exact cw [σs.cnt,Pz.length] 0x19011020 544 0x12121044002 G1 aQ
   refine A7 (n:=n+2) S Ce hc (fw [σs.pend.length,Pz.length,σs.es.length] eI 0x1f4023001 0x3e823121040 0x10024002040 hl hlen aQ) fun H' S'=>q H' _ S' ?_
   refine⟨by simp [G1],fun h=>by simp at h,fun _=>⟨k1,k2,k3,?_⟩⟩
   rw[hdr,lC,k4]
   simp only[pk,runs,yG]
  |h d=>
   obtain⟨ik,he⟩:∃ ik,fg P.az σs.es σs.pend=aa ik:=by
    cases h:fg P.az σs.es σs.pend with
    |none=>rw[yG,h] at Ky;simp at Ky
    |some ik=>exact⟨ik,rfl⟩
   refine vX (h:=d) Ce S (cw [σs.cnt,Pz.length] 0x19011020 288 0x12104002 G1 aQ) (fw [σs.es.length,σs.pend.length,Pz.length] eI 0x1f4023100041 0x3e823122040 0x20024100040 hl hlen aQ) (.inl ⟨ik,by rw[k1];exact he,fun H' S'=>q H' _ S' ?_⟩)
   refine⟨by simp [G1],fun h=>by simp at h,fun _=>⟨k1,k2,k3,?_⟩⟩
   rw[hdr,lC,k4]
   simp only[pk,runs,yG,he,Gp]
end
section
variable {n:Nat}{H:Hp}{Q:PV}{X:PX}{wa:ax}{fs:ah (Nm×V)}{P:iJ}{a:Ad}{σ:Wd}
theorem PU {L:b5}{X:fk}{sv:Sv}{nn g:Nat}{we ws:ax}{c:Nat}{cg:ah Rc} (hP:P.Ok) (T:jh P H wa fs a σ) (I:Inv P σ c) (hc:c<=10)
  (hn:σ.synced<=nn) (Jm:nn<=σ.F.length) (u2:(fb σ.bu nn).getLast?=aa sv) (hg:(c8 σ.aX nn).getLast?.getD 0=g) (Zq:g<=nn) (J:Jn P cg σ.F σ.aX σ.bu σ.synced σ.gJ []) (mD:cg.length<=25*(c+1))
  (OK:H we=aa (.bE ((c8 σ.aX nn).map nv))) (Rp:H ws=aa (.bE ((fb σ.bu nn).map (Jk P)))) (VC:we≠a.ak) (VB:ws≠a.ak) (VA:we≠ws)
  (g1:L .xw=aa (.ref wa)) (g2:L .iK=aa (.bE (((cg.take (c8 σ.aX nn).length).map P.bs).map .bytes))) (g3:L .f7=aa (.bE (dk (P.az+1) sv.rows))) (g4:L .cO=aa sv.hd.row) (g5:L .dY=aa (nv nn)) (g6:L .bq=aa (.bytes (σ.F.take nn))) (g7:L .kA=aa (.ref we)) (g8:L .iz=aa (.ref ws)) (g9:L .lB=aa (nv g)) (g10:L .ot=aa (nv sv.e)):
  wSs (aM (n+9)) ag wd L H (tH P wa (c+1)) X:=by
 have h2:=J.two nn hn
 have hlen:=J.AB
 have cc:=I.cc
 obtain⟨sv2,pe,f1,f2,f3⟩:=J.KJ nn hn
 rw[u2] at f1
 cases f1
 have Ku:(c8 σ.aX nn).length<=σ.aX.length:=t8 _ _
 have hlk:(cg.take (c8 σ.aX nn).length).length=(c8 σ.aX nn).length:=by rw[eX];exact nt [] 0x10001103 [(c8 σ.aX nn).length,cg.length,σ.aX.length] 0x1101101100006001100110000600201900110110190060019001100006002001 770 0x20102 pO hlen Ku aQ
 have hsh:∃ Cf tl,cg.take (c8 σ.aX nn).length=.f::.h Cf::tl:=by
  obtain⟨Cf,rest,e⟩:=J.shape
  obtain⟨k,hk⟩:∃ k,(c8 σ.aX nn).length=k+2:=⟨(c8 σ.aX nn).length-2,by exact gg [] 0x22000101 [(c8 σ.aX nn).length] RZ 0x22104002 544 h2 aQ⟩
  refine⟨Cf,rest.take k,?_⟩
  rw[e,hk];rfl
 rw[LK] at g2
 refine bM (lV aE rfl fun s hs=>XR hs fun H1 S1=>⟨rfl,?_⟩)
 refine tK (ai g2) rfl (qo (fun r=>.bytes (P.bs r)) (cg.take (c8 σ.aX nn).length) (fun done L1 H1=>∃ σs,(∀ y,y≠.ej->L1 y=(L.set .cq (.ref s)) y)/\gm H H1 s σs/\aah P done σs) ⟨_,fun _ _=>rfl,S1,⟨rfl,fun _=>rfl,fun h=>(h rfl).elim⟩⟩ (fun _ _ _ _=>rfl) ?_ ?_)
 ·rintro done r rest L1 H2 e1 ⟨σs,e3,S2,G2⟩
  have S2':=S2
  obtain⟨e,p,SA⟩:=S2'
  have ya:done.length<=1000:=by
   have:=aW List.length e1
   rw[hlk,bN,jf] at this
   exact nm5 [done.length,c,cg.length,σ.aX.length,(c8 σ.aX nn).length,rest.length] 0x19011019011191011060 yi nC 0x121041915200 0x30202 0x30400 0x12504004402 hc mD hlen Ku this aQ
  refine bo (bH (ai (show(L1.set .ej (.bytes (P.bs r))) .cq=aa (.ref s) from e3 _ (by decide))) SA.at_ rfl (aq (ai rfl) aE) (OZ (σs:=σs) (done:=done) (rest:=rest) (r:=r) hP S2 G2 (by rw[<- e1];exact hsh) (by rw[<- e1,f2];rfl) (J.ok r (yt (by rw[e1];exact t9 _ (.head _)))) ya fun H3 σ' S3 G3=>⟨rfl,bG ⟨σ',fun y hy=>(bb hy).trans (e3 y hy),S3,G3⟩⟩))
 ·rintro L1 H2 ⟨σs,e3,S2,G2⟩
  obtain⟨G1,_,G3⟩:=G2
  obtain⟨k1,k2,k3,k4⟩:=G3 (by obtain⟨Cf,tl,e⟩:=hsh;rw[e];nofun)
  rw[f2] at k4
  obtain⟨k4,k56⟩:=sy (eS k4)
  obtain⟨k5,k6⟩:=sy k56
  have S2':=S2
  obtain⟨e,p,SA⟩:=S2'
  have l:=SA.le
  have Pw:σs.pend.length<=(c8 σ.aX nn).length:=by rw[<- k6,f3];exact t8 _ _
  have hu1:(c8 σ.aX nn).length<=1000:=by exact Y4 [(c8 σ.aX nn).length,c,cg.length,σ.aX.length] 0x11019011191011050 yi nC 0x121041915200 0x30202 rK hc mD hlen Ku aQ
  exact bC (N8 (n:=n+1) (σs:=σs) hP (T.more l) I hc hn Jm u2 hg Zq (by rw[<- k6];exact f3) S2 k4.symm k5.symm k1 k2 k3 (by rw[G1,hlk]) (by rw[G1,hlk];exact h2) (aK Pw hu1) hu1 (l _ _ OK) (l _ _ Rp) VC VB VA
   ((e3 _ (by decide)).trans g1) (e3 _ (by decide)) ((e3 _ (by decide)).trans g3) ((e3 _ (by decide)).trans g4) ((e3 _ (by decide)).trans g5) ((e3 _ (by decide)).trans g6) ((e3 _ (by decide)).trans g7) ((e3 _ (by decide)).trans g8) ((e3 _ (by decide)).trans g9) ((e3 _ (by decide)).trans g10))
end
theorem U9 {P:iJ} (hP:P.Ok){r:Rc} (h:r.Ok):(P.bs r).length<=100:=by
 have hb:=hP.b2
 have ht:=hP.t2
 cases r with
 |f=>exact AQ (cw [P.az] bJ og vT hb aQ) (cw [P.bt] bJ og vT ht aQ) hP.v
 |h d=>exact aK (zE h) (lE [] hJ 0x641310130 aQ)
 |e x=>exact aK (zG h) (lE [] hJ 0x64132b130 aQ)
section
variable {n:Nat}{H:Hp}{Q:PV}{X:PX}{wa:ax}{fs:ah (Nm×V)}{P:iJ}{a:Ad}{σ:Wd}
theorem PW {L:b5}{X:fk}{sv:Sv}{nn:Nat}{we ws:ax}{c:Nat} (hP:P.Ok) (T:jh P H wa fs a σ) (I:Inv P σ c) (hc:c<=10)
  (hn:σ.synced<=nn) (Jm:nn<=σ.F.length) (u2:(fb σ.bu nn).getLast?=aa sv)
  (OK:H we=aa (.bE ((c8 σ.aX nn).map nv))) (Rp:H ws=aa (.bE ((fb σ.bu nn).map (Jk P)))) (VC:we≠a.ak) (VB:ws≠a.ak) (VA:we≠ws)
  (g1:L .xw=aa (.ref wa)) (g3:L .f7=aa (.bE (dk (P.az+1) sv.rows))) (g4:L .cO=aa sv.hd.row) (g5:L .dY=aa (nv nn)) (g6:L .bq=aa (.bytes (σ.F.take nn))) (g7:L .kA=aa (.ref we)) (g8:L .iz=aa (.ref ws)) (g10:L .ot=aa (nv sv.e)):
  wSs (aM (n+9)) ag wg L H (tH P wa (c+1)) X:=by
 have h:=T.at_
 have D:=T.D
 obtain⟨cg,J,mD⟩:=I.jn
 have cc:=I.cc
 have fl:=I.fl
 have h2:=J.two nn hn
 have hlen:=J.AB
 have Ku:(c8 σ.aX nn).length<=σ.aX.length:=t8 _ _
 obtain⟨g,hgl⟩:∃ g,(c8 σ.aX nn).getLast?=aa g:=⟨_,Wv (by intro q;rw[q] at h2;simp at h2)⟩
 have hg:(c8 σ.aX nn).getLast?.getD 0=g:=by rw[hgl];rfl
 have Zq:g<=nn:=by have:=(nT.mp (BD hgl)).2;simpa using this
 have eu:σ.aX.filter (· <=nn)=c8 σ.aX nn:=rfl
 refine kG (bQ (aq (ai g6) (aq (bp (ai g1) h D.B) (aq (bw rfl) aE))) (Cu (cg:=cg.map P.bs) (D:=σ.F) (aX:=σ.aX) (c:=nn) ⟨hP.B1,hP.B2⟩ J.jr Jm (fw [σ.F.length,c] 0x110124f83011030 qJ nC 0x121040124f835000 hc fl aQ) (fun x hx=>?_) (by rw[cF];exact fw [cg.length,c] 0x11191011030 0x186a033000 nC 0x121041915000 hc mD aQ) fun H1 l1=>⟨rfl,?_⟩))
 ·obtain⟨r,hr,rfl⟩:=l9.mp hx
  exact U9 hP (J.ok r hr)
 have OJ:=l1 _ _ OK
 have lP:((c8 σ.aX nn).map nv).getLast?=aa (nv g):=by rw[TV,hgl];rfl
 rw[eu,hg,<- sF]
 have hlk:(((cg.take (c8 σ.aX nn).length).map P.bs).map (Vx.bytes:ah aA->V)).length=(c8 σ.aX nn).length:=by rw[cF,cF,eX];exact dK (by rw[hlen];exact Ku)
 have hl3:(c8 σ.aX nn).length<=line:=aK Ku (by rw[<- hlen];exact aK mD (aK (me 25 (eH hc)) (by decide)))
 refine bK (a9 (dJ (kI (ai rfl) (vA (ai g7) OJ lP)) (mZ rfl) (cP (ri (cX (eY (ai rfl) (by rw[hlk];exact hl3)) hlk) (cX (oy (ai g7) OJ (by rw[cF];exact hl3)) (cF ..)))))) (mZ rfl) ?_
 exact PU (cg:=cg) (n:=n) (nn:=nn) hP (T.more l1) I hc hn Jm u2 hg Zq J mD OJ (l1 _ _ Rp) VC VB VA g1 rfl g3 g4 g5 g6 g7 g8 rfl g10
end
section
variable {n:Nat}{H:Hp}{Q:PV}{X:PX}{wa:ax}{fs:ah (Nm×V)}{P:iJ}{a:Ad}{σ:Wd}
theorem PY {L:b5}{X:fk}{nn:Nat}{c:Nat} (hP:P.Ok) (T:jh P H wa fs a σ) (I:Inv P σ c) (hc:c<=10)
  (hn:σ.synced<=nn) (Jm:nn<=σ.F.length)
  (g1:L .xw=aa (.ref wa)) (g5:L .dY=aa (nv nn)) (g6:L .bq=aa (.bytes (σ.F.take nn))):
  wSs (aM (n+9)) ag wh L H (tH P wa (c+1)) X:=by
 have h:=T.at_
 have D:=T.D
 obtain⟨cg,J,mD⟩:=I.jn
 have cc:=I.cc
 have Mu:=I.Mu
 have hlen:=J.AB
 have hE:=T.G.E
 have hS:=T.G.S
 have hA:=T.G.A
 have Ku:(c8 σ.aX nn).length<=σ.aX.length:=t8 _ _
 have yM:(fb σ.bu nn).length<=σ.bu.length:=t8 _ _
 obtain⟨sv,pe,f1,_⟩:=J.KJ nn hn
 have hE5:σ.aX.length<=275:=by rw[<- hlen];exact aK mD (me 25 (eH hc))
 have hV:σ.bu.length<=11:=aK Mu (eH hc)
 have VL:275<=line:=by decide
 refine bM (w5 nv (fun e=>if e<=nn then aa (nv e) else au) σ.aX (bp (ai g1) h D.aX) (fU hE) (aK hE5 VL) (fun x hx k hk=>RV rfl (kJ (ai rfl) (ai g5)) rfl (ai rfl) ?_) ?_)
 ·by_cases q:x<=nn
  ·rw[a8 q] at hk;rw[c9 q];exact hk
  ·rw[bb q] at hk;rw[dW q];exact hk
 rw[AR nv (fun e=>e<=nn)]
 refine⟨by rw[cF];exact aK Ku (aK hE5 VL),fun we hwe=>?_⟩
 have nae:=a_ hA hwe
 have l1:H.le (H.set we (.bE ((c8 σ.aX nn).map nv))):=iB hwe
 have T1:=T.more l1
 have hS1:=l1 _ _ hS
 refine bM (w5 (Jk P) (fun e:Sv=>if e.e<=nn then aa (Jk P e) else au) σ.bu (bp (ai g1) T1.at_ D.bu) (fU hS1) (aK hV (aK (by decide) VL)) (fun x hx k hk=>RV rfl (kJ (sY (k:=0) (u:=nv x.e) (ai rfl) aH rfl (aT rfl)) (ai g5)) rfl (ai rfl) ?_) ?_)
 ·by_cases q:x.e<=nn
  ·rw[a8 q] at hk;rw[c9 q];exact hk
  ·rw[bb q] at hk;rw[dW q];exact hk
 rw[AR (Jk P) (fun e=>e.e<=nn)]
 refine⟨by rw[cF];exact aK yM (aK hV (aK (by decide) VL)),fun ws Ro=>?_⟩
 have l2:=iB (o:=.bE ((fb σ.bu nn).map (Jk P))) Ro
 have lP:((fb σ.bu nn).map (Jk P)).getLast?=aa (Jk P sv):=by rw[TV,f1];rfl
 have ad9:H ws=au:=none_le l1 Ro
 have nww:=eZ Ro aN
 refine Oo (vA (ai rfl) aN lP) rfl ?_
 exact PW (sv:=sv) hP (T1.more l2) I hc hn Jm f1 (l2 _ _ aN) aN nae.symm (a_ hA ad9).symm nww g1 rfl rfl g5 g6 rfl rfl rfl
end
section
variable {n:Nat}{H:Hp}{Q:PV}{X:PX}{wa:ax}{fs:ah (Nm×V)}{P:iJ}{a:Ad}{σ:Wd}
theorem PZ {L:b5}{X:fk}{r:Nat}{c:Nat} (hP:P.Ok) (T:jh P H wa fs a σ) (I:Inv P σ c) (hc:c<=10)
  (g1:L .xw=aa (.ref wa)) (g5:L .xr=aa (nv r)) (g6:L .bq=aa (.bytes σ.F)):
  wSs (aM (n+9)) ag wi L H (tH P wa (c+1)) X:=by
 have h:=T.at_
 have D:=T.D
 obtain⟨cg,J,mD⟩:=I.jn
 have cc:=I.cc
 have fl:=I.fl
 have sf:=J.sf
 have hm:=dD r (show 0 < σ.F.length-σ.synced+1 by exact lT [] vU [σ.F.length,σ.synced] hJ 0x12204021 aQ)
 have hl:σ.F.length<=line:=aK fl (aK (me 75000 (eH hc)) (by decide))
 have hle:r % (σ.F.length-σ.synced+1)<=σ.F.length-σ.synced:=xG hm
 have ab5:r % (σ.F.length-σ.synced+1)<=σ.F.length:=aK hle (jc ..)
 refine aR (c6 (eB (ai g6) hl) (eA (ai g5) (dM (c6 (eB (ai g6) hl) (bp (ai g1) h D.synced) sf)) (sC _)) ab5) ?_
 refine aR (Vg (ai g6) (ai rfl) (jc ..) hl) ?_
 exact PY (nn:=σ.F.length-r % (σ.F.length-σ.synced+1)) hP T I hc (EU [] 0x10020100203 [σ.synced,σ.F.length,r % (σ.F.length-σ.synced+1)] 0x110110000500110000011007001900110001100110801202 rK dO 0x12504201 lJ sf hm ab5 aQ) (jc ..) g1 rfl rfl
theorem O3 {r c:Nat} (hP:P.Ok) (T:jh P H wa fs a σ) (I:Inv P σ c) (hc:c<=10) (q:∀ H',(∃ fs' a' τ,Inv P τ (c+1)/\jh P H' wa fs' a' τ)->Q (.bool ag) H'):aM (n+10) .zC [.ref wa,nv r] H Q X:=by
 have h:=T.at_
 have D:=T.D
 have hF:σ.F.length<=line:=aK I.fl (aK (me 75000 (eH hc)) (by decide))
 obtain⟨ps,w2,w3,w4⟩:=T.G.J.fl
 refine bA rfl (aR gR (tK (bp (ai rfl) h D.file) (fU w2) (qo .bytes ps (fun done L H1=>L .xw=aa (.ref wa)/\L .xr=aa (nv r)/\L .bq=aa (.bytes done.flatten)/\H1=H) ⟨rfl,rfl,rfl,rfl⟩ ?_ ?_ ?_)))
 ·rintro _ _ _ ⟨_,_,_,rfl⟩;exact fU w2
 ·rintro done x rest L H1 e1 ⟨k1,k2,k3,rfl⟩
  have hl:=aW List.length w3
  rw[e1,xJ,qA,bN,bN] at hl
  exact aR (zw (ai k3) (ai rfl) (fw [done.flatten.length,x.length,σ.F.length,rest.flatten.length] eI 0x100000043100040 0x100000043200 0x20301040042 hF hl aQ)) (bG ⟨k1,k2,by rw[xJ,qA,xF,fT];rfl,rfl⟩)
 ·rintro L H1 ⟨k1,k2,k3,rfl⟩
  rw[w3] at k3
  refine bC (dG (dj _) _ ?_ (fun _ _ _ h=>h) (PZ hP T I hc k1 k2 k3))
  rintro o L2 H2 ⟨rfl,hT⟩
  exact q H2 hT
end
noncomputable def cfS:aB (ah Nat)->V
 |none=>.none
 |some vs=>cfr vs
noncomputable def Sg.says (σ:Sg):V:=.tup [nv σ.cnt,.tup [nv σ.bi,nv σ.bt,cfS σ.cf],σ.hd.row,.bE (σ.es.map En.row),.bE (σ.pend.map En.row)]
theorem Vo (n:Nat) (e:En):tM (n+2) e.row e.row=aa ag:=kH rfl (m_ ia (m_ ia (m_ ia (m_ (aW aa (c9 rfl)) rfl))))
theorem Ai (n:Nat):∀ es:ah En,oS (tM (n+2)) (es.map En.row) (es.map En.row)=aa ag
 |[]=>rfl
 |e::es=>m_ (Vo n e) (Ai n es)
theorem Y0 (n:Nat) (c:aB (ah Nat)):tM (n+3) (cfS c) (cfS c)=aa ag:=by
 cases c with
 |none=>rfl
 |some vs=>exact QF n vs
theorem Vh (σ:Sg):tM 6 σ.says σ.says=aa ag:=
 kH rfl (m_ ia (m_ (kH rfl (m_ ia (m_ ia (m_ (Y0 1 σ.cf) rfl)))) (m_ (MK 3 σ.hd) (m_ (JY rfl (Ai 2 σ.es)) (m_ (JY rfl (Ai 2 σ.pend)) rfl)))))
section
variable {n:Nat}{H H0:Hp}{Q:PV}{X:PX}{s:ax}{σ:Sg}
theorem Ba (S:gm H0 H s σ) (hv:∀ vs,σ.cf=aa vs->mf vs) (h1:σ.es.length<=1000) (h2:σ.pend.length<=1000) (q:Q σ.says H):aM (n+3) .AD [.ref s] H Q X:=by
 obtain⟨e,p,S⟩:=S
 have s1:=S.at_
 have key:∀ {L:b5},L .cq=aa (.ref s)->L .dq=aa (cfS σ.cf)->wSs (aM (n+2)) ag (.cons (.bz .cx (.tuple (.cons (.aV (.aC .cq) .cD) (.cons (.aV (.aC .cq) .bU) (.cons (.aC .dq) .nil)))))
   (.cons (.ret (.tuple (.cons (.aV (.aC .cq) .eK) (.cons (.aC .cx) (.cons (.bk (.aV (.aC .cq) .cO) .mW .nil) (.cons (.bL .j6 (.cons (.aV (.aC .cq) .aS) .nil)) (.cons (.bL .j6 (.cons (.aV (.aC .cq) .il) .nil)) .nil))))))) .nil)) L H (Ck Q) (wU X):=fun g1 g2=>
  aR (dw (aq (aP (ai g1) s1 rfl) (aq (aP (ai g1) s1 rfl) (aq (ai g2) aE))) (aT rfl)) (cy (dw (aq (aP (ai g1) s1 rfl) (aq (ai rfl) (aq (jX (aP (ai g1) s1 rfl) rfl aE fun _ _ q=>K7 (h:=σ.hd) q) (aq (eF (aq (aP (ai g1) s1 rfl) aE) fun _ _ q=>kP (fU S.es) h1 q) (aq (eF (aq (aP (ai g1) s1 rfl) aE) fun _ _ q=>kP (fU S.pd) h2 q) aE))))) (aT rfl)) q)
 refine bA rfl (aR iO ?_)
 have Zx:∀ {L:b5},L .cq=aa (.ref s)->PE (aM (n+2)) L H (.aV (.aC .cq) .dq) (cfO σ.cf):=fun g=>aP (ai g) s1 rfl
 cases hc:σ.cf with
 |none=>
  rw[hc] at Zx key
  exact bK (qg (Zx rfl)) rfl (key rfl rfl)
 |some vs=>
  rw[hc] at Zx key
  exact c5 (YY (D:=.g_) (fs:=cfo vs) (Zx rfl)) rfl (aR (jX (D:=.g_) (fs:=cfo vs) (Zx rfl) rfl aE fun _ _ q=>K9 (hv vs hc) q) (bG (bC (key rfl rfl))))
def GL (n:Nat) (H0:Hp) (s:ax) (σ:Sg) (r:ah aA):Prop:=∀ (H:Hp) (Q:PV) (X:PX),gm H0 H s σ->(∀ H',gm H0 H' s σ->X .eV H')->aM n .eU [.ref s,.bytes r] H Q X
theorem lq {rs:ah (ah aA)} (S:gm H0 H s σ) (hv:∀ vs,σ.cf=aa vs->mf vs) (h1:σ.es.length<=1000) (h2:σ.pend.length<=1000) (hr:∀ r∈rs,GL (n+3) H0 s σ r) (hl:rs.length<=1000)
  (q:∀ H',gm H0 H' s σ->Q (.bool ag) H'):aM (n+4) .lG [.ref s,.bE (rs.map .bytes)] H Q X:=by
 refine bA rfl (aR (eF (aq (ai rfl) aE) fun _ _ q=>Ba S hv h1 h2 q) (tK (ai rfl) rfl (qo .bytes rs (fun done L H1=>L .cq=aa (.ref s)/\L .YA=aa σ.says/\gm H0 H1 s σ) ⟨rfl,rfl,S⟩ (fun _ _ _ _=>rfl) ?_ ?_)))
 ·rintro done x rest L H1 e1 ⟨k1,k2,S1⟩
  have S1':=S1
  obtain⟨e,p,SA⟩:=S1'
  refine aR fG (My (bo (bH (ai k1) SA.at_ rfl (aq (ai rfl) aE) (hr x (by rw[e1];exact t9 _ (.head _)) H1 _ _ S1 fun H2 S2=>⟨rfl,?_⟩))))
  exact bC (bK (lS (ai rfl) rfl) rfl (bG ⟨k1,k2,S2⟩))
 ·rintro L H1 ⟨k1,k2,S1⟩
  exact bC (cy (QD (eF (aq (ai k1) aE) fun _ _ q=>Ba S1 hv h1 h2 q) (ai k2) (Vh σ)) (q _ S1))
end
section
variable {n:Nat}{H H0:Hp}{Q:PV}{X:PX}{s wa:ax}{σ:Sg}{fs:ah (Nm×V)}
theorem Ref.bad {r:ah aA} (hb:Bad σ.cnt r) (hl:r.length<=1000):GL (n+2) H0 s σ r:=fun H Q X S x=>KV S hb hl (x H S)
theorem Ref.KD {h:Hd}{x:En} (hh:h.Ok) (hc:1<=σ.cnt) (Zh:σ.es.length+σ.pend.length < 8000) (e:σ.pend=[x]) (hx:gQ σ.bi σ.es x=au) (ho:x.Ok):GL (n+9) H0 s σ h.bs:=
 fun H Q X S k=>vX hh S hc Zh (.inr ⟨x,e,hx,ho,k⟩)
theorem JC {L:b5}{X:fk}{t b r:Nat}{hd:Hd}{x0:En}{vs:ah Nat} (S:gm H0 H s ⟨4,b,t,aa vs,hd,[x0],[]⟩){t1:Nat} (hv:mf vs) (hh:hd.Ok) (ht:t1 < 2 ^ 32) (hb:b < 2 ^ 31) (h:H wa=aa (.i_ fs)) (kt:eG fs .bO=aa (nv t1))
  (g1:L .xw=aa (.ref wa)) (g2:L .cq=aa (.ref s)) (g3:L .cO=aa (.bytes hd.bs)) (g4:L .cx=aa (nv b)) (g5:L .xr=aa (nv r)):
  wSs (aM (n+10)) ag rX L H (fun o _ _=>o=.ret (.bool ag)) X:=by
 have S':=S
 obtain⟨e,p,SA⟩:=S'
 have w7:([.int 0,.int 3]:ah V)[r % 2]? =aa (nv (3*(r % 2))):=by
  rcases Nat.mod_two_eq_zero_or_one r with h |h<;>rw[h]<;>rfl
 have hr2:r % 2 < 2:=dD _ (by decide)
 have Ce:(⟨t1,b+3*(r % 2),0,[]⟩:En).Ok:=⟨ht,show b+3*(r % 2) < 2 ^ 32 by exact gg [] 0x21103102 [b,r] 0x31001101104002 0x100000000533003150041 0x8000000043001 hb aQ,.inl rfl,bX _⟩
 have hn:gQ b [x0] ⟨t1,b+3*(r % 2),0,[]⟩=au:=bb fun h=>by
  have h1:b+1<=b+3*(r % 2):=h.1
  have h2:b+3*(r % 2)<=b+1+1:=h.2
  lia
 refine bo (AH (ai g2) SA.at_ rfl (Ed (bQ (aq (vB (aq (bp (ai g1) h kt) (aq (cS (ai g4) (gG (cG (aq aH (aq aH aE)) (aT rfl)) (eA (j:=2) (ai g5) aH (by decide)) w7 (aT rfl))) (aq (bw rfl) (aq gR aE))))) aE) (j8 (e:=⟨t1,b+3*(r % 2),0,[]⟩) Ce fun H1 l1=>?_))))
 refine A7 (n:=n+3) (x:=⟨t1,b+3*(r % 2),0,[]⟩) ⟨e,p,SA.more l1⟩ Ce (show 2<=4 by decide) (aT rfl) fun H2 S2=>⟨rfl,gM (bQ (aq (ai g2) (aq (cG (aq (ai g3) aE) (aT rfl)) aE)) (lq (n:=n+6) (rs:=[hd.bs]) S2 (fun v h=>by(injection h with h;subst h);exact hv) (aT rfl) (aT rfl) (fun x hx=>?_) (aT rfl) fun H3 S3=>rfl))⟩
 rw[eT.mp hx]
 exact Ref.KD (n:=n) hh (show 1<=5 by decide) (aT rfl) rfl hn Ce
end
section
variable {n:Nat}{H H0:Hp}{Q:PV}{X:PX}{s wa:ax}{σ:Sg}{fs:ah (Nm×V)}{P:iJ}{a:Ad}{w:Wd}
structure EL (P:iJ) (t1 r:Nat) (wa s:ax) (L:b5) (odd:ah aA) (hd:Hd) (x0:En):Prop where
 w:L .xw=aa (.ref wa)
 r:L .xr=aa (nv r)
 az:L .cx=aa (nv P.az)
 odd:L .Jy=aa (.bytes odd)
 fold:L .Mm=aa (.bytes (Mine.fold P.az P.bt P.vs))
 other:L .zQ=aa (.bytes (Mine.fold (P.az+1) (P.bt+1) [3]))
 KD:L .cO=aa (.bytes hd.bs)
 first:L .iA=aa (.bytes x0.bs)
 st:L .cq=aa (.ref s)
structure EO (P:iJ) (t1:Nat) (odd:ah aA) (hd:Hd) (x0:En):Prop where
 o:∃ u rs,odd=u::rs/\u≠1/\u≠2/\u≠4/\rs.length<=4
 h:hd.Ok
 x:x0.Ok
 i:x0.i=P.az+1
 t:t1 < 2 ^ 32
theorem EO.bad {t1 c:Nat}{odd:ah aA}{hd:Hd}{x0:En} (E:EO P t1 odd hd x0):Bad c odd/\odd.length<=1000:=by
 obtain⟨u,rs,rfl,h1,h2,h4,hl⟩:=E.o
 exact⟨.inr ⟨u,rs,rfl,.inr (.inr (.inr ⟨h1,h2,h4⟩))⟩,eH (aK hl (by decide))⟩
theorem Bad.nil {c:Nat}:Bad c []:=.inl rfl
theorem v3:mf [3]:=⟨Yc ..,by decide,fun v h=>by rw[eT.mp h];decide⟩
theorem Xi (hP:P.Ok):(Mine.fold (P.az+1) (P.bt+1) [3]).length<=1000:=
 aK (AQ (cE (eH hP.b2) (by decide)) (cE (eH hP.t2) (by decide)) v3) (by decide)
theorem W7 {x0:En} (h:x0.Ok):x0.bs.length<=1000:=aK (zG h) (by decide)
theorem ace {hd:Hd} (h:hd.Ok):hd.bs.length<=1000:=aK (zE h) (by decide)
theorem abE {α:Type}{p:α->Prop}{a b c:α} (h1:p a) (h2:p b) (h3:p c):∀ x∈[a,b,c],p x:=fun x h=>by
 rcases dT.mp h with rfl |h
 ·exact h1
 ·rcases dT.mp h with rfl |h
  ·exact h2
  ·rw[eT.mp h];exact h3
theorem abD {α:Type}{p:α->Prop}{a b c d:α} (h0:p a) (h1:p b) (h2:p c) (h3:p d):∀ x∈[a,b,c,d],p x:=fun x h=>by
 rcases dT.mp h with rfl |h
 ·exact h0
 ·exact abE h1 h2 h3 x h
theorem vJ {C:CC}{L:b5}{H:Hp}{a:E}{Q:PV}{X:PX} (k:wE C a L H (fun x H1=>Got (truth H1 x) fun t=>Q (.bool !t) H1) X):wE C (.kL a) L H Q X:=k
theorem zD {C:CC}{L:b5}{H:Hp}{a c:E}{kk:aj}{Q:PV}{X:PX} (k:wE C a L H (fun x H1=>Got (truth H1 x) fun t=>cond (t==kk) (wE C c L H1 Q X) (Q x H1)) X):wE C (.b7 kk (.cons a (.cons c .nil))) L H Q X:=k
theorem V4 {A B:Prop} (k:A):cond (ao==ao) A B:=k
theorem OP {A B:Prop} (k:B):cond ao A B:=k
theorem JD {L:b5}{X:fk}{t1 r:Nat}{odd:ah aA}{hd:Hd}{x0:En} (hP:P.Ok) (S:gm H0 H s ⟨4,P.az,P.bt,aa P.vs,hd,[x0],[]⟩) (E:EO P t1 odd hd x0) (A:EL P t1 r wa s L odd hd x0) (h:H0 wa=aa (.i_ fs)) (kt:eG fs .bO=aa (nv t1)):
  wSs (aM (n+10)) ag rY L H (fun o _ _=>o=.ret (.bool ag)) X:=by
 have hb:=hP.b2
 refine z8 (zD (vJ (bQ (aq (ai A.st) (aq (cG (aq gR (aq (ai A.odd) (aq (ai A.other) aE))) (aT rfl)) aE)) (lq (n:=n+6) (rs:=[[],odd,_]) S (fun v h=>by(injection h with h;subst h);exact hP.v) (aT rfl) (aT rfl) (abE (Ref.bad .nil (bX _)) (Ref.bad E.bad.1 (E.bad (c:=0)).2) (Ref.bad (.inr ⟨4,_,rfl,.inr (.inr (.inl ⟨sC _,rfl⟩))⟩) (Xi hP))) (aT rfl) fun H3 S3=>⟨ag,rfl,ao,rfl,V4 ?_⟩))))
 obtain⟨e,p,SA⟩:=S3
 refine(ri (oy (aP (ai A.st) SA.at_ rfl) SA.es (aT rfl)) (aH (i:=((1:Nat):Int)))) _ _ ⟨_,mZ rfl,OP (bG (bC ?_))⟩
 exact JC ⟨e,p,SA⟩ hP.v E.h E.t (cE hb (by decide)) (SA.le _ _ h) kt A.w A.st A.KD A.az A.r
theorem JE {L:b5}{X:fk}{t1 r:Nat}{odd:ah aA}{hd:Hd}{x0:En} (hP:P.Ok) (S:gm H0 H s ⟨1,P.az,P.bt,aa P.vs,⟨0,0,0⟩,[],[]⟩) (E:EO P t1 odd hd x0) (A:EL P t1 r wa s L odd hd x0) (h:H0 wa=aa (.i_ fs)) (kt:eG fs .bO=aa (nv t1)):
  wSs (aM (n+10)) ag rZ L H (fun o _ _=>o=.ret (.bool ag)) X:=by
 obtain⟨e,p,SA⟩:=S
 refine bo (bH (ai A.st) SA.at_ rfl (aq (ai A.KD) aE) (vX (n:=n+1) E.h ⟨e,p,SA⟩ (bD 1) (aT rfl) (.inl ⟨[],rfl,fun H1 S1=>⟨rfl,?_⟩⟩)))
 obtain⟨e,p,SA⟩:=S1
 refine bo (bH (ai A.st) SA.at_ rfl (aq (ai A.first) aE) (A7 (n:=n+3) (x:=x0) ⟨e,p,SA⟩ E.x (bD 2) (aT rfl) fun H2 S2=>⟨rfl,?_⟩))
 obtain⟨e,p,SA⟩:=S2
 have hsa:fg P.az [] [x0]=aa [x0]:=by
  have hi:=E.i
  have:gQ P.az [] x0=aa ([].take (x0.i-P.az-1)++[x0]):=a8 ⟨gX hi.symm,gX hi⟩
  rw[xA] at this
  show(gQ P.az [] x0).bind _=_
  rw[this];rfl
 exact bo (bH (ai A.st) SA.at_ rfl (aq (ai A.KD) aE) (vX (n:=n+1) E.h ⟨e,p,SA⟩ (show 1<=3 by decide) (aT rfl) (.inl ⟨[x0],hsa,fun H3 S3=>⟨rfl,JD hP S3 E A h kt⟩⟩)))
theorem N3 {L:b5}{X:fk}{t1 r:Nat}{odd:ah aA}{hd:Hd}{x0:En} (hP:P.Ok) (S:gm H0 H s ⟨0,0,0,au,⟨0,0,0⟩,[],[]⟩) (E:EO P t1 odd hd x0) (A:EL P t1 r wa s L odd hd x0) (h:H0 wa=aa (.i_ fs)) (kt:eG fs .bO=aa (nv t1)):
  wSs (aM (n+10)) ag tX L H (fun o _ _=>o=.ret (.bool ag)) X:=by
 have hb:=hP.b2
 have ht:=hP.t2
 obtain⟨e,p,SA⟩:=S
 refine bo (bH (ai A.st) SA.at_ rfl (aq (ai A.fold) aE) (IF (n:=n+2) ⟨e,p,SA⟩ rfl (cE hb (by decide)) (cE ht (by decide)) hP.v fun H1 S1=>⟨rfl,?_⟩))
 have S1:gm H0 H1 s ⟨1,P.az,P.bt,aa P.vs,⟨0,0,0⟩,[],[]⟩:=S1
 refine z8 (vJ (bQ (aq (ai A.st) (aq (cG (aq gR (aq (ai A.odd) (aq (ai A.other) (aq (ai A.first) aE)))) (aT rfl)) aE)) (lq (n:=n+6) (rs:=[[],odd,_,_]) S1 (fun v h=>by(injection h with h;subst h);exact hP.v) (aT rfl) (aT rfl) (abD (Ref.bad .nil (bX _)) (Ref.bad E.bad.1 (E.bad (c:=0)).2) (Ref.bad (.inr ⟨4,_,rfl,.inr (.inl ⟨rfl,by decide⟩)⟩) (Xi hP)) (Ref.bad (.inr ⟨2,_,rfl,.inr (.inl ⟨rfl,by decide⟩)⟩) (W7 E.x))) (aT rfl) fun H3 S3=>⟨ag,rfl,ao,rfl,OP (bG (bC (JE hP S3 E A h kt)))⟩)))
end
section
variable {n:Nat}{H H0:Hp}{Q:PV}{X:PX}{s wa:ax}{σ:Sg}{fs:ah (Nm×V)}{P:iJ}{a:Ad}{w:Wd}
theorem N4 {L:b5}{X:fk}{t1 r:Nat}{odd:ah aA}{hd:Hd}{x0:En} (hP:P.Ok) (E:EO P t1 odd hd x0) (h:H wa=aa (.i_ fs)) (kt:eG fs .bO=aa (nv t1))
  (g1:L .xw=aa (.ref wa)) (g2:L .xr=aa (nv r)) (g3:L .cx=aa (nv P.az)) (g4:L .Jy=aa (.bytes odd)) (g5:L .Mm=aa (.bytes (fold P.az P.bt P.vs))) (g6:L .zQ=aa (.bytes (fold (P.az+1) (P.bt+1) [3]))) (g7:L .cO=aa (.bytes hd.bs)) (g8:L .iA=aa (.bytes x0.bs)):
  wSs (aM (n+10)) ag tY L H (fun o _ _=>o=.ret (.bool ag)) X:=by
 refine bM (lV aE rfl fun s hs=>XR hs fun H1 S1=>⟨rfl,z8 (vJ (bQ (aq (ai rfl) (aq (cG (aq gR (aq (ai g4) (aq (ai g7) (aq (ai g8) aE)))) (aT rfl)) aE)) (lq (n:=n+6) (rs:=[[],odd,_,_]) S1 nofun (aT rfl) (aT rfl) (abD (Ref.bad .nil (bX _)) (Ref.bad E.bad.1 (E.bad (c:=0)).2) (Ref.bad (.inr ⟨1,_,rfl,.inl ⟨rfl,by decide⟩⟩) (ace E.h)) (Ref.bad (.inr ⟨2,_,rfl,.inl ⟨rfl,by decide⟩⟩) (W7 E.x))) (aT rfl) fun H3 S3=>⟨ag,rfl,ao,rfl,OP (bG (bC (N3 hP S3 E ⟨g1,g2,g3,g4,g5,g6,g7,g8,rfl⟩ h kt)))⟩)))⟩)
theorem N5 {L:b5}{X:fk}{r c:Nat}{odd:ah aA} (hP:P.Ok) (T:jh P H wa fs a w) (I:Inv P w c) (ho:∃ u rs,odd=u::rs/\u≠1/\u≠2/\u≠4/\rs.length<=4)
  (g1:L .xw=aa (.ref wa)) (g2:L .xr=aa (nv r)) (g3:L .cx=aa (nv P.az)) (g4:L .Jy=aa (.bytes odd)):
  wSs (aM (n+10)) ag tZ L H (fun o _ _=>o=.ret (.bool ag)) X:=by
 have h:=T.at_
 have D:=T.D
 have hb:=cE hP.b2 (show 50000 < 2 ^ 32 by decide)
 have Zz:=cE (eH hP.b2) (show 50001 < 2 ^ 32 by decide)
 have ht:=cE hP.t2 (show 50000 < 2 ^ 32 by decide)
 have ht1:=cE (eH hP.t2) (show 50001 < 2 ^ 32 by decide)
 have t2:=I.UM hP (bD _)
 have hh:(⟨w.b8,0,P.az⟩:Hd).Ok:=⟨t2,show 0 < 2 ^ 32 by decide,hb⟩
 have hx:(⟨w.b8,P.az+1,0,[]⟩:En).Ok:=⟨t2,Zz,.inl rfl,bX _⟩
 refine bM (bQ (aq (ai g3) (aq (bp (ai g1) h D.bt) (aq (bp (ai g1) h D.kO) aE))) (o7 (n:=n+4) hb ht hP.v fun H1 l1=>?_))
 have h1:=l1 _ _ h
 refine bM (bQ (aq (dM (ai g3)) (aq (dM (bp (ai g1) h1 D.bt)) (aq (EB (n:=n+8) (x:=.bE [.int 3]) v3 rfl (aq (cG (aq aH aE) (aT rfl)) (aq (cG aE (bX _)) (aq (cG aE (bX _)) (aq (cG aE (bX _)) (aq fG aE)))))) aE))) (o7 (n:=n+4) Zz ht1 v3 fun H2 l2=>?_))
 have h2:=l2 _ _ h1
 refine bM (bQ (aq (oz (aq (bp (ai g1) h2 D.b8) (aq aH (aq (ai g3) aE)))) aE) (o6 (n:=n+6) (h:=⟨w.b8,0,P.az⟩) hh fun H3 l3=>?_))
 have h3:=l3 _ _ h2
 refine bM (bQ (aq (vB (aq (bp (ai g1) h3 D.b8) (aq (dM (ai g3)) (aq (bw rfl) (aq gR aE))))) aE) (j8 (n:=n+5) (e:=⟨w.b8,P.az+1,0,[]⟩) hx fun H4 l4=>?_))
 exact N4 (n:=n) (t1:=w.b8) (x0:=⟨w.b8,P.az+1,0,[]⟩) (hd:=⟨w.b8,0,P.az⟩) hP ⟨ho,hh,hx,rfl,t2⟩ (l4 _ _ h3) D.b8 g1 g2 g3 g4 rfl rfl rfl rfl
theorem K6 {r c:Nat} (hP:P.Ok) (T:jh P H wa fs a w) (I:Inv P w c) (q:∀ H',Q (.bool ag) H'):aM (n+11) .AE [.ref wa,nv r] H Q X:=by
 have h:=T.at_
 have D:=T.D
 have hm:=dD r (show 0 < 251 by decide)
 obtain⟨v,hv,VU⟩:∃ v:Nat,([.int 0,.int 3,nv (5+r % 251)]:ah V)[r / 251 % 3]? =aa (nv v)/\v<=255/\v≠1/\v≠2/\v≠4:=by
  have:r / 251 % 3 < 3:=dD _ (by decide)
  match r / 251 % 3,this with
  | 0,_=>exact⟨0,rfl,by decide⟩
  | 1,_=>exact⟨3,rfl,by decide⟩
  | 2,_=>exact⟨5+r % 251,rfl,by exact gg [] 0xfb1003101 [r] 0x11000000600410000110000006004103100001100000500310210110110030001 0x42205242622205242671220524267ff132052407 0xfb13201 hm aQ⟩
 have aeh:octets [((v:Nat):Int),0,0,0,0]=aa [UInt8.ofNat v,0,0,0,0]:=by
  unfold octets
  rw[a8 ⟨gw _,by exact cw [v] oZ A5 0x42002622002671200267ff130007 VU aQ⟩];rfl
 have ne:∀ k:Nat,k<=255->v≠k->UInt8.ofNat v≠UInt8.ofNat k:=fun k hk hvk q=>by
  have:=aW UInt8.toNat q
  rw[ofNat_toNat (sI VU.1),ofNat_toNat (sI hk)] at this
  exact hvk this
 refine bA rfl (aR (bp (ai rfl) h D.az) (aR (oA (is:=[(v:Int),0,0,0,0]) (cG (aq (gG (cG (aq aH (aq aH (aq (cS (k:=5) aH (eA (j:=251) (ai rfl) aH (by decide))) aE))) (aT rfl)) (eA (j:=3) (fh (j:=251) (ai rfl) aH (by decide) (by decide)) aH (by decide)) hv (aT rfl)) (aq aH (aq aH (aq aH (aq aH aE))))) (aT rfl)) rfl aeh (aT rfl)) ?_))
 refine dG (dj _) _ ?_ (fun _ _ _ h=>h) (N5 (n:=n) (r:=r) hP T I ⟨UInt8.ofNat v,[0,0,0,0],rfl,ne 1 (by decide) VU.2.1,ne 2 (by decide) VU.2.2.1,ne 4 (by decide) VU.2.2.2,bD 4⟩ rfl rfl rfl rfl)
 rintro o L2 H2 rfl
 exact q H2
end
section
variable {n:Nat}{H:Hp}{Q:PV}{X:PX}{wa:ax}{fs:ah (Nm×V)}{P:iJ}{a:Ad}{σ:Wd}{c:Nat}
theorem Ey {C:CC}{L:b5}{H:Hp}{e c:E}{k j:Nat} (p:PE C L H e (.int k)) (q:PE C L H c (.int j)) (h1:small k) (h2:small j):PE C L H (.bR .mul e c) (.int (k*j:Nat)):=eW (Ez p q h1 h2) rfl
theorem nF {ns:ah Nat}{i:Nat} (hn:ns≠[]) (hl:ns.length<=12) (hb:∀ x∈ns,x < 1000000) (hi:i<=20) (q:∀ v:Nat,v < 2 ^ 30->Q (nv v) H):aM (n+1) .pG [.bE (ns.map nv),.int i] H Q X:=by
 have hp:0 < ns.length:=qB.mpr hn
 have hm:=dD i hp
 have hd:i / ns.length<=20:=aK (TA _ _) hi
 obtain⟨v,hv⟩:∃ v,ns[i % ns.length]? =aa v:=⟨_,lK hm⟩
 have VU:=hb v (BE hv)
 have hg:(ns.map nv)[i % ns.length]? =aa (nv v):=by rw[BX,hv];rfl
 have lP:(ns.map nv).length<=line:=by rw[cF];exact aK hl (by decide)
 have hlen:∀ {L},L .i8=aa (.bE (ns.map nv))->PE (aM n) L H (.bc .len (.cons (.aC .i8) .nil)) (nv ns.length):=fun h=>cX (eY (ai h) lP) (cF ..)
 refine bA rfl (cy (cS (gG (ai rfl) (eA (ai rfl) (hlen rfl) hp) hg lP) (Ey (k:=7919) aH (fh (ai rfl) (hlen rfl) hp (cE hl (by decide))) (He (by decide)) (He (cE hd (by decide))))) (q _ ?_))
 exact ma (Nat.add_lt_add_of_lt_of_le VU (me 7919 hd)) (by decide)
def WI (P:iJ) (wa:ax) (c:Nat) (H:Hp):Prop:=∃ fs a σ,Inv P σ c/\jh P H wa fs a σ
theorem z9 {r:Nat} (hP:P.Ok) (T:WI P wa c H) (hc:c<=10) (q:∀ H',WI P wa (c+1) H'->Q (.bool ag) H'):aM (n+7) .ny [.ref wa,nv r] H Q X:=by
 obtain⟨fs,a,σ,I,T⟩:=T
 exact Fy hP T I hc fun H' fs' T'=>q H' ⟨_,_,_,I.append hc r,T'⟩
theorem JO {r:Nat} (hP:P.Ok) (T:WI P wa c H) (hc:c<=10) (q:∀ H',WI P wa (c+1) H'->Q (.bool ag) H'):aM (n+6) .rx [.ref wa,nv r] H Q X:=by
 obtain⟨fs,a,σ,I,T⟩:=T
 exact KZ hP T I hc fun H' h=>q H' (by obtain⟨fs',a',τ,I',T'⟩:=h;exact⟨_,_,_,I',T'⟩)
theorem Xd {r:Nat} (hP:P.Ok) (T:WI P wa c H) (hc:c<=10) (q:∀ H',WI P wa (c+1) H'->Q (.bool ag) H'):aM (n+10) .zC [.ref wa,nv r] H Q X:=by
 obtain⟨fs,a,σ,I,T⟩:=T
 exact O3 hP T I hc fun H' h=>q H' (by obtain⟨fs',a',τ,I',T'⟩:=h;exact⟨_,_,_,I',T'⟩)
theorem U6 {r:Nat} (hP:P.Ok) (T:WI P wa c H) (q:∀ H',WI P wa c H'->Q .none H'):aM (n+4) .w0 [.ref wa,.int r] H Q X:=by
 obtain⟨fs,a,σ,I,T⟩:=T
 have:=hP.b1
 exact IM T (cw [P.az] bJ 288 544 this aQ) fun H' fs' i T' _ _=>q H' ⟨_,_,{σ with app:=i},⟨I.cc,I.jn,I.fl,I.ld,I.nw,I.t1,I.t2,I.lt,I.s1,I.s2,I.safe,I.sv,I.Jt,I.Uq,I.Mu,I.new⟩,T'⟩
theorem Qm (T:WI P wa c H) (q:Q (.bool ag) H):aM (n+8) .ql [.ref wa] H Q X:=by
 obtain⟨fs,a,σ,I,T⟩:=T
 exact v5 T q
theorem Er {r:Nat} (hP:P.Ok) (T:WI P wa c H) (q:∀ H',Q (.bool ag) H'):aM (n+11) .AE [.ref wa,nv r] H Q X:=by
 obtain⟨fs,a,σ,I,T⟩:=T
 exact K6 hP T I q
theorem WI.up (T:WI P wa c H){d:Nat} (h:c<=d) (hd:d<=11):WI P wa d H:=by
 obtain⟨fs,a,σ,I,T⟩:=T
 obtain⟨cc,⟨cg,J,hr⟩,fl,ld,nw,t1,t2,lt,s1,s2,safe,sv,Jt,Uq,Mu,new⟩:=I
 exact⟨fs,a,σ,⟨hd,⟨cg,J,by exact fw [cg.length,d,c] 0x11191011030 0x121041915000 lJ 0x122041915000 h hr aQ⟩,by exact fw [σ.F.length,d,c] 0x110124f83011030 0x121040124f835000 lJ 0x122040124f835000 h fl aQ,by exact fw [σ.bh.length,d,c] AW lI lJ Ir h ld aQ,by exact fw [σ.now.length,d,c] AW lI lJ Ir h nw aQ,t1,by exact fw [σ.b8,P.bt,d,c] AW 0x200215121044000 tQ 0x300215121044000 h t2 aQ,lt,s1,s2,safe,fun s hs=>by obtain⟨k1,k2,k3⟩:=sv s hs;exact⟨k1,by exact fw [s.rows.length,d,c] AW lI lJ Ir h k2 aQ,k3⟩,Jt,by exact fw [σ.bV.length,d,c] eI dO lJ pO h Uq aQ,by exact fw [σ.bu.length,d,c] eI pR lJ 0x12204000 h Mu aQ,by exact fw [σ.b9,P.az,d,c] AW 0x200215321044000 tQ 0x300215321044000 h new aQ⟩,T⟩
end
section
variable {C:CC}{L:b5}{H:Hp}{e c:E}{A B:Prop} [cN A] [cN B]
theorem Qy (p:PE C L H e (.bool (decide A))) (q:PE C L H c (.bool (decide B))):PE C L H (.b7 ao (.cons e (.cons c .nil))) (.bool (decide (A∨B))):=by
 by_cases h:A
 ·exact gF (a9 (ni p (dC h))) (by rw[c9 h,c9 (Or.inl h)])
 ·exact gF (a9 (dJ p (cb h) (cP q))) (aW Vx.bool (kW.mpr ⟨.inr,fun x=>x.resolve_left h⟩))
theorem Vq (p:PE C L H e (.bool (decide A))) (q:PE C L H c (.bool (decide B))):PE C L H (.b7 ag (.cons e (.cons c .nil))) (.bool (decide (A/\B))):=by
 by_cases h:A
 ·exact gF (a9 (dJ p (dC h) (cP q))) (aW Vx.bool (kW.mpr ⟨fun x=>⟨h,x⟩,fun x=>x.2⟩))
 ·exact gF (a9 (jl p (cb h))) (by rw[dW h,dW fun x=>h x.1])
end
section
variable {n:Nat}{H:Hp}{Q:PV}{X:PX}{wa:ax}{fs:ah (Nm×V)}{P:iJ}{a:Ad}{σ:Wd}{c:Nat}
def AL (ns:ah Nat) (P:iJ) (wa:ax) (z c:Nat) (L:b5) (H:Hp):Prop:=L .xw=aa (.ref wa)/\L .i8=aa (.bE (ns.map nv))/\L .xz=aa (nv z)/\WI P wa c H
theorem WI.cuts (T:jh P H wa fs a σ) (I:Inv P σ c) (k:Nat):WI P wa c (H.set wa (.i_ (cL fs .qF (nv k)))):=
 ⟨_,a,{σ with cuts:=k},⟨I.cc,I.jn,I.fl,I.ld,I.nw,I.t1,I.t2,I.lt,I.s1,I.s2,I.safe,I.sv,I.Jt,I.Uq,I.Mu,I.new⟩,aN,T.D.YM,wD.same (σ:=σ) (T.G.Z6 T) rfl rfl rfl rfl rfl⟩
theorem PT {L:b5}{X:fk}{ns:ah Nat}{i z:Nat} (hi:i < 6) (hn:ns≠[]) (hl:ns.length<=12) (hb:∀ x∈ns,x < 1000000) (hP:P.Ok) (A:AL ns P wa z c L H) (hc:c<=10) (g3:L .xi=aa (.int i)):
  wSs (aM (n+11)) ao IZ L H (fun o L1 H1=>o=.next/\AL ns P wa z (c+1) L1 H1) X:=by
 obtain⟨g1,g2,g4,T⟩:=A
 refine bM (bQ (aq (ai g2) (aq (cS (k:=3) aH (ai g3)) aE)) (nF (n:=n+10) hn hl hb (cw [i] bJ 0x1413003240 0x62001 hi aQ) fun v hv=>?_))
 refine aR (fh (j:=8) (ai rfl) aH (by decide) (by decide)) (aR (eA (j:=8) (ai rfl) aH (by decide)) (aR fG ?_))
 have T':=T
 obtain⟨fs,a,σ,I,Wd⟩:=T'
 have h:=Wd.at_
 have D:=Wd.D
 generalize v % 8=m
 generalize v / 8=r
 have fin:∀ {L':b5}{H':Hp},L' .xw=aa (.ref wa)->L' .i8=aa (.bE (ns.map nv))->L' .xz=aa (nv z)->L' .lB=aa (.bool ag)->WI P wa (c+1) H'->wSs (aM (n+11)) ao yr L' H' (fun o L1 H1=>o=.next/\AL ns P wa z (c+1) L1 H1) X:=
  fun k1 k2 k3 k4 k5=>bK (lS (ai k4) rfl) rfl (bG ⟨rfl,k1,k2,k3,k5⟩)
 refine q_ (Vq (Qy (fF (j:=1) (ai rfl) aH) (fF (j:=7) (ai rfl) aH)) (fo (j:=0) (bp (ai g1) h D.cuts) aH)) (fun hA=>?_) fun _=>q_ (Qy (fF (j:=2) (ai rfl) aH) (fF (j:=4) (ai rfl) aH)) (fun _=>?_) fun _=>q_ (fF (j:=6) (ai rfl) aH) (fun _=>?_) fun _=>?_
 ·refine Ol (ai g1) h D.cuts aH D.lU ?_
  have ec:((σ.cuts:Nat):Int)-1=((σ.cuts-1:Nat):Int):=(LQ (show 1<=σ.cuts from hA.2)).symm
  rw[ec]
  exact bM (bQ (aq (ai g1) (aq (ai rfl) aE)) (Xd (n:=n+1) (r:=r) hP (WI.cuts Wd I _) hc fun H' T'=>bG (bC (fin g1 g2 g4 rfl T'))))
 ·exact bM (bQ (aq (ai g1) (aq (ai rfl) aE)) (JO (n:=n+5) (r:=r) hP T hc fun H' T'=>bG (bC (bG (bC (fin g1 g2 g4 rfl T'))))))
 ·exact bo (bQ (aq (ai g1) (aq (ai rfl) aE)) (U6 (n:=n+7) (r:=r) hP T fun H' T'=>⟨rfl,bG (bC (bG (bC (bG (bC (fin g1 g2 g4 rfl (T'.up (Ge c) (eH hc))))))))⟩))
 ·exact bM (bQ (aq (ai g1) (aq (ai rfl) aE)) (z9 (n:=n+4) (r:=r) hP T hc fun H' T'=>bG (bC (bG (bC (bG (bC (fin g1 g2 g4 rfl T'))))))))
end
section
variable {n:Nat}{H:Hp}{Q:PV}{X:PX}{wa:ax}{fs:ah (Nm×V)}{P:iJ}{a:Ad}{σ:Wd}{c:Nat}
theorem NZ {L:b5}{X:fk}{ns:ah Nat}{z:Nat} (hn:ns≠[]) (hl:ns.length<=12) (hb:∀ x∈ns,x < 1000000) (hP:P.Ok) (A:AL ns P wa z 8 L H):
  wSs (aM (n+11)) ag DT L H (fun o L1 H1=>o=.ret (.bool ag)) X:=by
 obtain⟨g1,g2,g4,T⟩:=A
 refine bM (bQ (aq (ai g2) (aq (aH (i:=((9:Nat):Int))) aE)) (nF (n:=n+10) (i:=9) hn hl hb (by decide) fun v hv=>?_))
 refine z8 (zD (vJ (bQ (aq (ai g1) (aq (ai rfl) aE)) (JO (n:=n+5) (r:=v) hP T (by decide) fun H1 T1=>⟨ag,rfl,ao,rfl,V4 (vJ (bQ (aq (ai g1) (aq (fh (j:=2) (ai rfl) aH (by decide) (by decide)) aE)) (Xd (n:=n+1) (r:=v / 2) hP T1 (by decide) fun H2 T2=>⟨ag,rfl,ao,rfl,OP (bG (bC ?_))⟩)))⟩))))
 refine z8 (zD (vJ (bQ (aq (ai g1) (aq (fh (j:=7) (ai rfl) aH (by decide) (by decide)) aE)) (z9 (n:=n+4) (r:=v / 7) hP T2 (by decide) fun H3 T3=>⟨ag,rfl,ao,rfl,V4 (vJ (bQ (aq (ai g1) aE) (Qm (n:=n+3) T3 ⟨ag,rfl,ao,rfl,OP (bG (bC ?_))⟩)))⟩))))
 exact gM (bQ (aq (ai g1) (aq (ai g4) aE)) (Er hP T3 fun H'=>rfl))
theorem N0 {L:b5}{X:fk}{ns:ah Nat}{z:Nat} (hn:ns≠[]) (hl:ns.length<=12) (hb:∀ x∈ns,x < 1000000) (hP:P.Ok) (A:AL ns P wa z 2 L H):
  wSs (aM (n+11)) ag DU L H (fun o L1 H1=>o=.ret (.bool ag)) X:=by
 refine zp (aH (i:=((6:Nat):Int))) (by decide) (by decide) (Ff 6 rfl (fun k L H=>AL ns P wa z (2+k) L H) A ?_ ?_)
 ·rintro m L H hm ⟨g1,g2,g4,T⟩
  refine dG (dj _) _ ?_ (fun _ _ _ h=>h) (PT (n:=n) (i:=m) (c:=2+m) (wa:=wa) (z:=z) (L:=L.set .xi (.int m)) hm hn hl hb hP ⟨g1,g2,g4,T⟩ (cw [m] bJ 0xa2002240 0x62001 hm aQ) rfl)
  rintro o L1 H1 ⟨rfl,A1⟩
  exact A1
 ·rintro L H A
  exact bC (NZ hn hl hb hP A)
end
section
variable {n:Nat}{H:Hp}{Q:PV}{X:PX}{wa:ax}{fs:ah (Nm×V)}{P:iJ}{a:Ad}{σ:Wd}{c:Nat}
theorem N1 {L:b5}{X:fk}{ns:ah Nat}{z:Nat} (hz:z < 2 ^ 30) (hn:ns≠[]) (hl:ns.length<=12) (hb:∀ x∈ns,x < 1000000) (hP:P.Ok) (T:jh P H wa fs a σ) (I:Inv P {σ with bh:=List.replicate 3 σ.b8} 0)
  (g1:L .xw=aa (.ref wa)) (g2:L .i8=aa (.bE (ns.map nv))) (g3:L .xz=aa (nv z)) (g4:L .cx=aa (nv P.az)):
  wSs (aM (n+11)) ag DV L H (fun o L1 H1=>o=.ret (.bool ag)) X:=by
 have h:=T.at_
 have D:=T.D
 have ht:σ.b8 < 2 ^ 32:=I.UM hP (bD _)
 refine iM (y:=.bE (dk (P.az+1) (List.replicate 3 σ.b8))) (eF (aq (bp (ai g1) h D.b8) (aq (dM (ai g4)) (aq (aH (i:=((3:Nat):Int))) aE))) fun _ _ q=>uK (n:=n+10) (c:=3) ht (cE (eH hP.b2) (by decide)) (by decide) q) (ai g1) h D.lU ?_
 have W0:WI P wa 0 (H.set wa (.i_ (cL fs .ji (.bE (dk (P.az+1) (List.replicate 3 σ.b8)))))):=⟨_,a,{σ with bh:=List.replicate 3 σ.b8},I,aN,D.Qi,wD.same (σ:=σ) (T.G.Z6 T) rfl rfl rfl rfl rfl⟩
 have z1:z % 997 < 2 ^ 40:=ma (dD z (by decide)) (by decide)
 have z2:z / 997 < 2 ^ 40:=cE (TA ..) (ft hz (by decide))
 refine z8 (zD (vJ (bQ (aq (ai g1) (aq (cS (k:=1) aH (Ey (k:=12) aH (eA (j:=997) (ai g3) aH (by decide)) (He (by decide)) (He z1))) aE)) (z9 (n:=n+4) (r:=1+12*(z % 997)) hP W0 (by decide) fun H1 T1=>⟨ag,rfl,ao,rfl,V4 (vJ (bQ (aq (ai g1) (aq (Ey (k:=2) aH (fh (j:=997) (ai g3) aH (by decide) (by decide)) (He (by decide)) (He z2)) aE)) (JO (n:=n+5) (r:=2*(z / 997)) hP T1 (by decide) fun H2 T2=>⟨ag,rfl,ao,rfl,OP (bG (bC ?_))⟩)))⟩))))
 exact N0 hn hl hb hP ⟨g1,g2,g3,T2⟩
noncomputable def fs0 (P:iJ) (cuts:Nat) (ak:ax):ah (Nm×V):=[(.cx,nv P.az),(.bU,nv P.bt),(.dB,nv P.B),(.qF,nv cuts),(.dq,Nn P.vs),(.bO,nv (P.bt+1)),(.ji,.bE []),(.tI,nv P.az),(.ip,.bE []),(.b6,nv P.az),(.d_,nv P.az),(.lA,nv 0),(.fY,nv P.az),(.mY,.ref ak)]
noncomputable def Wd.zero (P:iJ) (cuts:Nat) (F:ah aA) (aX:ah Nat) (bh:ah Nat):Wd:=⟨cuts,P.bt+1,P.az,P.az,bh,[],[],0,P.az,P.az,[],F,aX,[⟨F.length,[],⟨P.bt,0,P.az⟩⟩],F.length⟩
theorem Inv.zero (hP:P.Ok){cuts:Nat}{F:ah aA}{aX:ah Nat} (hj:Jr P.B 0 ((lY P [] ⟨P.bt,0,P.az⟩).map P.bs) F aX) (hF:F.length<=3000*(lY P [] ⟨P.bt,0,P.az⟩).length):Inv P (Wd.zero P cuts F aX (List.replicate 3 (P.bt+1))) 0:=by
 have AM:=hP.b2
 have Zg:=hP.t2
 have XA:(lY P [] ⟨P.bt,0,P.az⟩).length=2:=rfl
 have hS:tG P.az P.az (List.replicate 3 (P.bt+1)) [] (P.bt+1) P.az:=⟨⟨fun k t h _=>by simp at h,fun k h=>by simp at h,fun t h=>by simp at h⟩,bD _,bD _,by simp,by simp⟩
 refine⟨by exact lE [] hJ 0xb2020 aQ,⟨_,Jn.start hP.B1 hj ⟨by show P.bt < _;exact cw [P.bt] bJ og vT Zg aQ,by show 0 < _;exact lE [] hJ 0x10000000053021 aQ,by show P.az < _;exact cw [P.az] bJ og vT AM aQ⟩ (fun x hx=>by cases hx),by exact cw [(lY P [] {t:=P.bt,v:=0,c:=P.az}).length] bJ 0x1913000 0x22002 XA aQ⟩,by show F.length<=_;exact fw [F.length,(lY P [] {t:=P.bt,v:=0,c:=P.az}).length] 0xbb82011011030 0x124f833000 0x100bb825000 0x22102 hF XA aQ,by simp [Wd.zero],by simp [Wd.zero],by simp [Wd.zero],by simp [Wd.zero],?_,bD _,by simp [Wd.zero],hS,?_,by simp [Wd.zero],by simp [Wd.zero],by simp [Wd.zero],by show P.az<=_;exact lE [P.az] hJ 0x2320044000 aQ⟩
 ·intro t ht
  rw[(BZ.mp ht).2];exact bD _
 ·intro s hs
  have hs:=eT.mp hs
  subst hs
  exact⟨hS,by simp,by show P.bt<=P.bt+1;exact lE [P.bt] hJ 0x12004000 aQ,by show 0 < 300;exact lE [] hJ 0x12c23021 aQ⟩
theorem N2 {L:b5}{X:fk}{ns:ah Nat}{z cuts:Nat}{ak:ax} (hz:z < 2 ^ 30) (hn:ns≠[]) (hl:ns.length<=12) (hb:∀ x∈ns,x < 1000000) (hP:P.Ok) (h:H wa=aa (.i_ (fs0 P cuts ak))) (M1:H ak=aa (.bE []))
  (g1:L .xw=aa (.ref wa)) (g2:L .i8=aa (.bE (ns.map nv))) (g3:L .xz=aa (nv z)) (g4:L .cx=aa (nv P.az)) (g5:L .bU=aa (nv P.bt)):
  wSs (aM (n+11)) ag DW L H (fun o L1 H1=>o=.ret (.bool ag)) X:=by
 have AM:=cE hP.b2 (show 50000 < 2 ^ 32 by decide)
 have Zg:=cE hP.t2 (show 50000 < 2 ^ 32 by decide)
 have nwk:ak≠wa:=aZ M1 h nofun
 refine bo (bQ (aq (ai g1) (aq (cG aE (bX _)) (aq (dw (aq (ai g5) (aq aH (aq (ai g4) aE))) (aT rfl)) aE))) (ym (n:=n+3) (P:=P) (rows:=[]) (hd:=⟨P.bt,0,P.az⟩) hP h (aT rfl) ⟨rfl,rfl,rfl,rfl⟩ ⟨Zg,show 0 < 2 ^ 32 by decide,AM⟩ nofun (bX _) fun H1 f e wr sv F aX J8 hs8 q1 q2 K nf ne_ nwr nsv hj hF=>⟨rfl,?_⟩))
 refine bo (bQ (aq (ai g1) (aq (cG aE (bX _)) (aq (oz (aq (ai g5) (aq aH (aq (ai g4) aE)))) aE))) (DN (n:=n+7) (P:=P) (rows:=[]) (hd:=⟨P.bt,0,P.az⟩) hP J8.at_ (aT rfl) ⟨rfl,rfl,rfl,rfl⟩ rfl nofun (bX _) (fu P.az 0) fun H2 lg st un L2 h2 n1 n2 n3 K2=>⟨rfl,?_⟩))
 have e0:Lg.Jl P [] (max P.az P.az)=(Wd.zero P cuts F aX []).lg P:=by rw[Nat.max_self];rfl
 have T2:jh P H2 wa (cL (cL (ZC (fs0 P cuts ak) f e wr sv F.length) .cV (.ref st)) .xlog (.ref lg)) ⟨f,e,wr,ak,sv,st,lg,un⟩ (Wd.zero P cuts F aX []):=
  ⟨h2,⟨by exact aT rfl,rfl,rfl,rfl,rfl,rfl,rfl,rfl,rfl,rfl,rfl,rfl,rfl,rfl,rfl,rfl,rfl,rfl,rfl,rfl,rfl,rfl⟩,J8.W.keep K2 (gp (a_ h nwr).symm) (gp (a_ h nf).symm),K2 _ _ (gp (a_ h ne_).symm) J8.E,K2 _ _ (gp nwk) (K _ _ (gp nwk) M1),K2 _ _ (gp (a_ h nsv).symm) hs8,by rw[<- e0];exact L2,J8.fe,(a_ M1 nf).symm,q2,(a_ M1 ne_).symm,q1,a_ M1 nsv⟩
 exact N1 hz hn hl hb hP T2 (Inv.zero hP hj hF) g1 g2 g3 g4
end
section
variable {C:CC}{L:b5}{H:Hp}{e c:E}{xs:ah V}{j:Nat}
theorem Qw (p:PE C L H e (.bE xs)) (h:PE C L H c (.int j)) (hq:j<=2 ^ 62) (hl:xs.length<=line):PE C L H (.slice ag e .none c) (.bE (xs.take j)):=fun Q X z=>p _ _ (h _ _
 ⟨0,min j xs.length,hl,rfl,DP hq hl,aK (gj _ _ _) hl,by rw[Io,Ik];exact z⟩)
theorem Zc {ks:ah Nm}{es:Es}{Q:PV}{X:PX} (k:wEs C es L H (fun vs H1=>ks.length=vs.length/\∀ a,H1 a=au->Q (.ref a) (H1.set a (.i_ (ks.zip vs)))) X):wE C (.dict ks es) L H Q X:=k
end
section
variable {n:Nat}{H:Hp}{Q:PV}{X:PX}{wa:ax}{fs:ah (Nm×V)}{P:iJ}{a:Ad}{σ:Wd}{c:Nat}
theorem Dc {L:b5}{X:fk}{ns:ah Nat}{y z cuts B b t:Nat} (hz:z < 2 ^ 30) (hn:ns≠[]) (hl:ns.length<=12) (hb:∀ x∈ns,x < 1000000) (hP:(⟨B,b,t,[1,2+y % 300]⟩:iJ).Ok)
  (g2:L .i8=aa (.bE (ns.map nv))) (g3:L .xz=aa (nv z)) (g4:L .cx=aa (nv b)) (g5:L .bU=aa (nv t)) (g6:L .dB=aa (nv B)) (g7:L .qF=aa (nv cuts)) (g8:L .xy=aa (nv y)):
  wSs (aM (n+11)) ag DX L H (fun o L1 H1=>o=.ret (.bool ag)) X:=by
 have hc:=EB (n:=n+9) (H:=H) (L:=L) (x:=.bE [.int 1,nv (2+y % 300)]) hP.v rfl (aq (cG (aq aH (aq (cS (k:=2) aH (eA (j:=300) (ai g8) aH (by decide))) aE)) (aT rfl)) (aq (cG aE (bX _)) (aq (cG aE (bX _)) (aq (cG aE (bX _)) (aq fG aE)))))
 have hn0:=cG (C:=aM (n+11)) (L:=L) (H:=H) aE (bX _)
 refine bM (Zc (q7 (ai g4) (q7 (ai g5) (q7 (ai g6) (q7 (ai g7) (q7 hc (q7 (dM (ai g5)) (q7 hn0 (q7 (ai g4) (q7 hn0 (q7 (ai g4) (q7 (ai g4) (q7 aH (q7 (ai g4) (Ed (iH aE (bX _) fun ak M1=>YD ⟨rfl,fun wa hwa=>?_⟩))))))))))))))))
 have nwk:=eZ hwa aN
 exact N2 (P:=⟨B,b,t,[1,2+y % 300]⟩) (cuts:=cuts) (ak:=ak) hz hn hl hb hP aN (bZ nwk aN) rfl g2 g3 g4 g5
theorem PQ {L:b5}{X:fk}{ns:ah Nat}{x y z:Nat} (hz:z < 2 ^ 30) (hn:ns≠[]) (hl:ns.length<=12) (hb:∀ x∈ns,x < 1000000)
  (g2:L .i8=aa (.bE (ns.map nv))) (g3:L .xz=aa (nv z)) (g4:L .xx=aa (nv x)) (g8:L .xy=aa (nv y)):
  wSs (aM (n+11)) ag IX L H (fun o L1 H1=>o=.ret (.bool ag)) X:=by
 obtain⟨v,hv,VU⟩:∃ v:Nat,([.int 0,.int 126,.int 16382]:ah V)[y % 3]? =aa (nv v)/\v<=16382:=by
  have:y % 3 < 3:=dD _ (by decide)
  match y % 3,this with
  | 0,_=>exact⟨0,rfl,by decide⟩
  | 1,_=>exact⟨126,rfl,by decide⟩
  | 2,_=>exact⟨16382,rfl,by decide⟩
 have m1:(x+22) % 53<=52:=xG (dD _ (by decide))
 have m2:(x / 53+198) % 19999<=19998:=xG (dD _ (by decide))
 have m3:y / 3 % 2<=1:=xG (dD _ (by decide))
 have m4:y % 300 < 300:=dD _ (by decide)
 have hv:mf [1,2+y % 300]:=⟨List.pairwise_cons.mpr ⟨fun u hu=>by rw[eT.mp hu];exact lT [] 0x12c2003101 [y] hJ 0x20224121 aQ,Yc ..⟩,bD 2,fun u hu=>by
  rcases dT.mp hu with rfl |hu
  ·decide
  ·rw[eT.mp hu];exact gg [] 0x12c2003101 [y] bJ 0x10000000053202241 0x12c23201 m4 aQ⟩
 have hP:(⟨8+(x+22) % 53,2+(x / 53+198) % 19999,1+v+y / 3 % 2,[1,2+y % 300]⟩:iJ).Ok:=
  ⟨fu ..,aK (dX m1 8) (by decide),fu ..,aK (dX m2 2) (by decide),aK (fu ..) (fu ..),aK (fS (dX VU 1) m3) (by decide),hv,nofun⟩
 refine aR (cS (k:=2) aH (eA (j:=19999) (cS (q:=198) (fh (j:=53) (ai g4) aH (by decide) (by decide)) aH) aH (by decide))) ?_
 refine aR (cS (cS (k:=1) aH (gG (cG (aq aH (aq aH (aq aH aE))) (aT rfl)) (eA (j:=3) (ai g8) aH (by decide)) ‹_› (aT rfl))) (eA (j:=2) (fh (j:=3) (ai g8) aH (by decide) (by decide)) aH (by decide))) ?_
 refine aR (cS (k:=8) aH (eA (j:=53) (cS (q:=22) (ai g4) aH) aH (by decide))) (aR (v:=nv 2) aH ?_)
 refine q_ (gq (j:=16) (ai rfl) aH) (fun _=>aR (v:=nv 1) aH (bG (bC ?_))) fun _=>bG (bC ?_)
 ·exact Dc (cuts:=1) hz hn hl hb hP g2 g3 rfl rfl rfl rfl g8
 ·exact Dc (cuts:=2) hz hn hl hb hP g2 g3 rfl rfl rfl rfl g8
theorem PR {L:b5}{X:fk}{ns:ah Nat} (hn:ns≠[]) (hl:ns.length<=12) (hb:∀ x∈ns,x < 1000000) (g2:L .i8=aa (.bE (ns.map nv))):
  wSs (aM (n+11)) ag Bs L H (fun o L1 H1=>o=.ret (.bool ag)) X:=by
 refine bM (bQ (aq (ai g2) (aq (aH (i:=((0:Nat):Int))) aE)) (nF (n:=n+10) (i:=0) hn hl hb (by decide) fun x hx=>?_))
 refine bM (bQ (aq (ai g2) (aq (aH (i:=((1:Nat):Int))) aE)) (nF (n:=n+10) (i:=1) hn hl hb (by decide) fun y hy=>?_))
 refine bM (bQ (aq (ai g2) (aq (aH (i:=((2:Nat):Int))) aE)) (nF (n:=n+10) (i:=2) hn hl hb (by decide) fun z hz=>?_))
 exact PQ hz hn hl hb g2 rfl rfl rfl
theorem acB {is:ah Int} (hl:is.length<=1000) (q:∀ H',Q (.bool ag) H'):aM (n+12) .law [.bE (is.map .int)] H Q X:=by
 have hm:∀ i:Int,i % 999983=(((i % 999983).toNat:Nat):Int):=fun i=>by lia
 have key:∀ {ns:ah Nat}{L:b5},ns≠[]->ns.length<=12->(∀ x∈ns,x < 1000000)->L .i8=aa (.bE (ns.map nv))->wSs (aM (n+11)) ag Bs L H (Ck Q) (wU X):=by
  intro ns L h1 h2 h3 h4
  refine dG (dj _) _ ?_ (fun _ _ _ h=>h) (PR h1 h2 h3 h4)
  rintro o L2 H2 rfl
  exact q H2
 have lP:(is.map (Vx.int:Int->V)).length<=line:=by rw[cF];exact aK hl (by decide)
 have Zm:(is.take 12).length<=12:=by rw[eX];exact Gn ..
 have hc:PE (aM (n+11)) (b5.none.sets Fn.law.ps [.bE (is.map .int)]) H (.comp ag (.bR .mod (.aC .xx) (.int 999983)) ao [.xx] (.slice ag (.aC .Eb) .none (.int 12)) .none []) (.bE (((is.take 12).map fun i=>(i % 999983).toNat).map nv)):=by
  refine iV (Hy .int (fun i=>nv (i % 999983).toNat) (is.take 12) (iV (Qw (j:=12) (ai rfl) aH (by decide) lP) sF.symm) rfl (aK Zm (by decide)) fun i _=>eW (rj (ai rfl) aH (by decide)) (hm i)) (by rw[LK];rfl)
 have hlen:(((is.take 12).map fun i=>(i % 999983).toNat).map nv).length<=12:=by rw[cF,cF];exact Zm
 refine bA rfl (aR hc (q_ (fF (j:=0) (eY (ai rfl) (aK hlen (by decide))) aH) (fun _=>?_) fun h=>?_))
 ·exact aR (cG (aq aH aE) (aT rfl)) (bG (bC (key (ns:=[0]) nofun (by decide) (fun x hx=>by rw[eT.mp hx];decide) rfl)))
 ·refine bG (bC (key (ns:=(is.take 12).map fun i=>(i % 999983).toNat) (fun q=>h (by rw[q];rfl)) (by rw[cF];exact Zm) (fun x hx=>?_) rfl))
  obtain⟨i,_,rfl⟩:=l9.mp hx
  lia
end
theorem lay_ints {R:WRecords}{cl:Str->aB ax}{P:Params}{ord:ah cI->ah cI}{g:Gh}:∀ (xs:ah WData) (s s':aF) (vs:ah av),WShape.hasItems R xs .int=ag->layAllW R cl P ord xs s=aa (vs,s')->
  s'.heap=s.heap/\∃ is:ah Int,is.length=xs.length/\dF (er g) vs (is.map .int)
 |[],s,s',vs,h,e=>by
  cases e
  exact⟨rfl,[],rfl,.nil⟩
 |x::xs,s,s',vs,h,e=>by
  have h:=ed.mp h
  obtain⟨i,rfl⟩:=hasW_int h.1
  obtain⟨a,q,e1,e2,e3⟩:=layAllW_cons e
  cases e1
  cases e3
  have⟨h1,is,h2,h3⟩:=lay_ints (g:=g) xs _ _ _ h.2 e2
  exact⟨h1,i::is,aW (· +1) h2,.cons ⟨_,rfl⟩ h3⟩
theorem walk {q:dx}{loose:ah Str}{XP:(Str->aB av)->bB->Prop}{d:DefRec}{kwd:ah (Str×ay)} (hn:d.name=Str.ofString "law"):
  Yt q loose XP (fun _ h=>∃ K:cW,K.In h/\good K=ag) PySem.Challenge.rw_xm0842_01.row.toRowW d kwd (fun f vs=>_root_.PySem.call f vs):=by
 intro w s₀ s₁ mg mb G Y a hmg x9 args vals as E9 Ru L
 obtain⟨K,hK,GF⟩:=Y
 have D:Gd ⟨PySem.Challenge.rw_xm0842_01.row.toRowW.prog,w,s₁.heap,dR⟩ K:=ach hK rfl GF
 have F:NQ ⟨PySem.Challenge.rw_xm0842_01.row.toRowW.prog,w,s₁.heap,dR⟩:=ZD hK rfl GF G.T.nolimit
 cases eS (hmg.symm.trans (hn▸mg_of hK G.T.g (D.gf .law rfl)))
 obtain⟨hsh,hpr⟩:=pre_splitW E9
 obtain⟨d0,r0,rfl,Cf,OL⟩:=hasAllW_cons hsh
 cases hasAllW_nil OL
 obtain⟨xs,rfl,hit⟩:=hasW_list Cf
 have hlen:xs.length<=63:=by
  have h:((WTm.not (.lt (.lit (.int ((63:Nat):Int))) (.len (.arg 0)))).and (.lit (.bool ag))).holds [] {args:=[.list xs]}=ag:=hpr
  by_cases hc:(63:Int) < (xs.length:Int)
  ·simp [WTm.holds,WTm.value,less?,Num.less?,hc] at h
  ·lia
 obtain⟨l,its,is,rfl,hl,hil,hits⟩:∃ (l:ax) (its:bS av) (is:ah Int),vals=[.ref l]/\s₁.heap.get? l=aa ⟨.type "list",au,.seq its 0,#[]⟩/\is.length<=63/\∀ g,dF (er g) its.toList (is.map .int):=by
  obtain⟨ord,Rr,hl⟩:=L.laid
  obtain⟨a1,q1,e1,e2,e3⟩:=layAllW_cons hl
  obtain⟨q2,e4,e5⟩:=layW_list e1
  cases e5
  cases e2
  cases e3
  obtain⟨h1,is,h2,h3⟩:=lay_ints (g:=⟨fun _=>au,fun _=>au⟩) xs _ _ _ hit e4
  exact⟨_,_,is,rfl,jg _ rfl,h2▸hlen,fun g=>by rw[List.toList_toArray];exact h3.bT fun v x e=>e.le ⟨fun _ _ h=>(nomatch h),fun _ _ h=>(nomatch h)⟩⟩
 have R:Rep ⟨PySem.Challenge.rw_xm0842_01.row.toRowW.prog,w,s₁.heap,dR⟩ ⟨s₁,⟨fun b=>if b=l then aa (.bE (is.map .int)) else au,fun _=>au⟩,fun _=>au⟩:=
  {yC:=fun b x e=>c7 e (fun hb e=>by cases e;cases hb;exact .mk its 0 hl (hits _)) fun _ e=>nomatch e
   yJ:=fun _ _ e=>nomatch e
   zm:=fun _ _ _=>rfl
   dz:=fun _ _ e=>nomatch e
   Js:=fun _ _ e=>nomatch e
   stays:=fun _ _ e=>e
   EV:=fun _ _ e=>nomatch e
   newD:=fun _ _ e=>nomatch e}
 have hlw:aM 12 .law [.bE (is.map .int)] (fun _=>au) (fun v _=>v=.bool ag) VE:=acB (n:=0) (aK hil (by decide)) fun _=>rfl
 have hc:=Iz (A:=callerA) (fr:=[]) (us:=[.ref l]) D F (Nq D F 11) hlw ⟨by decide,by decide⟩ rfl rfl rfl R ⟨trivial,fun b hb=>absurd hb uV⟩ (.cons (show er _ (.ref l) (.bE (is.map .int)) from Ji.mk l rfl (a8 rfl)) .nil)
 refine I.call (I.pN hc fun r s' hr=>?_)
 cases r with
 |error e=>obtain⟨ea,a0,D,τ,he,t,f,x⟩:=hr;exact x.elim
 |ok f=>
  cases f with
  |ret v=>
   obtain⟨g',H',x,e,rel,q⟩:=hr
   subst q
   cases(show v=.bool ag from e)
   have Dw:PySem.Challenge.rw_xm0842_01.row.toRowW.claim.post [.list xs] (.bool ag) [.list xs]=ag:=by kernel_rfl
   refine⟨.inl ⟨_,.bool ag,[],rfl,fun _=>rfl,(.bool ag),Dw,fun _=>⟨.nil,fun a h=>(nomatch h)⟩⟩,.of_keep rel.rep.stays,rel.os,?_⟩
   rw[rel.gens,x9]
   exact fun y hy=>by simp at hy
  |_=>exact hr.elim
theorem Ij (t:Thread):(endAt 0 t).isSome=through t:=by
 obtain⟨cur,code,pos,stack⟩:=t
 cases stack with
 |cons=>rfl
 |nil=>cases cur with
  |pure f=>cases f<;>rfl
  |_=>rfl
section
variable {tb:b_->aB sr}{p:dx}{w:dQ}{n₀:Nat}{ann:aB av}{n:Nat}{s s':aF}{t:Thread}{r:iR×aF×fj×Pos}
theorem UZ (ih:∀ {s t},segRun tb p w n₀ ann 0 n s t=aa r->topRun tb p w n₀ ann n s t=aa r.2.1){x:aB iR}{b k:aj} (hb:x.isSome=b) (y:Step)
  (h:(match (generalizing:=false) x with |some f=>aa (f,s,t.code,t.pos) |none=>match (generalizing:=false) k with |false=>au |true=>match (generalizing:=false) y with |.go s' t'=>segRun tb p w n₀ ann 0 n s' t' |.halt _ _=>au)=aa r):
  (match (generalizing:=false) b with |true=>aa s |false=>match (generalizing:=false) k with |false=>au |true=>match (generalizing:=false) y with |.go s' t'=>topRun tb p w n₀ ann n s' t' |.halt _ _=>au)=aa r.2.1:=by
 subst hb
 cases x with
 |some f=>exact aW (fun x=>x.map (·.2.1)) h
 |none=>cases k with
  |false=>exact nomatch h
  |true=>cases y with
   |go=>exact ih h
   |halt=>exact nomatch h
theorem De:∀ {n:Nat}{s:aF}{t:Thread},segRun tb p w n₀ ann 0 n s t=aa r->topRun tb p w n₀ ann n s t=aa r.2.1
 | 0,_,_,h=>nomatch h
 |n+1,s,t,h=>UZ De (Ij t) (step (denote tb) p w s t) h
end
theorem boot_abs (w:dQ) (os:iQ):(Sf w os).abs=⟨boot_heap w.params,#[],boot_drawn,boot_toks,os⟩:=by kernel_rfl
theorem O8 (P:Params):(boot_heap P).objs.size=11:=by kernel_rfl
theorem Sb (P:Params):(boot_heap P).nsMap mainGlobals "__annotations__"=aa (.ref 6):=by kernel_rfl
theorem Wo (P:Params):((boot_heap P).isNs mainGlobals&&(#[]:bS GenState).size==0)=ag:=by kernel_rfl
theorem VI {p q:dx}{loose:ah Str}{Xt Y:aF->aj}{N:Nat} (e:opening p=plainProg p.main.scope.names) (hN:Nat.ble 600 N=ag) (f:∀ s,fenceModules? p s=aa s)
  (K:∀ (w:dQ) (os:iQ),(segRunT treeTable p w 11 (aa (.ref 6)) 0 N (Sf w os) (topStub p)).map (VH p q loose Xt Y w.params)=aa (ag,openGood q loose,ag)):LeftO p q loose Xt Y (fun _=>ag) N:=fun w=>by
 obtain⟨s0,hs,hv⟩:=yu.mp (boot_open e hN f w)
 obtain⟨heap,gens,drawn,toks,os⟩:=s0
 cases hv
 obtain⟨⟨fl,s',c,q'⟩,hr,hl⟩:=yu.mp (K w os)
 have ht:=De (segRun_of hr)
 rw[boot_abs] at ht
 obtain⟨h1,h2⟩:=sy hl
 obtain⟨h2,h3⟩:=sy h2
 have hT:topFrom treeTable p w N ⟨boot_heap w.params,#[],boot_drawn,boot_toks,os⟩=aa s'.abs:=by
  unfold topFrom
  rw[Wo]
  show(topRun treeTable p w (boot_heap w.params).objs.size ((boot_heap w.params).nsMap mainGlobals "__annotations__") N _ _).bind _=_
  rw[O8,Sb,ht]
  show(match staticsOk (importedModules p.main.body) (boot_heap w.params) s'.abs.heap&&namesBound p s'.abs.heap&&gensDone s'.abs&&laidKept (boot_heap w.params) s'.abs.heap with |true=>aa s'.abs |false=>au)=_
  rw[show(staticsOk (importedModules p.main.body) (boot_heap w.params) s'.abs.heap&&namesBound p s'.abs.heap&&gensDone s'.abs&&laidKept (boot_heap w.params) s'.abs.heap)=ag from h1]
 have hO:openEnds treeTable p w N=aa s'.abs:=by
  unfold openEnds
  rw[hs]
  exact hT
 rw[hO]
 exact aW aa (Prod.ext h2 h3)
theorem MP {α β:Type}{g:α->β}{d:α}{e:β}:∀ (l:ah α) (n:Nat),n < l.length->ux (l.map g) n e=g (ux l n d)
 |[],_,h=>absurd h (Gm _)
 |_::_,0,_=>rfl
 |_::l,n+1,h=>MP l n (X5 h)
theorem G5:∀ (k c:Nat),(P0 k c).length=k
 | 0,_=>rfl
 |k+1,c=>aW (· +1) (G5 k (c / 2048))
theorem allB_of:∀ {n:Nat}{p:(m:Nat)->Nat.ble m n=ag->aj},(∀ m h,p m h=ag)->allB n p=ag
 | 0,_,h=>h 0 rfl
 |n+1,_,h=>ed.mpr ⟨h _ _,allB_of fun _ _=>h _ _⟩
theorem F5 {lo hi:Nat} (h:I7 lo hi=ag) (f:Fn) (h1:lo<=f.n) (h2:f.n < hi):o1 (ux m9 f.n au) (rD f)=ag:=
 (md.mp (BB (p:=fun f=>(Nat.blt f.n lo || Nat.ble hi f.n) || o1 (ux m9 f.n au) (rD f)) h f)).elim
  (fun h=>(md.mp h).elim (fun h=>absurd (aT h) (gv h1)) fun h=>absurd (aT h) (BS h2)) id
theorem Ws (f:Fn):o1 (ux m9 f.n au) (rD f)=ag:=
 (Gg f.n 60).elim (F5 aeN f (bX _)) fun h=>(Gg f.n 96).elim (F5 aeM f h) fun h=>(Gg f.n 108).elim (F5 aeL f h) fun h=>
  F5 aeK f h (cE (aT f.h) (by decide))
theorem VY {K:cW} (h1:allB 23 (fun m h=>Ic K ⟨m,h⟩)=ag) (h2:(allB 112 (fun m h=>w8 K ⟨m,h⟩)&&M3 K)=ag) (h3:uZ.map (XS K)=m9):good K=ag:=
 have h2:=ed.mp h2
 ed.mpr ⟨ed.mpr ⟨ed.mpr ⟨h1,h2.1⟩,h2.2⟩,allB_of fun m h=>by
  have e:=MP (g:=XS K) (d:=0) (e:=none) uZ m (by unfold uZ;rw[G5];exact sI (aT h))
  rw[h3] at e
  show o1 (XS K (ux uZ m 0)) (rD ⟨m,h⟩)=ag
  rw[<- e]
  exact Ws ⟨m,h⟩⟩
theorem OD {α β γ:Type}{o:aB α}{a:α->β}{b:α->γ}{K:α->cW}{x:β}{y:γ} (h:o.map (fun r=>((a r,b r),allB 23 fun m h=>Ic (K r) ⟨m,h⟩))=aa ((x,y),ag)) (h1:o.map (fun r=>(allB 112 (fun m h=>w8 (K r) ⟨m,h⟩)&&M3 (K r),uZ.map (XS (K r))))=aa (ag,m9)):
  o.map (fun r=>(a r,b r,good (K r)))=aa (x,y,ag):=by
 cases o with
 |none=>exact no h
 |some r=>
  have e:=sy (eS h)
  have e1:=sy (eS h1)
  show aa (a r,b r,good (K r))=_
  rw[VY e.2 e1.1 e1.2,(sy e.1).1,(sy e.1).2]
theorem left:LeftO vj sS vk P6 (fun s=>good (Oa s)) (fun _=>ag) 10200:=VI rfl rfl (fun _=>rfl) fun w os=>by
 rw[aeP,aeO]
 exact OD (adU w os) (adT w os)
set_option maxRecDepth 100000 in
set_option maxHeartbeats 8000000 in
theorem main:_root_.PySem.Challenge.rw_xm0842_01.Holds:=by
 w_on
 refine holds_law adS fun _=>?_
 refine Mine.PySem.W.holds_open (q:=sS) (loose:=vk) (Xt:=P6) (XP:=XL sS []) (Yf:=fun s=>good (Oa s)) (Ya:=fun _=>ag) (YP:=fun _ h=>∃ K:cW,K.In h/\good K=ag) (N:=10200) left (fun w s e=>KA e) (fun _ _ _ ⟨K,a,b⟩ k=>⟨K,a.keeps k,b⟩)
  (fun s e=>xl_of s (ed.mp e).1) XL.keeps (by rfl) (by rfl) (by rfl) (fun s e=>recFacts_of (ed.mp e).2) (by rfl) (by first |assumption |decide+kernel) (by decide+kernel) ⟨rfl,rfl,rfl,rfl,rfl,by decide+kernel⟩ ?hw ?hc
 case hw=>w_witness2
 exact walk rfl
end Mine
theorem PySem.Challenge.cw_xm0842_01_holds : PySem.Challenge.rw_xm0842_01.Holds :=
  Mine.main
